import PyProof.Rows.All
import Wide.All
import OpenK.AllK
import Wide.FinOn
import HandS.ForMost
import HandS.ForExc
import HandS.Deep
import HandS.Iter
import HandS.Lambda
import KE.KDictKeyed
import HandS.IsInst
import HandS.TupAny
import HandS.TupMul
import HandS.Style
import KE.SortData
import KE.SortCalls
import HandS.Dict
import HandS.SortInts
import HandS.Zip
import HandS.More
import KE.KDictCopyH
import HandS.DictComp
import KE.KDictDisplayH
import KE.GoesEnum
import KE.DataMinMax
import HandS.SortKw
import HandS.Conv
import KE.KNestM
import HandS.EndTab
import PySem.Challenge.RW_stewardsight_k07_within_papers_are_right
set_option Elab.async false
set_option linter.all false
set_option autoImplicit false
set_option maxRecDepth 100000
/-! Ev0: data values D, how the abstract heap bears them, what an evaluation leaves (Grow, Mdl), the readings RdV, RdP, RdT. -/
namespace Ev
open PySem PySem.Spec PyProof.Rows L2

abbrev St := L2.St

inductive D where
  | none | bool (b : Bool) | int (i : Int) | str (s : Str)
  | tup (xs : List D) | lst (xs : List D) | pool | scr (ns : List Int)
  /-- a dict: its keys and values in order -/
  | dict (ks vs : List D)
  /-- a lambda, by its number, and what it captured -/
  | clo (n : Nat) (caps : List D)
  /-- an instance of an own class -/
  | obj (c : Nat) (ns : List Str) (vs : List D)
  deriving Inhabited

/-! ### the evaluation monad: the number of draws is its state -/
def M (α : Type) := Nat → Option (α × Nat)
def M.ret {α : Type} (a : α) : M α := fun n => some (a, n)
def M.bind {α β : Type} (x : M α) (f : α → M β) : M β := fun n => match x n with
  | .none => .none
  | .some (a, n') => f a n'
def M.fail {α : Type} : M α := fun _ => .none
def M.opt {α : Type} (o : Option α) : M α := fun n => match o with
  | .none => .none
  | .some a => some (a, n)
instance : Monad M where
  pure := M.ret
  bind := M.bind
@[simp] theorem M.pure_ap {α : Type} (a : α) (n : Nat) : (pure a : M α) n = some (a, n) := rfl
@[simp] theorem M.ret_ap {α : Type} (a : α) (n : Nat) : (M.ret a : M α) n = some (a, n) := rfl
@[simp] theorem M.fail_ap {α : Type} (n : Nat) : (M.fail : M α) n = .none := rfl
theorem M.bind_ap {α β : Type} (x : M α) (f : α → M β) (n : Nat) : (x >>= f) n = match x n with
  | .none => .none
  | .some (a, n') => f a n' := rfl
theorem M.bind_some {α β : Type} {x : M α} {f : α → M β} {n : Nat} {r : β × Nat} (h : (x >>= f) n = some r) : ∃ a n', x n = some (a, n') ∧ f a n' = some r := by
  rw [M.bind_ap] at h
  split at h
  · cases h
  · exact ⟨_, _, by assumption, h⟩
@[simp] theorem M.opt_some {α : Type} (a : α) : (M.opt (some a) : M α) = pure a := rfl
theorem M.opt_ok {α : Type} {o : Option α} {n : Nat} {r : α × Nat} (h : (M.opt o : M α) n = some r) : o = some r.1 ∧ r.2 = n := by
  unfold M.opt at h
  cases o with
  | none => cases h
  | some a => cases h; exact ⟨rfl, rfl⟩

/-! ### where the pool stands -/
/-- a lambda's text -/
structure LamT where
  qual : Str
  params : Arguments
  body : Expr
  scope : Scope
  caps : List Str
structure Gh where
  live : Bool
  K : PySem.W.Frag
  pp : Addr
  pr : Addr
  pc : Addr
  rows : List Int
  w : World
  lam : Nat → LamT → Prop
  cls : Nat → Option Addr
  tabs : List (Addr × Str)
  /-- the cells of the frame's own lambdas -/
  lcl : LamT → List (Str × Addr)
  /-- the instance that is being made -/
  slf : Addr

/-! ### keys of dicts -/
mutual
def keyOf : D → NestedKey
  | .int i => .num i
  | .str s => .text s
  | .tup xs => .tup (keysOf xs)
  | _ => .none
def keysOf : List D → List NestedKey
  | [] => []
  | x :: xs => keyOf x :: keysOf xs
end
mutual
/-- data of a key, at most so deep -/
def keyB : Nat → D → Bool
  | _, .none => true
  | _, .int _ => true
  | _, .str _ => true
  | 0, .tup _ => false
  | n + 1, .tup xs => keysB n xs
  | _, _ => false
def keysB : Nat → List D → Bool
  | _, [] => true
  | n, x :: xs => keyB n x && keysB n xs
end
def isTup : D → Bool
  | .tup _ => true
  | _ => false
/-- a tuple that can be a key -/
def tupKey (d : D) : Bool := isTup d && keyB 8 d
def keyD : Key → D
  | .inl i => .int i
  | .inr s => .str s
def kEq (a b : D) : Bool := decide (keyOf a = keyOf b)
def didx (ks : List D) (k : D) : Option Nat := ks.findIdx? (kEq · k)
def isK : D → Bool
  | .int _ => true
  | .str _ => true
  | _ => false
/-- the keys and the key are of one kind -/
def kindOk (ks : List D) (k : D) : Bool := (isK k && ks.all isK) || (tupKey k && ks.all isTup)
def dgetD (ks vs : List D) (k : D) : Option D := (didx ks k).bind fun i => vs[i]?
def dkeys (ks : List D) (k : D) : List D := if (didx ks k).isSome then ks else ks ++ [k]
def dvals (ks vs : List D) (k d : D) : List D := match didx ks k with
  | some i => vs.set i d
  | none => vs ++ [d]
/-- a dict whose keys are tuples: hashes, keys' addresses, values -/
def DX (a : Addr) (es : List (Int × Addr × V)) : HO := .ext fun h => (a == sysModules) = false ∧ es.length ≤ sizeLine ∧ ∃ o es' ep, h.get? a = some o ∧ o.ExactDict ∧ o.data = .dict es' ep ∧
  Paired (fun (x : Int × Addr × V) (y : DictEntry) => y.hash = x.1 ∧ y.key = .ref x.2.1 ∧ RelV x.2.2 y.val) es es'.toList
structure DXOk (g : Gh) (es : List (Int × Addr × V)) (ks : List D) : Prop where
  key : ∀ k ∈ ks, tupKey k = true
  hash : es.map (·.1) = ks.map fun k => (keyOf k).hash g.w
  nd : (ks.map keyOf).Nodup
/-! ### lambdas -/
def LamO (f : Addr) (L : LamT) (cl : List (Str × Addr)) (pm ctv : Value) (c' : Addr) : HO := .ext fun h => h.get? f = some (PySem.W.kla_obj "<lambda>" L.qual L.params L.body L.scope cl pm c' ctv)
/-- a cell whose object is known -/
def CellP (o : Obj) : HO := .frz o (.ext fun _ => True)
inductive CellsF (F : Hp) (cl : List (Str × Addr)) : List Str → List Addr → List V → Prop
  | nil : CellsF F cl [] [] []
  | cons {x : Str} {xs : List Str} {c : Addr} {cs : List Addr} {v : V} {vs : List V} {o : Obj} {u : Value} : cl.lookup x = some c → F c = some (CellP o) → o.data = .cell (some u) → RelV v u → CellsF F cl xs cs vs → CellsF F cl (x :: xs) (c :: cs) (v :: vs)
def eraseL (F : Hp) (cs : List Addr) : Hp := fun a => if a ∈ cs then Option.none else F a
theorem eraseL_some {F : Hp} {cs : List Addr} {a : Addr} {o : HO} (h : eraseL F cs a = some o) : a ∉ cs ∧ F a = some o := by
  unfold eraseL at h
  split at h
  · cases h
  · exact ⟨by assumption, h⟩
theorem eraseL_mono {F F' : Hp} {cs : List Addr} (e : Same F F') : Same (eraseL F cs) (eraseL F' cs) := fun a o h => by
  obtain ⟨h1, h2⟩ := eraseL_some h
  unfold eraseL
  rw [if_neg h1]
  exact e _ _ h2
theorem eraseL_sub {F : Hp} {cs : List Addr} : Same (eraseL F cs) F := fun a o h => (eraseL_some h).2
theorem CellsF.mono {F F' : Hp} {cl : List (Str × Addr)} (e : Same F F') : ∀ {xs : List Str} {cs : List Addr} {vs : List V}, CellsF F cl xs cs vs → CellsF F' cl xs cs vs
  | _, _, _, .nil => .nil
  | _, _, _, .cons h1 h2 h3 h4 t => .cons h1 (e _ _ h2) h3 h4 (CellsF.mono e t)

/-- a lambda's cells: by its captured names, each its own -/
structure ClOk (caps : List Str) (cl : List (Str × Addr)) : Prop where
  dom : ∀ x c, cl.lookup x = some c → x ∈ caps
  inj : ∀ x y c, cl.lookup x = some c → cl.lookup y = some c → x = y
mutual
inductive Rep (g : Gh) : Hp → V → D → Prop
  | non {F : Hp} : Rep g F .non .none
  | bl {F : Hp} (b : Bool) : Rep g F (.bl b) (.bool b)
  | int {F : Hp} (i : Int) : Rep g F (.int i) (.int i)
  | str {F : Hp} (x : Str) : Rep g F (.str x) (.str x)
  | tup {F : Hp} {a : Addr} {vs : List V} {ds : List D} : SqT g.K F a vs → RepAll g F vs ds → Rep g F (.ref a) (.tup ds)
  | lst {F : Hp} {a : Addr} {vs : List V} {ds : List D} : F a = some (.lst vs) → RepAll g F vs ds → Rep g F (.ref a) (.lst ds)
  | pool {F : Hp} : Rep g F (.ref g.pp) .pool
  | scr {F : Hp} {a : Addr} {ns : List Int} : SqL g.K F a (ns.map V.int) → Rep g F (.ref a) (.scr ns)
  | dictK {F : Hp} {a : Addr} {od : Obj} {kvs : List (Key × V)} {ds : List D} : F a = some (.frz od (.dK kvs)) → RepAll g F (kvs.map (·.2)) ds → Rep g F (.ref a) (.dict (kvs.map fun p => keyD p.1) ds)
  | dictT {F : Hp} {a : Addr} {od : Obj} {es : List (Int × Addr × V)} {ks ds : List D} : F a = some (.frz od (DX a es)) → DXOk g es ks → RepAll g F (es.map fun e => .ref e.2.1) ks → RepAll g F (es.map (·.2.2)) ds → Rep g F (.ref a) (.dict ks ds)
  | clo {F : Hp} {f c' : Addr} {n : Nat} {L : LamT} {cl : List (Str × Addr)} {pm ctv : Value} {cs : List Addr} {vs : List V} {ds : List D} : g.lam n L → F f = some (LamO f L cl pm ctv c') → F c' = some (LamX.CodeO c' L.qual) → ClOk L.caps cl → CellsF F cl L.caps cs vs → RepAll g (eraseL F cs) vs ds → Rep g F (.ref f) (.clo n ds)
  | obj {F : Hp} {a C dx : Addr} {c : Nat} {ns : List Str} {vs : List V} {ds : List D} : g.cls c = some C → F a = some (.ins C dx (ns.zip vs)) → ns.length = vs.length → RepAll g F vs ds → Rep g F (.ref a) (.obj c ns ds)
inductive RepAll (g : Gh) : Hp → List V → List D → Prop
  | nil {F : Hp} : RepAll g F [] []
  | cons {F : Hp} {v : V} {vs : List V} {d : D} {ds : List D} : Rep g F v d → RepAll g F vs ds → RepAll g F (v :: vs) (d :: ds)
end

theorem seqT_mono {K : PySem.W.Frag} {H H' : Hp} {a : Addr} {xs : List V} (e : Same H H') (h : SqT K H a xs) : SqT K H' a xs := by
  rcases h with (h | ⟨o, h⟩) | h
  · exact .inl (.inl (e _ _ h))
  · exact .inl (.inr ⟨o, e _ _ h⟩)
  · exact .inr h

section
variable {g : Gh}
mutual
theorem Rep.mono : ∀ {F F' : Hp} {v : V} {d : D}, Same F F' → Rep g F v d → Rep g F' v d
  | _, _, _, _, _, .non => .non
  | _, _, _, _, _, .bl b => .bl b
  | _, _, _, _, _, .int i => .int i
  | _, _, _, _, _, .str x => .str x
  | _, _, _, _, e, .tup h r => .tup (seqT_mono e h) (RepAll.mono e r)
  | _, _, _, _, e, .lst h r => .lst (e _ _ h) (RepAll.mono e r)
  | _, _, _, _, _, .pool => .pool
  | _, _, _, _, e, .scr h => .scr (e.seq h)
  | _, _, _, _, e, .dictK h r => .dictK (e _ _ h) (RepAll.mono e r)
  | _, _, _, _, e, .dictT h o r1 r2 => .dictT (e _ _ h) o (RepAll.mono e r1) (RepAll.mono e r2)
  | _, _, _, _, e, .clo h1 h2 h3 h0 h4 r => .clo h1 (e _ _ h2) (e _ _ h3) h0 (h4.mono e) (RepAll.mono (eraseL_mono e) r)
  | _, _, _, _, e, .obj h1 h2 h3 r => .obj h1 (e _ _ h2) h3 (RepAll.mono e r)
theorem RepAll.mono : ∀ {F F' : Hp} {vs : List V} {ds : List D}, Same F F' → RepAll g F vs ds → RepAll g F' vs ds
  | _, _, _, _, _, .nil => .nil
  | _, _, _, _, e, .cons h r => .cons (Rep.mono e h) (RepAll.mono e r)
end
variable {F F' : Hp}
theorem RepAll.length : ∀ {vs : List V} {ds : List D}, RepAll g F vs ds → vs.length = ds.length
  | _, _, .nil => rfl
  | _, _, .cons _ r => by simp [RepAll.length r]
theorem RepAll.get : ∀ {vs : List V} {ds : List D} {i : Nat} {d : D}, RepAll g F vs ds → ds[i]? = some d → ∃ v, vs[i]? = some v ∧ Rep g F v d
  | _, _, i, _, .nil, h => by simp at h
  | _, _, 0, _, .cons h _, e => by simp at e; subst e; exact ⟨_, rfl, h⟩
  | _, _, i + 1, d, .cons _ r, e => by
    obtain ⟨v, h1, h2⟩ := RepAll.get (i := i) (d := d) r (by simpa using e)
    exact ⟨v, by simpa using h1, h2⟩
theorem RepAll.getV : ∀ {vs : List V} {ds : List D} {i : Nat} {v : V}, RepAll g F vs ds → vs[i]? = some v → ∃ d, ds[i]? = some d ∧ Rep g F v d
  | _, _, i, _, .nil, h => by simp at h
  | _, _, 0, _, .cons h _, e => by simp at e; subst e; exact ⟨_, rfl, h⟩
  | _, _, i + 1, d, .cons _ r, e => by
    obtain ⟨v, h1, h2⟩ := RepAll.getV (i := i) (v := d) r (by simpa using e)
    exact ⟨v, by simpa using h1, h2⟩
theorem RepAll.append : ∀ {vs ws : List V} {ds es : List D}, RepAll g F vs ds → RepAll g F ws es → RepAll g F (vs ++ ws) (ds ++ es)
  | _, _, _, _, .nil, s => s
  | _, _, _, _, .cons r t, s => .cons r (RepAll.append t s)
theorem RepAll.take : ∀ {vs : List V} {ds : List D} (n : Nat), RepAll g F vs ds → RepAll g F (vs.take n) (ds.take n)
  | _, _, 0, _ => .nil
  | _, _, _ + 1, .nil => .nil
  | _, _, n + 1, .cons r t => .cons r (RepAll.take n t)
theorem RepAll.drop : ∀ {vs : List V} {ds : List D} (n : Nat), RepAll g F vs ds → RepAll g F (vs.drop n) (ds.drop n)
  | _, _, 0, r => r
  | _, _, _ + 1, .nil => .nil
  | _, _, n + 1, .cons _ t => RepAll.drop n t
theorem RepAll.set {v : V} {d : D} (r : Rep g F v d) : ∀ {vs : List V} {ds : List D} (i : Nat), RepAll g F vs ds → RepAll g F (vs.set i v) (ds.set i d)
  | _, _, _, .nil => .nil
  | _, _, 0, .cons _ t => .cons r t
  | _, _, i + 1, .cons q t => .cons q (RepAll.set r i t)
theorem RepAll.reverse {vs : List V} {ds : List D} (h : RepAll g F vs ds) : RepAll g F vs.reverse ds.reverse := by
  induction vs generalizing ds with
  | nil => cases h; exact .nil
  | cons v vs ih =>
    cases h with
    | cons r t =>
      rw [List.reverse_cons, List.reverse_cons]
      exact (ih t).append (.cons r .nil)
theorem RepAll.snoc {vs : List V} {ds : List D} {v : V} {d : D} (h : RepAll g F vs ds) (r : Rep g F v d) : RepAll g F (vs ++ [v]) (ds ++ [d]) := h.append (.cons r .nil)
end

/-! ### heaps -/
/-- what is kept out of sight: the draws' counter, the tables of code objects -/
def hid (g : Gh) (a : Addr) : Prop := (g.live = true ∧ a = g.pc) ∨ a ∈ g.tabs.map (·.1)
instance (g : Gh) (a : Addr) : Decidable (hid g a) := by unfold hid; exact inferInstance
def vis (g : Gh) (H : Hp) : Hp := fun a => if hid g a then Option.none else H a
theorem vis_ne {g : Gh} {H : Hp} {a : Addr} (h : ¬ hid g a) : vis g H a = H a := by unfold vis; rw [if_neg h]
theorem vis_some {g : Gh} {H : Hp} {a : Addr} {o : HO} (h : vis g H a = some o) : ¬ hid g a ∧ H a = some o := by
  unfold vis at h
  by_cases e : hid g a
  · rw [if_pos e] at h; cases h
  · rw [if_neg e] at h; exact ⟨e, h⟩
theorem vis_same {g : Gh} {H : Hp} : Same (vis g H) H := fun _ _ h => (vis_some h).2

structure PoolL (g : Gh) (n : Nat) (H : Hp) : Prop where
  p : H g.pp = some (.lst [.ref g.pr, .ref g.pc])
  r : H g.pr = some (.lst (g.rows.map V.int))
  c : H g.pc = some (.lst [.int n])
  np : g.pc ≠ g.pp
  nr : g.pc ≠ g.pr
structure PoolAt (g : Gh) (n : Nat) (H : Hp) : Prop where
  pool : g.live = true → PoolL g n H
  tabs : LamX.Tabs g.tabs H
/-- an address apart from the pool and the tables -/
structure Nh (g : Gh) (a : Addr) : Prop where
  pool : g.live = true → a ≠ g.pp ∧ a ≠ g.pr ∧ a ≠ g.pc
  tab : a ∉ g.tabs.map (·.1)
theorem Nh.nh {g : Gh} {a : Addr} (x : Nh g a) : ¬ hid g a := fun z => by
  rcases z with ⟨hl, e⟩ | z
  · exact (x.pool hl).2.2 e
  · exact x.tab z

/-- from F, H on: what was frozen is so, what was tracked stands (but what is hid), nothing that stood was frozen -/
structure Grow (g : Gh) (F H F' H' : Hp) : Prop where
  f : Same F F'
  h : Same (vis g H) (vis g H')
  c : ∀ a, hid g a → (H a).isSome = true → (H' a).isSome = true
  nw : ∀ a, ¬ hid g a → (H a).isSome = true → (∀ c q, H a ≠ some (LamX.CodeO c q)) → F' a = F a
theorem Grow.refl {g : Gh} {F H : Hp} : Grow g F H F H := ⟨Same.refl _, Same.refl _, fun _ _ => id, fun _ _ _ _ => rfl⟩
theorem Grow.there {g : Gh} {F H F' H' : Hp} (x : Grow g F H F' H') {a : Addr} (h : (H a).isSome = true) : (H' a).isSome = true := by
  by_cases e : hid g a
  · exact x.c a e h
  · obtain ⟨o, ho⟩ := Option.isSome_iff_exists.mp h
    have := x.h a o (by rw [vis_ne e]; exact ho)
    rw [vis_ne e] at this
    rw [this]; rfl
theorem Grow.trans {g : Gh} {F H F1 H1 F2 H2 : Hp} (x : Grow g F H F1 H1) (y : Grow g F1 H1 F2 H2) : Grow g F H F2 H2 :=
  ⟨x.f.trans y.f, x.h.trans y.h, fun a hl h => y.c a hl (x.c a hl h), fun a e h k => by
    obtain ⟨o, ho⟩ := Option.isSome_iff_exists.mp h
    have q := x.h a o (by rw [vis_ne e]; exact ho)
    rw [vis_ne e] at q
    exact (y.nw a e (by rw [q]; rfl) (fun c z => by rw [q, ← ho]; exact k c z)).trans (x.nw a e h k)⟩
/-- what stood open is not frozen -/
theorem Grow.keepF {g : Gh} {F H F' H' : Hp} (x : Grow g F H F' H') {a : Addr} {o : HO} (ne : ¬ hid g a) (h : H a = some o) (hc : ∀ c q, o ≠ LamX.CodeO c q) : F' a = F a :=
  x.nw a ne (by rw [h]; rfl) (fun c q z => hc c q (by rw [h] at z; exact Option.some.inj z))
theorem Grow.fresh {g : Gh} {F H F' H' : Hp} (x : Grow g F H F' H') {a : Addr} (h : H' a = Option.none) : H a = Option.none := by
  cases q : H a with
  | none => rfl
  | some o =>
    have := x.there (a := a) (by rw [q]; rfl)
    rw [h] at this; cases this

section
variable {g : Gh} {F H F' H' : Hp} {n : Nat} {p : Addr} {o : HO}
theorem sub_none (s : Same F (vis g H)) (h : H p = Option.none) : F p = Option.none := by
  cases q : F p with
  | none => rfl
  | some o =>
    have := (vis_some (s p o q)).2
    rw [h] at this; cases this
theorem PoolAt.fresh (P : PoolAt g n H) (h : H p = Option.none) : Nh g p := by
  refine ⟨fun hl => ?_, fun z => ?_⟩
  · have P := P.pool hl
    refine ⟨?_, ?_, ?_⟩ <;> intro e <;> subst e
    · rw [P.p] at h; cases h
    · rw [P.r] at h; cases h
    · rw [P.c] at h; cases h
  · obtain ⟨t, ht, rfl⟩ := List.mem_map.mp z
    obtain ⟨ps, e, _⟩ := P.tabs t ht
    rw [h] at e; cases e
/-- .. with what stands apart changed -/
theorem PoolAt.off (P : PoolAt g n H) (k : ∀ b, b ≠ p → H' b = H b) (np : Nh g p) (ho : ∀ q c, H p = some (LamX.CodeO c q) → H' p = some (LamX.CodeO c q)) : PoolAt g n H' := by
  refine ⟨fun hl => ?_, fun t ht => ?_⟩
  · obtain ⟨h1, h2, h3⟩ := np.pool hl
    have P := P.pool hl
    exact ⟨by rw [k _ h1.symm]; exact P.p, by rw [k _ h2.symm]; exact P.r, by rw [k _ h3.symm]; exact P.c, P.np, P.nr⟩
  · obtain ⟨ps, h1, h2, h3⟩ := P.tabs t ht
    refine ⟨ps, ?_, h2, fun pos cv hc => ?_⟩
    · rw [k _ (fun e => np.tab (List.mem_map.mpr ⟨t, ht, e⟩))]; exact h1
    · obtain ⟨c, e1, e2⟩ := h3 pos cv hc
      refine ⟨c, e1, ?_⟩
      by_cases hp : c = p
      · subst hp; exact ho _ _ e2
      · rw [k _ hp]; exact e2
theorem PoolAt.upd (P : PoolAt g n H) (h : H p = Option.none) : PoolAt g n (upd H p o) :=
  P.off (fun b hb => upd_ne hb) (P.fresh h) fun q c e => by rw [h] at e; cases e
theorem same_upd (h : H p = Option.none) : Same H (upd H p o) := fun b u e => by rw [upd_ne (ne_of_none e h)]; exact e
theorem vis_upd (hp : ¬ hid g p) : vis g (upd H p o) = upd (vis g H) p o := by
  funext a
  unfold vis upd
  by_cases e : a = p
  · subst e
    simp only [if_true, if_neg hp]
  · simp only [if_neg e]
/-- a new object, left open -/
theorem Grow.new (P : PoolAt g n H) (h : H p = Option.none) : Grow g F H F (upd H p o) := by
  have hp := (P.fresh h).nh
  refine ⟨Same.refl _, ?_, fun a hl z => ?_, fun _ _ _ _ => rfl⟩
  · rw [vis_upd hp]
    exact same_upd (by rw [vis_ne hp]; exact h)
  · rw [upd_ne (by rintro rfl; exact hp hl)]; exact z
/-- a new object, frozen -/
theorem Grow.newF (s : Same F (vis g H)) (P : PoolAt g n H) (h : H p = Option.none) : Grow g F H (upd F p o) (upd H p o) := by
  have hF := sub_none s h
  obtain ⟨_, h2, h3, _⟩ := Grow.new (F := F) (o := o) P h
  exact ⟨same_upd hF, h2, h3, fun a _ z _ => by rw [upd_ne]; intro e; subst e; rw [h] at z; cases z⟩
theorem sub_new (s : Same F (vis g H)) (P : PoolAt g n H) (h : H p = Option.none) : Same F (vis g (upd H p o)) := s.trans (Grow.new (F := F) P h).h
theorem sub_newF (s : Same F (vis g H)) (P : PoolAt g n H) (h : H p = Option.none) : Same (upd F p o) (vis g (upd H p o)) := by
  rw [vis_upd (P.fresh h).nh]
  intro b u e
  by_cases hb : b = p
  · subst hb; rw [upd_same] at e ⊢; exact e
  · rw [upd_ne hb] at e ⊢; exact s b u e
/-- freezing what stood open -/
theorem sub_frz (s : Same F (vis g H)) (h : H p = some o) (hp : ¬ hid g p) : Same (upd F p o) (vis g H) := by
  intro b u e
  by_cases hb : b = p
  · subst hb; rw [upd_same] at e; cases e; rw [vis_ne hp]; exact h
  · rw [upd_ne hb] at e; exact s b u e
/-- .. by another thing there -/
theorem sub_frz2 (s : Same F (vis g H)) (hF : F p = Option.none) (hp : ¬ hid g p) : Same (upd F p o) (vis g (upd H p o)) := by
  rw [vis_upd hp]
  intro b u e
  by_cases hb : b = p
  · subst hb; rw [upd_same] at e ⊢; exact e
  · rw [upd_ne hb] at e ⊢; exact s b u e
theorem Grow.change (x : Grow g F H F' H') (h : H p = Option.none) (hp : ¬ hid g p) : Grow g F H F' (L2.upd H' p o) := by
  refine ⟨x.f, ?_, fun a hl z => ?_, x.nw⟩
  · rw [vis_upd hp]
    intro b u e
    have hb : b ≠ p := by rintro rfl; have := (vis_some e).2; rw [h] at this; cases this
    rw [upd_ne hb]
    exact x.h b u e
  · rw [upd_ne (by rintro rfl; exact hp hl)]; exact x.c a hl z
theorem Grow.freeze (x : Grow g F H F' H') (h : H p = Option.none) (hF : F' p = Option.none) : Grow g F H (upd F' p o) H' :=
  ⟨x.f.trans (same_upd hF), x.h, x.c, fun b ne z k => by rw [upd_ne]; exact x.nw b ne z k; rintro rfl; rw [h] at z; cases z⟩
end

/-! ### what a frame holds -/
inductive Sl where
  | un | val (d : D) | own (d : D)
  /-- a lambda of the frame itself, by its number -/
  | lam (n : Nat)
  /-- the instance that is being made -/
  | slf (d : D)
  deriving Inhabited
abbrev Rho := List Sl

/-- an open list, dict, instance at a -/
inductive Own (g : Gh) (F H : Hp) (a : Addr) : D → Prop
  | lst {vs : List V} {ds : List D} : H a = some (.lst vs) → RepAll g F vs ds → Own g F H a (.lst ds)
  | dictK {kvs : List (Key × V)} {ds : List D} : H a = some (.dK kvs) → RepAll g F (kvs.map (·.2)) ds → Own g F H a (.dict (kvs.map fun p => keyD p.1) ds)
  | dictT {es : List (Int × Addr × V)} {ks ds : List D} : H a = some (DX a es) → DXOk g es ks → RepAll g F (es.map fun e => .ref e.2.1) ks → RepAll g F (es.map (·.2.2)) ds → Own g F H a (.dict ks ds)

def SlotOk (g : Gh) (F H H0 : Hp) (x : Option (Option V)) : Sl → Prop
  | .un => True
  | .val d => ∃ v, x = some (some v) ∧ Rep g F v d
  | .own d => ∃ a, x = some (some (.ref a)) ∧ Own g F H a d ∧ F a = Option.none ∧ H0 a = Option.none
  | .lam n => ∃ (f c' : Addr) (L : LamT) (pm ctv : Value), x = some (some (.ref f)) ∧ g.lam n L ∧ F f = some (LamO f L (g.lcl L) pm ctv c') ∧ F c' = some (LamX.CodeO c' L.qual)
  | .slf d => ∃ (C dx : Addr) (c : Nat) (ns : List Str) (vs : List V) (ds : List D), d = .obj c ns ds ∧ x = some (some (.ref g.slf)) ∧ g.cls c = some C ∧ H g.slf = some (.ins C dx (ns.zip vs)) ∧ ns.length = vs.length ∧ RepAll g F vs ds ∧ F g.slf = Option.none ∧ H0 g.slf = Option.none

structure P0 (g : Gh) (H0 : Hp) : Prop where
  pool : g.live = true → (H0 g.pp).isSome = true ∧ (H0 g.pr).isSome = true ∧ (H0 g.pc).isSome = true
  tab : ∀ t ∈ g.tabs, (H0 t.1).isSome = true
theorem PoolAt.p0 {g : Gh} {n : Nat} {H : Hp} (P : PoolAt g n H) : P0 g H :=
  ⟨fun hl => ⟨by rw [(P.pool hl).p]; rfl, by rw [(P.pool hl).r]; rfl, by rw [(P.pool hl).c]; rfl⟩, fun t ht => by
    obtain ⟨ps, e, _⟩ := P.tabs t ht
    rw [e]; rfl⟩
structure Mdl (g : Gh) (F0 H0 F : Hp) (ρ : Rho) (n : Nat) (σ : St) (H : Hp) : Prop where
  gr : Grow g F0 H0 F H
  p0 : P0 g H0
  sub : Same F (vis g H)
  pool : PoolAt g n H
  len : ρ.length = σ.length
  slot : ∀ (i : Nat) (sl : Sl), ρ[i]? = some sl → SlotOk g F H H0 (σ[i]?) sl
  dis : ∀ (i j : Nat) (di dj : D) (a : Addr), ρ[i]? = some (.own di) → ρ[j]? = some (.own dj) → σ[i]? = some (some (.ref a)) → σ[j]? = some (some (.ref a)) → i = j

theorem dx_code {a c : Addr} {q : Str} {es : List (Int × Addr × V)} : DX a es ≠ LamX.CodeO c q := fun z => by
  unfold DX LamX.CodeO at z
  injection z with z
  have hl : c < (Array.replicate (max a c + 1) ({ cls := .none, data := .fields #[.none, .str q 0] } : Obj)).size := by rw [Array.size_replicate]; exact Nat.lt_succ_of_le (Nat.le_max_right a c)
  have hl' : a < (Array.replicate (max a c + 1) ({ cls := .none, data := .fields #[.none, .str q 0] } : Obj)).size := by rw [Array.size_replicate]; exact Nat.lt_succ_of_le (Nat.le_max_left a c)
  have e : ∀ b : Addr, b < (Array.replicate (max a c + 1) ({ cls := .none, data := .fields #[.none, .str q 0] } : Obj)).size → (⟨Array.replicate (max a c + 1) ({ cls := .none, data := .fields #[.none, .str q 0] } : Obj), {}⟩ : Heap).get? b = some { cls := .none, data := .fields #[.none, .str q 0] } := fun b hb => by
    show (match (Array.replicate (max a c + 1) ({ cls := .none, data := .fields #[.none, .str q 0] } : Obj))[b]? with | some ⟨_, _, .freed, _⟩ => none | o => o) = _
    rw [Array.getElem?_eq_getElem hb, Array.getElem_replicate]
  have z' := congrFun z ⟨Array.replicate (max a c + 1) { cls := .none, data := .fields #[.none, .str q 0] }, {}⟩
  have t : ∃ (oc : Obj) (vs : Array Value) (t : Tok), (⟨Array.replicate (max a c + 1) ({ cls := .none, data := .fields #[.none, .str q 0] } : Obj), {}⟩ : Heap).get? c = some oc ∧ oc.data = .fields vs ∧ vs[1]? = some (.str q t) := ⟨_, _, 0, e c hl, rfl, rfl⟩
  rw [← z'] at t
  obtain ⟨_, _, o, es', ep, ho, _, hd, _⟩ := t
  rw [e a hl'] at ho
  cases ho
  cases hd
theorem Own.any {g : Gh} {F H : Hp} {a : Addr} {d : D} (o : Own g F H a d) : ∃ u, H a = some u ∧ (∀ c q, u ≠ LamX.CodeO c q) ∧ Mut (some u) := by
  cases o with
  | lst h _ => exact ⟨_, h, (fun c q z => (nomatch z)), trivial⟩
  | dictK h _ => exact ⟨_, h, (fun c q z => (nomatch z)), trivial⟩
  | dictT h _ _ _ => exact ⟨_, h, fun c q => dx_code, trivial⟩
theorem Own.noIns {g : Gh} {F H : Hp} {a : Addr} {d : D} (o : Own g F H a d) {C dx : Addr} {fs : List (Str × V)} (h : H a = some (.ins C dx fs)) : False := by
  cases o with
  | lst h2 _ => rw [h] at h2; cases h2
  | dictK h2 _ => rw [h] at h2; cases h2
  | dictT h2 _ _ _ => rw [h] at h2; unfold DX at h2; cases h2
theorem Own.grow {g : Gh} {F H F' H' : Hp} {a : Addr} {d : D} (o : Own g F H a d) (gr : Grow g F H F' H') (ne : ¬ hid g a) : Own g F' H' a d := by
  have k : ∀ u, H a = some u → H' a = some u := fun u h => by
    have := gr.h a _ (by rw [vis_ne ne]; exact h)
    rwa [vis_ne ne] at this
  cases o with
  | lst h r => exact .lst (k _ h) (r.mono gr.f)
  | dictK h r => exact .dictK (k _ h) (r.mono gr.f)
  | dictT h o r1 r2 => exact .dictT (k _ h) o (r1.mono gr.f) (r2.mono gr.f)
theorem Own.mono {g : Gh} {F F' H : Hp} {a : Addr} {d : D} (o : Own g F H a d) (e : Same F F') : Own g F' H a d := by
  cases o with
  | lst h r => exact .lst h (r.mono e)
  | dictK h r => exact .dictK h (r.mono e)
  | dictT h o r1 r2 => exact .dictT h o (r1.mono e) (r2.mono e)
/-- .. in a heap that is the same there -/
theorem Own.at {g : Gh} {F H H' : Hp} {a : Addr} {d : D} (o : Own g F H a d) (e : H' a = H a) : Own g F H' a d := by
  cases o with
  | lst h r => exact .lst (e.trans h) r
  | dictK h r => exact .dictK (e.trans h) r
  | dictT h o r1 r2 => exact .dictT (e.trans h) o r1 r2
theorem Own.isSome {g : Gh} {F H : Hp} {a : Addr} {d : D} (o : Own g F H a d) : (H a).isSome = true := by
  cases o with
  | lst h _ => rw [h]; rfl
  | dictK h _ => rw [h]; rfl
  | dictT h _ _ _ => rw [h]; rfl
theorem H0_ne {g : Gh} {H0 : Hp} {a : Addr} (p0 : P0 g H0) (h : H0 a = Option.none) : Nh g a := by
  refine ⟨fun hl => ?_, fun z => ?_⟩
  · obtain ⟨h1, h2, h3⟩ := p0.pool hl
    refine ⟨?_, ?_, ?_⟩ <;> intro e <;> subst e
    · rw [h] at h1; cases h1
    · rw [h] at h2; cases h2
    · rw [h] at h3; cases h3
  · obtain ⟨t, ht, rfl⟩ := List.mem_map.mp z
    have := p0.tab t ht
    rw [h] at this; cases this

/-- behind an expression -/
theorem Mdl.grow {g : Gh} {F0 H0 F F' H H' : Hp} {ρ : Rho} {n n' : Nat} {σ : St} (m : Mdl g F0 H0 F ρ n σ H) (gr : Grow g F H F' H') (s : Same F' (vis g H')) (P : PoolAt g n' H') : Mdl g F0 H0 F' ρ n' σ H' := by
  refine ⟨m.gr.trans gr, m.p0, s, P, m.len, fun i sl e => ?_, m.dis⟩
  have h := m.slot i sl e
  cases sl with
  | un => trivial
  | val d =>
    obtain ⟨v, e1, r⟩ := h
    exact ⟨v, e1, r.mono gr.f⟩
  | own d =>
    obtain ⟨a, e1, o, f, h0⟩ := h
    have ne := (H0_ne m.p0 h0).nh
    obtain ⟨u, hu, hc, _⟩ := o.any
    exact ⟨a, e1, o.grow gr ne, by rw [gr.keepF ne hu hc]; exact f, h0⟩
  | lam j =>
    obtain ⟨f, c', L, pm, ctv, e1, e2, e3, e4⟩ := h
    exact ⟨f, c', L, pm, ctv, e1, e2, gr.f _ _ e3, gr.f _ _ e4⟩
  | slf d =>
    obtain ⟨C, dx, c, ns, vs, ds, e0, e1, e2, e3, e4, e5, e6, e7⟩ := h
    have ne := (H0_ne m.p0 e7).nh
    have q := gr.h _ _ (by rw [vis_ne ne]; exact e3)
    rw [vis_ne ne] at q
    exact ⟨C, dx, c, ns, vs, ds, e0, e1, e2, q, e4, e5.mono gr.f, by rw [gr.keepF ne e3 (fun _ _ z => nomatch z)]; exact e6, e7⟩

/-- frozen, or the content of an open list -/
def PRep (g : Gh) (F H : Hp) (v : V) (d : D) : Prop := Rep g F v d ∨ ∃ a, v = .ref a ∧ Own g F H a d ∧ ¬ hid g a
theorem PRep.grow {g : Gh} {F H F' H' : Hp} {v : V} {d : D} (r : PRep g F H v d) (gr : Grow g F H F' H') : PRep g F' H' v d := by
  rcases r with r | ⟨a, e, o, ne⟩
  · exact .inl (r.mono gr.f)
  · exact .inr ⟨a, e, o.grow gr ne, ne⟩

/-! ### readings -/
/-- a value -/
def RdV (g : Gh) (f : Rho → M D) : TE := fun σ H Q => ∃ F0 H0 F ρ n d n', f ρ n = some (d, n') ∧ Mdl g F0 H0 F ρ n σ H ∧
  ∀ v F' H', Grow g F H F' H' → Same F' (vis g H') → PoolAt g n' H' → Rep g F' v d → Q v H'
/-- a value that is only looked at -/
def RdP (g : Gh) (f : Rho → M D) : TE := fun σ H Q => ∃ F0 H0 F ρ n d n', f ρ n = some (d, n') ∧ Mdl g F0 H0 F ρ n σ H ∧
  ∀ v F' H', Grow g F H F' H' → Same F' (vis g H') → PoolAt g n' H' → PRep g F' H' v d → Q v H'
/-- a new open list -/
def RdF (g : Gh) (f : Rho → M D) : TE := fun σ H Q => ∃ F0 H0 F ρ n d n', f ρ n = some (d, n') ∧ Mdl g F0 H0 F ρ n σ H ∧
  ∀ a F' H', Grow g F H F' H' → Same F' (vis g H') → PoolAt g n' H' → H a = Option.none → F' a = Option.none → Own g F' H' a d → Q (.ref a) H'
/-- a test -/
def RdT (g : Gh) (f : Rho → M Bool) : TT := fun σ H Q => ∃ F0 H0 F ρ n b n', f ρ n = some (b, n') ∧ Mdl g F0 H0 F ρ n σ H ∧
  ∀ F' H', Grow g F H F' H' → Same F' (vis g H') → PoolAt g n' H' → Q b H'
/-- arguments -/
def RdA (g : Gh) (f : Rho → M (List D)) : TA := fun σ H Q => ∃ F0 H0 F ρ n ds n', f ρ n = some (ds, n') ∧ Mdl g F0 H0 F ρ n σ H ∧
  ∀ vs F' H', Grow g F H F' H' → Same F' (vis g H') → PoolAt g n' H' → RepAll g F' vs ds → Q vs H'
/-- arguments that are only looked at -/
inductive PRepAll (g : Gh) (F H : Hp) : List V → List D → Prop
  | nil : PRepAll g F H [] []
  | cons {v : V} {vs : List V} {d : D} {ds : List D} : PRep g F H v d → PRepAll g F H vs ds → PRepAll g F H (v :: vs) (d :: ds)
def RdAP (g : Gh) (f : Rho → M (List D)) : TA := fun σ H Q => ∃ F0 H0 F ρ n ds n', f ρ n = some (ds, n') ∧ Mdl g F0 H0 F ρ n σ H ∧
  ∀ vs F' H', Grow g F H F' H' → Same F' (vis g H') → PoolAt g n' H' → PRepAll g F' H' vs ds → Q vs H'
theorem PRepAll.grow {g : Gh} {F H F' H' : Hp} (gr : Grow g F H F' H') : ∀ {vs : List V} {ds : List D}, PRepAll g F H vs ds → PRepAll g F' H' vs ds
  | _, _, .nil => .nil
  | _, _, .cons h r => .cons (h.grow gr) (PRepAll.grow gr r)
theorem RepAll.peek {g : Gh} {F H : Hp} : ∀ {vs : List V} {ds : List D}, RepAll g F vs ds → PRepAll g F H vs ds
  | _, _, .nil => .nil
  | _, _, .cons h r => .cons (.inl h) (RepAll.peek r)

section
variable {X : Cx} {e : Expr}
theorem pe_wk {t t' : TE} (h : PE X e t) (w : ∀ σ H Q, t' σ H Q → t σ H Q) : PE X e t' := ⟨fun pins s σ H Q I hw => h.run pins s σ H Q I (w σ H Q hw)⟩
theorem pt_wk {t t' : TT} (h : PT X e t) (w : ∀ σ H Q, t' σ H Q → t σ H Q) : PT X e t' := ⟨fun pins s σ H Q I hw => h.run pins s σ H Q I (w σ H Q hw)⟩
theorem pw_wk {t t' : TT} (h : PW X e t) (w : ∀ σ H Q, t' σ H Q → t σ H Q) : PW X e t' := ⟨fun wh pins s σ H Q I hw => h.run wh pins s σ H Q I (w σ H Q hw)⟩
theorem pa_wk {es : List Expr} {t t' : TA} (h : PA X es t) (w : ∀ σ H Q, t' σ H Q → t σ H Q) : PA X es t' := ⟨fun pos pins s σ H Q I hw => h.run pos pins s σ H Q I (w σ H Q hw)⟩
theorem ps_wk {st : Stmt} {t t' : TS} (h : PS X st t) (w : ∀ D σ H, t' D σ H → t D σ H) : PS X st t' := ⟨fun pins s σ H D I hw => h.run pins s σ H D I (w D σ H hw)⟩
theorem pss_wk {st : List Stmt} {t t' : TS} (h : PSs X st t) (w : ∀ D σ H, t' D σ H → t D σ H) : PSs X st t' := ⟨fun pins s σ H D I hw => h.run pins s σ H D I (w D σ H hw)⟩
variable {g : Gh} {f : Rho → M D}
theorem peekV (h : PE X e (RdV g f)) : PE X e (RdP g f) := pe_wk h fun σ H Q ⟨F0, H0, F, ρ, n, d, n', e1, m, k⟩ =>
  ⟨F0, H0, F, ρ, n, d, n', e1, m, fun v F' H' gr s P r => k v F' H' gr s P (.inl r)⟩
/-- what is frozen for good: a list as it stands, a dict by its very object -/
def frzO (od : Obj) (u : HO) : HO := match u with
  | .lst xs => .lst xs
  | .ins C dx fs => .ins C dx fs
  | u => .frz od u
theorem Own.freeze {g : Gh} {F F' H : Hp} {a : Addr} {d : D} {u : HO} {od : Obj} (o : Own g F H a d) (hu : H a = some u) (e : Same F F') (hF : F' a = some (frzO od u)) : Rep g F' (.ref a) d := by
  cases o with
  | lst h r => rw [h] at hu; cases hu; exact .lst hF (r.mono e)
  | dictK h r => rw [h] at hu; cases hu; exact .dictK hF (r.mono e)
  | dictT h o r1 r2 => rw [h] at hu; cases hu; exact .dictT hF o (r1.mono e) (r2.mono e)
theorem frzO_id {od : Obj} {u : HO} {H : Hp} {a : Addr} (hu : H a = some u) (h : ∀ od u', frzO od u ≠ .frz od u') : upd H a (frzO od u) = H := by
  funext b
  unfold upd
  split
  · rename_i e
    subst e
    rw [hu]
    cases u <;> first | rfl | exact absurd rfl (h od _)
  · rfl
/-- the freezing of what stands open, in the run -/
theorem Inv.frz {X : Cx} {pins : List (Addr × Obj)} {σ : St} {H : Hp} {s : Shared} {a : Addr} {u : HO} (I : Inv X pins σ H s) (h : H a = some u) (mu : Mut (some u)) : ∃ od, Inv X pins σ (upd H a (frzO od u)) s := by
  have key : ∀ od, (∀ od' u', frzO od' u ≠ .frz od' u') → Inv X pins σ (upd H a (frzO od u)) s := fun od k => by rw [frzO_id h k]; exact I
  cases u with
  | lst xs => exact ⟨default, key _ fun _ _ z => by cases z⟩
  | ins C dx fs => exact ⟨default, key _ fun _ _ z => by cases z⟩
  | _ => exact L2.Inv.lock I h mu
/-- a new open thing is frozen -/
theorem frzF (h : PE X e (RdF g f)) : PE X e (RdV g f) := by
  refine ⟨fun pins s σ H Q I ⟨F0, H0, F, ρ, n, d, n', e1, m, k⟩ => ?_⟩
  refine thn (h.run pins s σ H (fun v H1 => ∃ a F' , v = .ref a ∧ Grow g F H F' H1 ∧ Same F' (vis g H1) ∧ PoolAt g n' H1 ∧ H a = Option.none ∧ F' a = Option.none ∧ Own g F' H1 a d) I ⟨F0, H0, F, ρ, n, d, n', e1, m, fun a F' H' gr s P hn hf o => ⟨a, F', rfl, gr, s, P, hn, hf, o⟩⟩) fun u s1 ⟨v, H1, I1, r, a, F', ev, gr, s, P, hn, hf, o⟩ => ?_
  subst ev
  obtain ⟨w, hw, hc, mu⟩ := o.any
  obtain ⟨od, I2⟩ := Inv.frz I1 hw mu
  have nh := m.pool.fresh hn
  refine ⟨.ref a, _, I2, r, k _ (upd F' a (frzO od w)) _ ((gr.change hn nh.nh).freeze hn hf) (sub_frz2 s hf nh.nh) (P.off (fun b hb => upd_ne hb) nh fun q c z => ?_) (o.freeze hw (same_upd hf) upd_same)⟩
  rw [hw] at z
  cases z
  exact absurd rfl (hc _ _)
end
end Ev

set_option Elab.async false
set_option linter.all false
set_option autoImplicit false
set_option maxRecDepth 100000
/-! Ev1: operations on data values, and the rules of expressions. -/
namespace Ev
open PySem PySem.Spec PyProof.Rows L2

/-! ### data -/
mutual
def D.py : D → PyData
  | .none => .none
  | .bool b => .bool b
  | .int i => .int i
  | .str s => .str s
  | .tup xs => .tuple (D.pys xs)
  | .lst xs => .list (D.pys xs)
  | .pool => .none
  | .scr _ => .none
  | .dict _ _ => .none
  | .clo _ _ => .none
  | .obj _ _ _ => .none
def D.pys : List D → List PyData
  | [] => []
  | x :: xs => D.py x :: D.pys xs
end
mutual
def D.data : D → Bool
  | .none => true
  | .bool _ => true
  | .int _ => true
  | .str _ => true
  | .tup xs => D.datas xs
  | .lst xs => D.datas xs
  | .pool => false
  | .scr _ => false
  | .dict _ _ => false
  | .clo _ _ => false
  | .obj _ _ _ => false
def D.datas : List D → Bool
  | [] => true
  | x :: xs => D.data x && D.datas xs
end
section
variable {g : Gh}
mutual
theorem Rep.dp : ∀ {H : Hp} {v : V} {d : D}, Rep g H v d → d.data = true → Dp g.K H v d.py
  | _, _, _, .non, _ => .non
  | _, _, _, .bl b, _ => .bl b
  | _, _, _, .int i, _ => .int i
  | _, _, _, .str x, _ => .str x
  | _, _, _, .tup h r, e => .tup h (RepAll.dp r e)
  | _, _, _, .lst h r, e => .lst (.of h) (RepAll.dp r e)
  | _, _, _, .pool, e => by cases e
  | _, _, _, .scr h, e => by cases e
  | _, _, _, .dictK _ _, e => by cases e
  | _, _, _, .dictT _ _ _ _, e => by cases e
  | _, _, _, .clo _ _ _ _ _ _, e => by cases e
  | _, _, _, .obj _ _ _ _, e => by cases e
theorem RepAll.dp : ∀ {H : Hp} {vs : List V} {ds : List D}, RepAll g H vs ds → D.datas ds = true → DpAll g.K H vs (D.pys ds)
  | _, _, _, .nil, _ => .nil
  | _, _, _, .cons h r, e => by
    have e' := Bool.and_eq_true_iff.mp e
    exact .cons (Rep.dp h e'.1) (RepAll.dp r e'.2)
end
end
theorem PRep.rep {g : Gh} {F H : Hp} {v : V} {d : D} (s : Same F (vis g H)) (r : PRep g F H v d) (hd : d.data = true) : Rep g H v d := by
  have s' := s.trans vis_same
  rcases r with r | ⟨a, rfl, o, _⟩
  · exact r.mono s'
  · cases o with
    | lst h r => exact .lst h (r.mono s')
    | _ => cases hd
theorem PRep.dp {g : Gh} {F H : Hp} {v : V} {d : D} (s : Same F (vis g H)) (r : PRep g F H v d) (hd : d.data = true) : Dp g.K H v d.py := (r.rep s hd).dp hd

/-- data that can be compared -/
def okD (d : D) : Bool := d.data && SeqAt.shaped d.py
def strEq : D → D → Option Bool
  | .str a, .str b => some (decide (a = b))
  | _, _ => none
theorem strEq_some {x y : D} {b : Bool} (h : strEq x y = some b) : ∃ a c, x = .str a ∧ y = .str c ∧ b = decide (a = c) := by
  unfold strEq at h
  split at h
  · cases h; exact ⟨_, _, rfl, rfl, rfl⟩
  · cases h
def eqD (x y : D) : Option Bool := if (okD x && okD y) = true then some (PyData.eqv x.py y.py) else strEq x y

/-! ### operations -/
def intsD : List D → Option (List Int)
  | [] => some []
  | .int i :: r => (intsD r).map (i :: ·)
  | _ :: _ => .none
theorem intsD_map {xs : List D} {ns : List Int} (h : intsD xs = some ns) : xs = ns.map D.int := by
  induction xs generalizing ns with
  | nil => cases h; rfl
  | cons x xs ih =>
    cases x with
    | int i =>
      simp only [intsD, Option.map_eq_some_iff] at h
      obtain ⟨ms, h1, rfl⟩ := h
      rw [ih h1]; rfl
    | _ => cases h
@[simp] theorem intsD_ints (ns : List Int) : intsD (ns.map D.int) = some ns := by
  induction ns with
  | nil => rfl
  | cons n ns ih => simp [intsD, ih]
theorem repAll_ints {g : Gh} {H : Hp} : ∀ {ns : List Int} {vs : List V}, RepAll g H vs (ns.map D.int) → vs = ns.map V.int
  | [], _, h => by cases h; rfl
  | n :: ns, _, h => by
    cases h with
    | cons h r => cases h; rw [repAll_ints r]; rfl
def addD : D → D → Option D
  | .int i, .int j => some (.int (i + j))
  | .str x, .str y => if x.length + y.length ≤ 16777216 then some (.str (x ++ y)) else none
  | .tup xs, .tup ys => if xs.length + ys.length ≤ 16777216 then some (.tup (xs ++ ys)) else none
  | .lst xs, .lst ys => if xs.length + ys.length ≤ 16777216 then some (.lst (xs ++ ys)) else none
  | _, _ => none
def subD : D → D → Option D
  | .int i, .int j => some (.int (i - j))
  | _, _ => none
def mulD : D → D → Option D
  | .int i, .int j => if (decide (-(2 ^ 64) < i) && decide (i < 2 ^ 64)) || (decide (-(2 ^ 64) < j) && decide (j < 2 ^ 64)) then some (.int (i * j)) else none
  | .tup xs, .int k => if k = 1 then some (.tup xs) else if !xs.isEmpty && decide (2 ≤ k) && decide (xs.length * k.toNat ≤ 1000000) then some (.tup (List.replicate k.toNat xs).flatten) else none
  | .lst xs, .int k => if decide (0 ≤ k) && decide (k ≤ 1000) && decide (xs.length ≤ 1000) then some (.lst (List.replicate k.toNat xs).flatten) else none
  | _, _ => none
def fdivD : D → D → Option D
  | .int i, .int j => if decide (j ≠ 0) && decide (j.natAbs < 1073741824) then some (.int (i.fdiv j)) else none
  | _, _ => none
def modD : D → D → Option D
  | .int i, .int j => if j ≠ 0 then some (.int (i.fmod j)) else none
  | _, _ => none
def ltD : D → D → Option Bool
  | .int i, .int j => some (decide (i < j))
  | .str i, .str j => some (decide (i.cps.toList < j.cps.toList))
  | .tup xs, .tup ys => match intsD xs, intsD ys with
    | some ns, some ms => some (HT.lexLt ns ms)
    | _, _ => none
  | _, _ => none
def leD : D → D → Option Bool
  | .int i, .int j => some (decide (i ≤ j))
  | _, _ => none
def isD : D → D → Option Bool
  | .bool a, .bool b => some (decide (a = b))
  | .none, .none => some true
  | _, .none => some false
  | _, _ => none
def inD : D → D → Option Bool
  | x, .tup ys => if okD x && okD (.tup ys) then some ((D.pys ys).any fun z => PyData.eqv z x.py) else none
  | x, .lst ys => if okD x && okD (.lst ys) then some ((D.pys ys).any fun z => PyData.eqv z x.py) else none
  | x, .dict ks _ => if kindOk ks x then some (didx ks x).isSome else none
  | .str x, .str y => some (!(Builtin.Str.occurrences y x 0 y.length 1).isEmpty)
  | _, _ => none
def powD : D → D → Option D
  | .int i, .int j => if decide (0 ≤ j) && decide (j ≤ 1000000) && decide (i.natAbs < 2 ^ 64) then some (.int (i ^ j.toNat)) else none
  | _, _ => none
inductive BinO where
  | add | sub | mul | fdiv | mod | pow
  deriving DecidableEq
def BinO.py : BinO → Operator
  | .add => .Add | .sub => .Sub | .mul => .Mult | .fdiv => .FloorDiv | .mod => .Mod | .pow => .Pow
def binD : BinO → D → D → Option D
  | .add => addD | .sub => subD | .mul => mulD | .fdiv => fdivD | .mod => modD | .pow => powD
inductive CmpO where
  | eq | ne | lt | le | gt | ge | is | isNot | mem | notMem
  deriving DecidableEq
def CmpO.py : CmpO → CmpOp
  | .eq => .Eq | .ne => .NotEq | .lt => .Lt | .le => .LtE | .gt => .Gt | .ge => .GtE | .is => .Is | .isNot => .IsNot | .mem => .In | .notMem => .NotIn
def gtD : D → D → Option Bool
  | .int i, .int j => some (decide (j < i))
  | _, _ => none
def geD : D → D → Option Bool
  | .int i, .int j => some (decide (j ≤ i))
  | _, _ => none
def cmpD : CmpO → D → D → Option Bool
  | .eq, x, y => eqD x y
  | .ne, x, y => (eqD x y).map (!·)
  | .lt, x, y => ltD x y
  | .le, x, y => leD x y
  | .gt, x, y => gtD x y
  | .ge, x, y => geD x y
  | .is, x, y => isD x y
  | .isNot, x, y => (isD x y).map (!·)
  | .mem, x, y => inD x y
  | .notMem, x, y => (inD x y).map (!·)

/-! ### what an operation's rule must give -/
def OpOk (g : Gh) (r : R2) (op : D → D → Option D) : Prop := ∀ (F H : Hp) (n : Nat) (x y : V) (dx dy d : D) (Q : VK), Same F (vis g H) → PoolAt g n H → PRep g F H x dx → PRep g F H y dy → op dx dy = some d →
  (∀ v F' H', Grow g F H F' H' → Same F' (vis g H') → PoolAt g n H' → Rep g F' v d → Q v H') → r x y H Q
theorem OpOk.same {g : Gh} {F H : Hp} {n : Nat} {v : V} {d : D} {Q : VK} (s : Same F (vis g H)) (P : PoolAt g n H) (k : ∀ v F' H', Grow g F H F' H' → Same F' (vis g H') → PoolAt g n H' → Rep g F' v d → Q v H') (r : Rep g F v d) : Q v H := k v F H Grow.refl s P r
/-- a new tuple, frozen -/
theorem OpOk.tup {g : Gh} {F H : Hp} {n : Nat} {vs : List V} {ds : List D} {p : Addr} {Q : VK} (s : Same F (vis g H)) (P : PoolAt g n H) (k : ∀ v F' H', Grow g F H F' H' → Same F' (vis g H') → PoolAt g n H' → Rep g F' v (.tup ds) → Q v H') (r : RepAll g F vs ds) (hp : H p = Option.none) :
    Q (.ref p) (upd H p (.tup vs)) := k _ (upd F p (.tup vs)) _ (Grow.newF s P hp) (sub_newF s P hp) (P.upd hp) (.tup (.of upd_same) (r.mono (same_upd (sub_none s hp))))
theorem OpOk.lst {g : Gh} {F H : Hp} {n : Nat} {vs : List V} {ds : List D} {p : Addr} {Q : VK} (s : Same F (vis g H)) (P : PoolAt g n H) (k : ∀ v F' H', Grow g F H F' H' → Same F' (vis g H') → PoolAt g n H' → Rep g F' v (.lst ds) → Q v H') (r : RepAll g F vs ds) (hp : H p = Option.none) :
    Q (.ref p) (upd H p (.lst vs)) := k _ (upd F p (.lst vs)) _ (Grow.newF s P hp) (sub_newF s P hp) (P.upd hp) (.lst upd_same (r.mono (same_upd (sub_none s hp))))

section
variable {g : Gh} {F H : Hp} {v : V}
/-- a list's content, frozen or open -/
theorem PRep.lstE {ds : List D} (s : Same F (vis g H)) (r : PRep g F H v (.lst ds)) : ∃ a vs, v = .ref a ∧ H a = some (.lst vs) ∧ RepAll g F vs ds := by
  rcases r with r | ⟨a, rfl, o, _⟩
  · cases r with
    | lst h r => exact ⟨_, _, rfl, (vis_some (s _ _ h)).2, r⟩
  · cases o with
    | lst h r => exact ⟨_, _, rfl, h, r⟩
theorem PRep.tupE {ds : List D} (s : Same F (vis g H)) (r : PRep g F H v (.tup ds)) : ∃ a vs, v = .ref a ∧ SqT g.K F a vs ∧ SqT g.K H a vs ∧ RepAll g F vs ds := by
  rcases r with r | ⟨a, rfl, o, _⟩
  · cases r with
    | tup h r => exact ⟨_, _, rfl, h, seqT_mono (s.trans vis_same) h, r⟩
  · cases o
theorem PRep.intE {i : Int} (r : PRep g F H v (.int i)) : v = .int i := by
  rcases r with r | ⟨a, rfl, o, _⟩
  · cases r; rfl
  · cases o
theorem PRep.boolE {b : Bool} (r : PRep g F H v (.bool b)) : v = .bl b := by
  rcases r with r | ⟨a, rfl, o, _⟩
  · cases r; rfl
  · cases o
theorem PRep.strE {x : Str} (r : PRep g F H v (.str x)) : v = .str x := by
  rcases r with r | ⟨a, rfl, o, _⟩
  · cases r; rfl
  · cases o
theorem PRep.noneE (r : PRep g F H v .none) : v = .non := by
  rcases r with r | ⟨a, rfl, o, _⟩
  · cases r; rfl
  · cases o
theorem PRep.scrE {ns : List Int} (s : Same F (vis g H)) (r : PRep g F H v (.scr ns)) : ∃ a, v = .ref a ∧ SqL g.K H a (ns.map V.int) := by
  rcases r with r | ⟨a, rfl, o, _⟩
  · cases r with
    | scr h => exact ⟨_, rfl, (s.trans vis_same).seq h⟩
  · cases o
theorem Rep.not_non {d : D} (r : Rep g F v d) (h : v = .non) : d = .none := by
  subst h; cases r; rfl
end
theorem sz : (16777216 : Nat) = sizeLine := sizeLine_eq.symm

section
variable {X : Cx} {g : Gh}
abbrev rAddD (K : PySem.W.Frag) : R2 := fun x y H Q => (∃ i j, x = .int i ∧ y = .int j ∧ Q (.int (i + j)) H) ∨ (∃ i j, x = .str i ∧ y = .str j ∧ i.length + j.length ≤ sizeLine ∧ Q (.str (i ++ j)) H) ∨ rCatA K x y H Q ∨ rCat x y H Q
theorem op_addD : OpR X (binaryOp .Add) (rAddD X.K) := op_add.or (op_add_str.or (op_catA.or op_cat))
theorem ok_add (hK : X.K = g.K) : OpOk g (rAddD X.K) addD := by
  intro F H n x y dx dy d Q s P rx ry e k
  cases dx <;> cases dy <;> simp only [addD, reduceCtorEq] at e
  · cases e
    exact .inl ⟨_, _, rx.intE, ry.intE, OpOk.same s P k (.int _)⟩
  · split at e <;> cases e
    rename_i h
    exact .inr (.inl ⟨_, _, rx.strE, ry.strE, by rw [← sz]; exact h, OpOk.same s P k (.str _)⟩)
  · rename_i xs ys
    split at e <;> cases e
    rename_i h
    obtain ⟨a, vs, rfl, fa, ha, ra⟩ := rx.tupE s
    obtain ⟨b, ws, rfl, fb, hb, rb⟩ := ry.tupE s
    have l1 := ra.length
    have l2 := rb.length
    refine .inr (.inr (.inl ⟨a, b, vs, ws, rfl, rfl, by rw [hK]; exact ha, by rw [hK]; exact hb, by rw [← sz]; omega, fun z => ?_, fun _ z => ?_, fun _ _ p hp => OpOk.tup s P k (ra.append rb) hp⟩))
    · subst z
      cases ra
      exact OpOk.same s P k (.tup fb rb)
    · subst z
      cases rb
      rw [List.append_nil] at k
      exact OpOk.same s P k (.tup fa ra)
  · rename_i xs ys
    split at e <;> cases e
    rename_i h
    obtain ⟨a, vs, rfl, ha, ra⟩ := rx.lstE s
    obtain ⟨b, ws, rfl, hb, rb⟩ := ry.lstE s
    have l1 := ra.length
    have l2 := rb.length
    exact .inr (.inr (.inr ⟨a, b, vs, ws, rfl, rfl, ha, hb, by rw [← sz]; omega, fun p hp => OpOk.lst s P k (ra.append rb) hp⟩))
theorem ok_sub : OpOk g (rI0 fun i j => .int (i - j)) subD := by
  intro F H n x y dx dy d Q s P rx ry e k
  cases dx <;> cases dy <;> simp only [subD, reduceCtorEq] at e
  cases e
  exact ⟨_, _, rx.intE, ry.intE, OpOk.same s P k (.int _)⟩
theorem ok_mod : OpOk g (rI (fun _ j => j ≠ 0) fun i j => .int (i.fmod j)) modD := by
  intro F H n x y dx dy d Q s P rx ry e k
  cases dx <;> cases dy <;> simp only [modD, reduceCtorEq] at e
  split at e <;> cases e
  rename_i h
  exact ⟨_, _, rx.intE, ry.intE, h, OpOk.same s P k (.int _)⟩
theorem ok_fdiv : OpOk g (rI CDivN fun i j => .int (i.fdiv j)) fdivD := by
  intro F H n x y dx dy d Q s P rx ry e k
  cases dx <;> cases dy <;> simp only [fdivD, reduceCtorEq] at e
  split at e <;> cases e
  rename_i h
  simp only [Bool.and_eq_true, decide_eq_true_eq] at h
  exact ⟨_, _, rx.intE, ry.intE, h, OpOk.same s P k (.int _)⟩
theorem ok_pow : OpOk g (rI CPow fun i j => .int (i ^ j.toNat)) powD := by
  intro F H n x y dx dy d Q s P rx ry e k
  cases dx <;> cases dy <;> simp only [powD, reduceCtorEq] at e
  split at e <;> cases e
  rename_i h
  simp only [Bool.and_eq_true, decide_eq_true_eq] at h
  exact ⟨_, _, rx.intE, ry.intE, ⟨h.1.1, h.1.2, h.2⟩, OpOk.same s P k (.int _)⟩
theorem RepAll.rep {g : Gh} {F : Hp} {vs : List V} {ds : List D} (h : RepAll g F vs ds) : ∀ m : Nat, RepAll g F (List.replicate m vs).flatten (List.replicate m ds).flatten
  | 0 => .nil
  | m + 1 => by
    rw [List.replicate_succ, List.replicate_succ, List.flatten_cons, List.flatten_cons]
    exact h.append (RepAll.rep h m)
/-- t * 1 is t -/
theorem tuple_mul1 (l : Addr) (items : Array Value) (n : Nat) (dd : Option Addr) (sl : Array (Option Value)) (u : Tok) :
    Meets (Builtin.«tuple.__mul__» ⟨[.ref l, .int 1 u], []⟩) (fun _ R s => s.heap.get? l = some { cls := .type "tuple", dict := dd, data := .seq items n, slots := sl } ∧
      R (.ok (.ret (Value.ref l))) s) :=
  .of_wp fun prog w A R s h => by
    obtain ⟨hp, g, d, tk, os⟩ := s
    obtain ⟨hl, h⟩ := h
    have f1 := AutoSeq1.idx_int
    wp_walk using wpAny_loadPart' hl
    exact ⟨_, rfl, h⟩
def rRepT1 (K : PySem.W.Frag) : R2 := fun x y H Q => ∃ l xs, x = .ref l ∧ y = .int 1 ∧ SqT K H l xs ∧ Q (.ref l) H
theorem op_repT1 : OpR X (binaryOp .Mult) (rRepT1 X.K) := by
  intro pins s σ H x y v u Q I rx ry h
  obtain ⟨l, xs, rfl, rfl, hT, q⟩ := h
  cases rx
  obtain ⟨t, rfl⟩ := ry
  obtain ⟨its, r, ⟨⟨cls, dd, data, sl⟩, ho, hc, n, hd⟩, hs⟩ := I.tuple hT
  simp only at hc hd
  subst hc hd
  exact wpAny_binaryOp_repeat_ref (T := "tuple") (U := "int") (by decide) ⟨_, ho, rfl⟩ (fun s' => typeIs_int s' 1 t) noFill_tuple_mul F.fills_int_mul F.slot_int_rmul repeat_tuple F.slot_int_index.lookup
    (call_meets F.slot_int_rmul (typeIs_int s 1 t) F.entry_int_rmul (F.args_int_rmul_2 _ _) (int_rmul_tuple 1 t l its.toArray n dd sl)
      ⟨ho, rfl, ⟨_, ho, rfl⟩, call_meets F.slot_tuple_mul ⟨_, ho, rfl⟩ F.entry_tuple_mul (F.args_tuple_mul_2 _ _) (tuple_mul1 l its.toArray n dd sl t) ⟨ho, .ref l, H, I, rfl, q⟩⟩)
/-- t * k, a product of any shape below a million -/
def rRepTG (K : PySem.W.Frag) : R2 := fun x y H Q => ∃ ad k vs, x = .ref ad ∧ y = .int k ∧ SqT K H ad vs ∧ vs ≠ [] ∧ 2 ≤ k ∧ vs.length * k.toNat ≤ 1000000 ∧ ∀ p, H p = none → Q (.ref p) (upd H p (.tup (List.replicate k.toNat vs).flatten))
theorem op_repTG {X : Cx} : OpR X (binaryOp .Mult) (rRepTG X.K) := by
  intro pins s σ H x y v u Q I rx ry h
  obtain ⟨ad, k, vs, rfl, rfl, hT, hne, hk2, hb, q⟩ := h
  cases rx
  obtain ⟨tk, rfl⟩ := ry
  obtain ⟨ws, r, ⟨⟨cls, dd, data, sl⟩, ho, hc, n, hd⟩, hs⟩ := I.tuple hT
  simp only at hc hd
  subst hc hd
  have elen : ws.length = vs.length := r.length.symm
  obtain ⟨m, rfl⟩ : ∃ m : Nat, k = m := ⟨k.toNat, by omega⟩
  rw [Int.toNat_natCast] at hb q
  have pos : 0 < vs.length := List.length_pos_iff.mpr hne
  have bnd : m ≤ 1000000 := Nat.le_trans (Nat.le_mul_of_pos_left m pos) hb
  have prod : (ws.toArray.size : Int) * (m : Int) ≤ 1000000 := by
    rw [List.size_toArray, elen]
    rw [← Int.natCast_mul]
    exact Int.ofNat_le.mpr hb
  have pos2 : ws.toArray.isEmpty = false := by
    cases ws with
    | nil => rw [List.length_nil] at elen; omega
    | cons => rfl
  have fl : (List.replicate m ws).flatten.length ≤ sizeLine := by
    rw [PyProof.Rows.lm_len_rep_flat, elen, sizeLine_eq, Nat.mul_comm]
    omega
  have d0 : (decide ((m : Int) < -(2 ^ 63)) || decide ((m : Int) ≥ 2 ^ 63)) = false := by
    rw [Bool.or_eq_false_iff]
    exact ⟨decide_eq_false (by omega), decide_eq_false (by omega)⟩
  have d1 : (ws.toArray.isEmpty || (m : Int) == 1) = false := by
    rw [pos2, Bool.false_or, beq_eq_false_iff_ne]
    omega
  have d2 : (decide ((m : Int) ≤ 0) || ws.toArray.isEmpty) = false := by
    rw [pos2, Bool.or_false, decide_eq_false_iff_not]
    omega
  have d4 : Builtin.Tuple.tupleTooMany ((ws.toArray.size : Int) * (m : Int)) = false := by
    unfold Builtin.Tuple.tupleTooMany
    rw [sizeLine_eq, decide_eq_false_iff_not]
    omega
  have room : (List.foldl (fun x1 x2 => x1 ++ x2) #[] (List.replicate ((m : Int)).toNat ws.toArray)).size ≤ sizeLine := by
    rw [Int.toNat_natCast, size_rep, List.size_toArray]
    exact fl
  have mt := tuple_mulW ad ws.toArray n dd sl m tk d0 d1 d2 (by omega) d4 room
  refine wpAny_binaryOp_repeat_ref (T := "tuple") (U := "int") (by decide) ⟨_, ho, rfl⟩ (fun s' => typeIs_int s' m tk) noFill_tuple_mul F.fills_int_mul F.slot_int_rmul repeat_tuple F.slot_int_index.lookup ?_
  refine call_meets F.slot_int_rmul (typeIs_int s m tk) F.entry_int_rmul (F.args_int_rmul_2 _ _) (int_rmul_tuple m tk ad ws.toArray n dd sl) ⟨ho, rfl, ⟨_, ho, rfl⟩, ?_⟩
  refine call_meets F.slot_tuple_mul ⟨_, ho, rfl⟩ F.entry_tuple_mul (F.args_tuple_mul_2 _ _) mt ⟨ho, ?_⟩
  rw [Int.toNat_natCast, size_rep]
  refine ⟨.ref s.heap.objs.size, upd H s.heap.objs.size (.tup (List.replicate m vs).flatten), ?_, rfl, q _ (I.hok.fresh (Nat.le_refl _))⟩
  refine I.laid (t' := s.toks) (fun b ob z => Heap.get?_push_of_some _ z) (Nat.le_refl _) ⟨?_, _, r.rep m, IsTup.new _ _⟩
  rw [PyProof.Rows.lm_len_rep_flat, sizeLine_eq, Nat.mul_comm]
  omega
abbrev rMulD (K : PySem.W.Frag) : R2 := fun x y H Q => rI CMul (fun i j => .int (i * j)) x y H Q ∨ rRepTG K x y H Q ∨ rRep x y H Q ∨ rRepT1 K x y H Q
theorem op_mulD : OpR X (binaryOp .Mult) (rMulD X.K) := op_mul.or (op_repTG.or (op_rep.or op_repT1))
theorem ok_mul (hK : X.K = g.K) : OpOk g (rMulD X.K) mulD := by
  intro F H n x y dx dy d Q s P rx ry e k
  cases dx <;> cases dy <;> simp only [mulD, reduceCtorEq] at e
  · split at e <;> cases e
    rename_i h
    simp only [Bool.or_eq_true, Bool.and_eq_true, decide_eq_true_eq] at h
    exact .inl ⟨_, _, rx.intE, ry.intE, h, OpOk.same s P k (.int _)⟩
  · rename_i xs j
    split at e
    · rename_i h1
      subst h1
      cases e
      obtain ⟨a, vs, rfl, fa, ha, ra⟩ := rx.tupE s
      exact .inr (.inr (.inr ⟨a, vs, rfl, ry.intE, by rw [hK]; exact ha, OpOk.same s P k (.tup fa ra)⟩))
    split at e <;> cases e
    rename_i h
    simp only [Bool.and_eq_true, decide_eq_true_eq, Bool.not_eq_true'] at h
    obtain ⟨a, vs, rfl, fa, ha, ra⟩ := rx.tupE s
    have l1 := ra.length
    refine .inr (.inl ⟨a, _, vs, rfl, ry.intE, by rw [hK]; exact ha, ?_, h.1.2, by rw [l1]; exact h.2, fun p hp => OpOk.tup s P k (ra.rep _) hp⟩)
    rintro rfl
    cases ra
    simp at h
  · rename_i xs j
    split at e <;> cases e
    rename_i h
    simp only [Bool.and_eq_true, decide_eq_true_eq] at h
    obtain ⟨a, vs, rfl, ha, ra⟩ := rx.lstE s
    have l1 := ra.length
    refine .inr (.inr (.inl ⟨a, _, vs, rfl, ry.intE, ha, by omega, by omega, ?_, fun p hp => OpOk.lst s P k (ra.rep _) hp⟩))
    rw [sizeLine_eq]
    have : vs.length * j.toNat ≤ 1000 * 1000 := Nat.mul_le_mul (by omega) (by omega)
    omega

theorem de_bin {o : Operator} {r : R2} {f : D → D → Option D} {a b : Expr} {pos : Pos} {fa fb : Rho → M D} (ho : OpR X (binaryOp o) r) (hk : OpOk g r f) (ha : PE X a (RdP g fa)) (hb : PE X b (RdP g fb)) :
    PE X (.BinOp a o b pos) (RdV g fun ρ => do let x ← fa ρ; let y ← fb ρ; M.opt (f x y)) := by
  refine pe_wk (pe_op ho ha hb) fun σ H Q ⟨F0, H0, F, ρ, n, d, n', e, m, k⟩ => ?_
  obtain ⟨x, n1, e1, e⟩ := M.bind_some e
  obtain ⟨y, n2, e2, e⟩ := M.bind_some e
  obtain ⟨e3, e4⟩ := M.opt_ok e
  simp only at e3 e4
  subst e4
  refine ⟨F0, H0, F, ρ, n, x, n1, e1, m, fun v1 F1 H1 g1 s1 P1 r1 => ⟨F0, H0, F1, ρ, n1, y, _, e2, m.grow g1 s1 P1, fun v2 F2 H2 g2 s2 P2 r2 => ?_⟩⟩
  exact hk F2 H2 _ v1 v2 x y d Q s2 P2 (r1.grow g2) r2 e3 fun v F' H' g3 s3 P3 r3 => k v F' H' (g1.trans (g2.trans g3)) s3 P3 r3
end
end Ev

set_option Elab.async false
set_option linter.all false
set_option autoImplicit false
set_option maxRecDepth 100000
/-! EvS: tuples of alike data are sorted, empty ones too. -/
namespace Ev
open PySem PySem.W PySem.SeqAt PyProof.Rows

def tupB : PyData → Bool
  | .tuple (_ :: _) => true
  | _ => false
def othB : PyData → Bool
  | .tuple _ => false
  | .none => false
  | _ => true
def tupA : PyData → Bool
  | .tuple _ => true
  | _ => false
theorem tupA_some {d : PyData} (h : tupA d = true) : ∃ xs, d = .tuple xs := by
  cases d with
  | tuple xs => exact ⟨xs, rfl⟩
  | _ => cases h
section
variable {prog : Program} {w : World} {A : Around} {s : Shared}
theorem tup_lt_call {E : Value → Shared → Prop} {Q : Value → Shared → Prop} {p q : Addr} {us vs : Array Value} {eq lt : Nat → Bool} (hp : s.heap.IsTuple p us) (hq : s.heap.IsTuple q vs)
    (h1 : ∀ j (j1 : j < us.size) (j2 : j < vs.size), EqAt A.in1 s us[j] vs[j] (eq j)) (h2 : ∀ j (j1 : j < us.size) (j2 : j < vs.size), eq j = false → RcLt A.in1 s us[j] vs[j] (lt j))
    (k : Q (.bool (firstLt eq lt (decide (us.size < vs.size)) (List.range (min us.size vs.size)))) s) : wpAny (model prog w) A (call (.builtin "tuple.__lt__") [.ref p, .ref q]) Q E s := by
  obtain ⟨⟨c1, d1, x1, l1⟩, o1, e1, n1, f1⟩ := id hp
  obtain ⟨⟨c2, d2, x2, l2⟩, o2, e2, n2, f2⟩ := id hq
  simp only at e1 f1 e2 f2
  subst e1 f1 e2 f2
  exact call_meets F.slot_tuple_lt ⟨_, o1, rfl⟩ F.entry_tuple_lt (F.args_tuple_lt_2 _ _) (tuple_ltAt p q us vs n1 n2 d1 d2 l1 l2 eq lt) ⟨o1, o2, h1, h2, k⟩
theorem one_lt_tup {xs ys : List PyData} {a b : Value} {as bs : List Addr} {Q : Bool → Shared → Prop} {E : Value → Shared → Prop} (ra : Reads s.heap a (.tuple xs) as) (rb : Reads s.heap b (.tuple ys) bs) (h : alike (.tuple xs) (.tuple ys) = true)
    (hu : A.units + min (PyData.tuple xs).depth (PyData.tuple ys).depth < cLine) (hq : Q (dataLt (.tuple xs) (.tuple ys)) s) : wpAny (model prog w) A (oneLt' true a b) Q E s := by
  have hal : alikeAll xs ys = true := by simpa [alike] using h
  cases ra with
  | @tuple p o us n _ as1 g1 g2 g3 g4 =>
    cases rb with
    | @tuple q o' vs n' _ bs1 k1 k2 k3 k4 =>
      have z1 : us.size = xs.length := by simpa using ReadsAll.length _ _ _ g4
      have z2 : vs.size = ys.length := by simpa using ReadsAll.length _ _ _ k4
      rw [dataLt_tuple, ← firstLt_toks xs ys hal, ← z1, ← z2] at hq
      rw [oneLt'_eq]
      simp only [if_true]
      refine wpAny_bind (wpAny_cRoomFor (room_here hu) (wpAny_bind ?_))
      refine wpAny_callSpecialIfBound?_slot (T := "tuple") ⟨_, g1, g2⟩ F.slot_tuple_lt (tup_lt_call (eq := pairEq xs ys) (lt := fun j => dataLt (xs.getD j .none) (ys.getD j .none)) ⟨_, g1, g2, _, g3⟩ ⟨_, k1, k2, _, k3⟩ (fun j j1 j2 => ?_) (fun j j1 j2 hj => ?_) ?_)
      · have := eqAt_alikeAll xs ys A.in1 s us.toList vs.toList _ _ g4 k4 hal (room_in hu) j (by simpa using j1) (by simpa using j2)
        simpa using this
      · have := rcLt_alikeAll xs ys A.in1 s us.toList vs.toList _ _ g4 k4 hal (room_in hu) j (by simpa using j1) (by simpa using j2) hj
        simpa using this
      · exact wpAny_truthy_bool hq
def someB : PyData → Bool
  | .tuple (_ :: _) => true
  | _ => false
theorem firsts_of {E : Value → Shared → Prop} : ∀ {vs : List Value} {ds : List PyData} {Q : List (Option Value) → Shared → Prop}, EachIs (fun v d => ∃ as, Reads s.heap v d as) vs ds → ds.all tupA = true →
    (∀ os : List (Option Value), os.map (·.isSome) = ds.map tupB → Q os s) → wpAny (model prog w) A (vs.mapM firstOfTuple') Q E s
  | _, _, Q, .nil, _, k => by rw [List.mapM_nil]; exact wpAny_pure (k [] rfl)
  | _, _, Q, .cons (b := d) ⟨as, r⟩ t, ht, k => by
    rw [List.all_cons, Bool.and_eq_true] at ht
    obtain ⟨xs, rfl⟩ := tupA_some ht.1
    cases r with
    | @tuple p o us n _ as1 g1 g2 g3 g4 =>
      rw [List.mapM_cons]
      refine wpAny_bind ?_
      rw [kas_first_eq]
      refine wpAny_bind (Looks.here (show Looks (model prog w) s.heap (typeOf (.ref p)) o.cls from (Looks.ld g1).andThen .now) ?_)
      rw [g2, if_neg (by first | decide | simp)]
      refine wpAny_bind (listItems_at g1 g3 (wpAny_pure (wpAny_bind (firsts_of (Q := fun os s' => wpAny (model prog w) A (pure (us[0]? :: os)) Q E s') t ht.2 fun os e => wpAny_pure (k _ ?_)))))
      rw [List.map_cons, List.map_cons, e]
      congr 1
      have z1 : us.toList.length = xs.length := ReadsAll.length _ _ _ g4
      cases xs with
      | nil =>
        have : us.size = 0 := by simpa using z1
        rw [Array.getElem?_eq_none (by omega)]
        rfl
      | cons x xs =>
        have : us.size = xs.length + 1 := by simpa using z1
        rw [Array.getElem?_eq_getElem (by omega)]
        rfl
theorem kind_tup {E : Value → Shared → Prop} {vs : List Value} {ds : List PyData} {Q : SortKind → Shared → Prop} (e : EachIs (fun v d => ∃ as, Reads s.heap v d as) vs ds) (ht : ds.all tupA = true) (hn : ds.all tupB = false) (h2 : 2 ≤ vs.length)
    (k : Q (if (ds.head?.map tupB).getD false = true then general' else oneType') s) : wpAny (model prog w) A (keyKind' vs.toArray) Q E s := by
  rw [kat_kind_eq, List.mapM_toArray, map_eq_pure_bind]
  refine wpAny_bind (wpAny_bind (firsts_of e ht fun os eo => wpAny_pure ?_))
  have hall : (os.toArray.all fun x => x.isSome) = false := by
    rw [← hn, List.all_toArray]
    have : os.all (fun x => x.isSome) = (os.map (·.isSome)).all id := by rw [List.all_map]; rfl
    rw [this, eo, List.all_map]
    rfl
  rw [if_neg (by rw [hall]; exact Bool.false_ne_true)]
  have h0 : (os.toArray[0]?.bind id).isSome = (ds.head?.map tupB).getD false := by
    cases os with
    | nil =>
      cases ds with
      | nil => rfl
      | cons _ _ => simp at eo
    | cons x os =>
      cases ds with
      | nil => simp at eo
      | cons d ds =>
        simp only [List.map_cons, List.cons.injEq] at eo
        simp [← eo.1]
  rw [h0]
  cases hb : (ds.head?.map tupB).getD false with
  | true =>
    rw [hb] at k
    exact wpAny_pure k
  | false =>
    rw [hb] at k
    simp only [Bool.false_eq_true, if_false] at k ⊢
    rw [oneTypeOnly'_eq, List.mapM_toArray, map_eq_pure_bind]
    refine wpAny_bind (wpAny_bind (wpAny_bind (kas_mapM (r := Value.type "tuple") _ (fun v hv Q' hq => ?_) (wpAny_pure ?_))))
    · obtain ⟨d, hd, as, r⟩ := e.left v hv
      obtain ⟨xs, rfl⟩ := tupA_some (List.all_eq_true.mp ht d hd)
      exact (looks_reads r).here hq
    · match vs, h2 with
      | v₁ :: v₂ :: rest, _ =>
        have hal : ((List.map (fun _ => Value.type "tuple") (v₁ :: v₂ :: rest)).toArray.all fun x => x == Value.type "tuple") = true := by
          simp only [List.all_toArray, List.all_map, List.all_eq_true]
          intro _ _
          rfl
        have hz : (List.map (fun _ => Value.type "tuple") (v₁ :: v₂ :: rest)).toArray[0]? = some (Value.type "tuple") := by simp
        rw [hz]
        simp only [hal, if_true]
        exact wpAny_pure (wpAny_pure k)
theorem sorts_tup {vs : List Value} {ds : List PyData} (e : EachIs (fun v d => ∃ as, Reads s.heap v d as) vs ds) (hal : AllAlike ds) (ht : ds.all tupA = true) (hu : ∀ d, d ∈ ds → A.units + d.depth < cLine) : SortsAt prog w A s (dataKind s.heap ds) vs := by
  cases hn : ds.all tupB with
  | true =>
    refine SortsAt.data e hal (.inl fun d hd => ?_) hu
    have := List.all_eq_true.mp hn d hd
    cases d with
    | tuple xs =>
      cases xs with
      | nil => cases this
      | cons x r => exact ⟨x, r, rfl⟩
    | _ => cases this
  | false =>
    refine ⟨fun v hv => ?_, (if (ds.head?.map tupB).getD false = true then general' else oneType'), ?_, fun h2 E Q hq => kind_tup e ht hn h2 hq⟩
    · obtain ⟨d, hd, as, r⟩ := e.left v hv
      exact ⟨_, dataKind_some hal hd r⟩
    · intro E x y a b Q ha hb hq
      obtain ⟨d, as, hd, ra, rfl⟩ := dataKind_inv ha
      obtain ⟨d', as', hd', rb, rfl⟩ := dataKind_inv hb
      have hdd := hal d hd d' hd'
      have room : A.units + min d.depth d'.depth < cLine := Nat.lt_of_le_of_lt (Nat.add_le_add_left (Nat.min_le_left _ _) _) (hu d hd)
      obtain ⟨x1, rfl⟩ := tupA_some (List.all_eq_true.mp ht d hd)
      obtain ⟨x2, rfl⟩ := tupA_some (List.all_eq_true.mp ht d' hd')
      have hq' : Q (dataLt (.tuple x1) (.tuple x2)) s := hq
      split
      · show wpAny _ _ (oneLt' false x y) _ _ _
        exact oneLt_alike (fun z => nomatch z) ra rb hdd (fun z => nomatch z) room hq'
      · rw [keyLt'_oneType]
        exact one_lt_tup ra rb hdd room hq'
def sortable (ds : List PyData) : Bool := ds.all tupA || ds.all othB
theorem sorts_any {vs : List Value} {ds : List PyData} (e : EachIs (fun v d => ∃ as, Reads s.heap v d as) vs ds) (hal : AllAlike ds) (so : sortable ds = true) (hu : ∀ d, d ∈ ds → A.units + d.depth < cLine) : SortsAt prog w A s (dataKind s.heap ds) vs := by
  unfold sortable at so
  rw [Bool.or_eq_true] at so
  rcases so with ht | ho
  · exact sorts_tup e hal ht hu
  · refine SortsAt.data e hal (.inr fun d hd => ?_) hu
    have h1 := List.all_eq_true.mp ho d hd
    refine ⟨fun z => ?_, fun xs z => ?_⟩
    · rw [z] at h1; cases h1
    · rw [z] at h1; cases h1
theorem sorted_any {l : Addr} {us : List Value} {xs : List D} {R : Value → D → Prop} {E : Value → Shared → Prop} {Q : Value → Shared → Prop} (hl : s.heap.IsList l us.toArray) (e1 : EachIs R us xs) (e2 : EachIs (fun v b => ∃ as, Reads s.heap v (D.py b) as) us xs)
    (al : AllAlike (xs.map D.py)) (so : sortable (xs.map D.py) = true) (hz : xs.length ≤ sizeLine) (hu : ∀ b, b ∈ xs → A.units + 2 + (D.py b).depth < cLine)
    (k : ∀ out, out.length = xs.length → EachIs R out (xs.mergeSort (dataLe false D.py)) → Q (.ref (s.heap.objs.size + 1)) { s with heap := sortedAll s.heap us (List.toArray out) }) :
    wpAny (model prog w) A (call (.builtin "sorted") [.ref l]) Q E s := by
  let h1 : Heap := sortingHeap (copyHeap s.heap us) (s.heap.objs.size + 1) us
  have e3 : EachIs (fun v b => ∃ as, Reads h1 v (D.py b) as) us xs := e2.mono fun v d ⟨as, r⟩ => ⟨as, PyProof.Rows.Reads.keeps (fun b o z => sorting_copy_old z) r⟩
  have S : SortsAt prog w A.in1.in1 { s with heap := h1 } (dataKind h1 (xs.map D.py)) us := by
    refine sorts_any (s := { s with heap := h1 }) (each_map (R := fun v d => ∃ as, Reads h1 v d as) D.py e3) al so fun d hd => ?_
    obtain ⟨b, hb, rfl⟩ := List.mem_map.mp hd
    exact hu b hb
  refine sorted_vals hl S (by rw [e1.length]; exact hz) (k _ ?_ (sortVals_data false e1 e3 al))
  rw [sortVals_length false rfl]
  exact e1.length
end
end Ev

set_option Elab.async false
set_option linter.all false
set_option autoImplicit false
set_option maxRecDepth 100000
set_option maxHeartbeats 1000000
/-! EvD0: dicts: the data's side, the operations in a run. -/
namespace Ev
open PySem PySem.Spec PyProof.Rows L2

theorem didx_nil {k : D} : didx [] k = none := rfl
theorem didx_pos {x k : D} {ks : List D} (h : keyOf x = keyOf k) : didx (x :: ks) k = some 0 := by
  unfold didx; rw [List.findIdx?_cons]; simp [kEq, h]
theorem didx_neg {x k : D} {ks : List D} (h : ¬ keyOf x = keyOf k) : didx (x :: ks) k = (didx ks k).map (· + 1) := by
  unfold didx; rw [List.findIdx?_cons]; simp [kEq, h]
theorem didx_lt {ks : List D} {k : D} {i : Nat} (h : didx ks k = some i) : ∃ hi : i < ks.length, keyOf ks[i] = keyOf k := by
  unfold didx at h
  obtain ⟨h1, h2, _⟩ := List.findIdx?_eq_some_iff_getElem.mp h
  exact ⟨h1, by simpa [kEq] using h2⟩
theorem didx_none {ks : List D} {k : D} (h : didx ks k = none) : ∀ x ∈ ks, ¬ keyOf x = keyOf k := by
  unfold didx at h
  intro x hx
  have := List.findIdx?_eq_none_iff.mp h x hx
  simpa [kEq] using this
theorem keyOf_keyD {a b : Key} : keyOf (keyD a) = keyOf (keyD b) ↔ a = b := by
  cases a <;> cases b <;> simp [keyD, keyOf]
theorem isK_keyD {a : Key} : isK (keyD a) = true := by cases a <;> rfl
theorem isK_ex {d : D} (h : isK d = true) : ∃ k, d = keyD k := by
  cases d with
  | int i => exact ⟨.inl i, rfl⟩
  | str s => exact ⟨.inr s, rfl⟩
  | _ => cases h
/-- int and text keys: the rules' own look-up -/
theorem valV_didx {α : Type} (f : V → α) : ∀ (kvs : List (Key × V)) (k : Key), (valV kvs k).map f = (didx (kvs.map fun p => keyD p.1) (keyD k)).bind fun i => ((kvs.map fun p => f p.2)[i]?)
  | [], _ => rfl
  | p :: r, k => by
    by_cases e : p.1 = k
    · rw [valV_pos e, List.map_cons, didx_pos (keyOf_keyD.mpr e)]; rfl
    · rw [valV_neg e, List.map_cons, didx_neg (fun z => e (keyOf_keyD.mp z)), valV_didx f r k]
      cases didx (r.map fun p => keyD p.1) (keyD k) <;> rfl
theorem putK_didx (kvs : List (Key × V)) (k : Key) (v : V) (hn : (kvs.map (·.1)).Nodup) :
    (putK kvs k v).map (fun p => keyD p.1) = dkeys (kvs.map fun p => keyD p.1) (keyD k) ∧ (putK kvs k v).map (·.2) = (match didx (kvs.map fun p => keyD p.1) (keyD k) with | some i => (kvs.map (·.2)).set i v | none => kvs.map (·.2) ++ [v]) := by
  have hv := valV_didx id kvs k
  cases hd : didx (kvs.map fun p => keyD p.1) (keyD k) with
  | none =>
    have hnone : valV kvs k = none := by rw [hd] at hv; simpa using hv
    rw [putK_new v hnone]
    simp [dkeys, hd]
  | some i =>
    obtain ⟨hi, hk⟩ := didx_lt hd
    simp only [List.getElem_map] at hk
    have hk' := keyOf_keyD.mp hk
    have hi' : i < kvs.length := by simpa using hi
    have hs : (valV kvs k).isSome = true := by
      have := valV_didx (fun _ => ()) kvs k
      rw [hd] at this
      cases q : valV kvs k with
      | some _ => rfl
      | none => rw [q] at this; simp [hi'] at this
    have e : putK kvs k v = kvs.map fun kv => if kv.1 = k then (kv.1, v) else kv := by
      unfold putK
      rw [if_pos (by rw [valV_any]; exact hs)]
    rw [e]
    refine ⟨?_, ?_⟩
    · simp only [dkeys, hd, Option.isSome_some, if_true, List.map_map]
      refine List.map_congr_left fun p _ => ?_
      simp only [Function.comp]
      split <;> rfl
    · simp only []
      refine List.ext_getElem (by simp) fun j h1 h2 => ?_
      simp only [List.length_map] at h1
      simp only [List.getElem_map, List.getElem_set]
      by_cases hj : i = j
      · subst hj
        rw [if_pos hk', if_pos rfl]
      · rw [if_neg hj, if_neg]
        intro z
        refine hj ?_
        have a1 : (kvs.map (·.1))[i]'(by simpa using hi') = (kvs.map (·.1))[j]'(by simpa using h1) := by simp [z, hk']
        exact (List.getElem_inj hn).mp a1

/-! ### tuples as keys, in a run -/
section
variable {g : Gh} {P : Program} {w : World} {h : Heap} {H : Hp}
theorem seqT_obj (ok : HOk P w H h) (KX : g.K.In h) {a : Addr} {vs : List V} (t : SqT g.K H a vs) : ∃ o its n, h.get? a = some o ∧ o.cls = .type "tuple" ∧ o.data = .seq its n ∧ Vals vs its.toList := by
  rcases t with t | ⟨o, its, n, h1, h2, h3, _, hv⟩
  · obtain ⟨_, its, hv, o, ho, hc, n, hd⟩ := t.ok ok
    exact ⟨o, its.toArray, n, ho, hc, hd, by simpa using hv⟩
  · exact ⟨o, its, n, KX _ _ h1, h2, h3, hv⟩
mutual
theorem nested_of (ok : HOk P w H h) (KX : g.K.In h) : ∀ {v : V} {d : D} {u : Value} (n : Nat), Rep g H v d → keyB n d = true → RelV v u → NestedIs h (keyOf d) u ∧ (keyOf d).depth ≤ n
  | _, _, _, n, .non, hb, r => by cases r; exact ⟨.none, by simp [keyOf, NestedKey.depth]⟩
  | _, _, _, n, .int i, hb, ⟨t, e⟩ => by subst e; exact ⟨.int _ _, by simp [keyOf, NestedKey.depth]⟩
  | _, _, _, n, .str x, hb, ⟨t, e⟩ => by subst e; exact ⟨.text _ _, by simp [keyOf, NestedKey.depth]⟩
  | _, _, _, 0, .tup t r, hb, _ => by cases hb
  | _, _, _, n + 1, .tup t r, hb, e => by
    cases e
    obtain ⟨o, its, m, h1, h2, h3, hv⟩ := seqT_obj ok KX t
    obtain ⟨q1, q2⟩ := nesteds_of ok KX n r hb hv
    exact ⟨.tup h1 h2 h3 q1, by simp only [keyOf, NestedKey.depth]; omega⟩
  | _, _, _, n, .bl b, hb, _ => by cases n <;> cases hb
  | _, _, _, n, .lst _ _, hb, _ => by cases n <;> cases hb
  | _, _, _, n, .pool, hb, _ => by cases n <;> cases hb
  | _, _, _, n, .scr _, hb, _ => by cases n <;> cases hb
  | _, _, _, n, .dictK _ _, hb, _ => by cases n <;> cases hb
  | _, _, _, n, .dictT _ _ _ _, hb, _ => by cases n <;> cases hb
  | _, _, _, n, .clo _ _ _ _ _ _, hb, _ => by cases n <;> cases hb
  | _, _, _, n, .obj _ _ _ _, hb, _ => by cases n <;> cases hb
theorem nesteds_of (ok : HOk P w H h) (KX : g.K.In h) : ∀ {vs : List V} {ds : List D} {us : List Value} (n : Nat), RepAll g H vs ds → keysB n ds = true → Vals vs us → NestedAll h (keysOf ds) us ∧ NestedKey.depthAll (keysOf ds) ≤ n
  | _, _, _, n, .nil, _, .nil => ⟨.nil, by simp [keysOf, NestedKey.depthAll]⟩
  | _, _, _, n, .cons r rs, hb, .cons e es => by
    simp only [keysB, Bool.and_eq_true] at hb
    obtain ⟨q1, q2⟩ := nested_of ok KX n r hb.1 e
    obtain ⟨q3, q4⟩ := nesteds_of ok KX n rs hb.2 es
    exact ⟨.cons q1 q3, by simp only [keysOf, NestedKey.depthAll]; omega⟩
end
theorem key_is (ok : HOk P w H h) (KX : g.K.In h) {b : Addr} {d : D} (r : Rep g H (.ref b) d) (hk : tupKey d = true) : (nestedKind P w).is h (keyOf d) b := by
  unfold tupKey at hk
  rw [Bool.and_eq_true] at hk
  exact nested_of ok KX 8 r hk.2 rfl
end

/-! ### what a dict's object holds -/
inductive DCon (g : Gh) (F : Hp) (a : Addr) (ks ds : List D) : HO → Prop
  | k {kvs : List (Key × V)} : ks = kvs.map (fun p => keyD p.1) → RepAll g F (kvs.map (·.2)) ds → DCon g F a ks ds (.dK kvs)
  | t {es : List (Int × Addr × V)} : DXOk g es ks → RepAll g F (es.map fun e => .ref e.2.1) ks → RepAll g F (es.map (·.2.2)) ds → DCon g F a ks ds (DX a es)
theorem DCon.mono {g : Gh} {F F' : Hp} {a : Addr} {ks ds : List D} {u : HO} (c : DCon g F a ks ds u) (e : Same F F') : DCon g F' a ks ds u := by
  cases c with
  | k h r => exact .k h (r.mono e)
  | t o r1 r2 => exact .t o (r1.mono e) (r2.mono e)
theorem DCon.nc {g : Gh} {F : Hp} {a : Addr} {ks ds : List D} {u : HO} (h : DCon g F a ks ds u) (c : Addr) (q : Str) : u ≠ LamX.CodeO c q := by
  cases h with
  | k _ _ => exact nofun
  | t _ _ _ => exact dx_code
theorem DCon.len {g : Gh} {F : Hp} {a : Addr} {ks ds : List D} {u : HO} (c : DCon g F a ks ds u) : ks.length = ds.length := by
  cases c with
  | k h r => have := r.length; subst h; simpa using this
  | t o r1 r2 => have := r1.length; have := r2.length; simp at *; omega
theorem DCon.rep {g : Gh} {F : Hp} {a : Addr} {ks ds : List D} {u : HO} {od : Obj} (c : DCon g F a ks ds u) (h : F a = some (.frz od u)) : Rep g F (.ref a) (.dict ks ds) := by
  cases c with
  | k e r => subst e; exact .dictK h r
  | t o r1 r2 => exact .dictT h o r1 r2
theorem DCon.own {g : Gh} {F H : Hp} {a : Addr} {ks ds : List D} {u : HO} (c : DCon g F a ks ds u) (h : H a = some u) : Own g F H a (.dict ks ds) := by
  cases c with
  | k e r => subst e; exact .dictK h r
  | t o r1 r2 => exact .dictT h o r1 r2
theorem Own.dcon {g : Gh} {F H : Hp} {a : Addr} {ks ds : List D} (o : Own g F H a (.dict ks ds)) : ∃ u, H a = some u ∧ DCon g F a ks ds u := by
  cases o with
  | dictK h r => exact ⟨_, h, .k rfl r⟩
  | dictT h o r1 r2 => exact ⟨_, h, .t o r1 r2⟩
theorem PRep.dictE {g : Gh} {F H : Hp} {v : V} {ks ds : List D} (s : Same F (vis g H)) (r : PRep g F H v (.dict ks ds)) : ∃ a u, v = .ref a ∧ Rd H a u ∧ DCon g F a ks ds u := by
  rcases r with r | ⟨a, rfl, o, _⟩
  · cases r with
    | dictK h r => exact ⟨_, _, rfl, .inr ⟨_, (vis_some (s _ _ h)).2⟩, .k rfl r⟩
    | dictT h o r1 r2 => exact ⟨_, _, rfl, .inr ⟨_, (vis_some (s _ _ h)).2⟩, .t o r1 r2⟩
  · obtain ⟨u, h, c⟩ := o.dcon
    exact ⟨a, u, rfl, .inl h, c⟩
section
variable {g : Gh} {P : Program} {w : World} {h : Heap} {H F : Hp} {a : Addr} {ks ds : List D}
abbrev NK (P : Program) (w : World) := nestedKind P w
theorem paired_entries {w : World} : ∀ {es : List (Int × Addr × V)} {ks : List D} {l : List DictEntry}, Paired (fun (x : Int × Addr × V) (y : DictEntry) => y.hash = x.1 ∧ y.key = .ref x.2.1 ∧ RelV x.2.2 y.val) es l → es.map (·.1) = (ks.map fun k => (keyOf k).hash w) →
    ∃ xs : List (NestedKey × Addr × Value), l = xs.map (entryOfKey (nestedKind P w)) ∧ xs.map (·.1) = ks.map keyOf ∧ xs.map (·.2.1) = es.map (·.2.1) ∧ Vals (es.map (·.2.2)) (xs.map (·.2.2))
  | [], [], [], _, _ => ⟨[], rfl, rfl, rfl, .nil⟩
  | [], _ :: _, _, _, e => by simp at e
  | _ :: _, [], _, _, e => by simp at e
  | x :: es, k :: ks, y :: l, .cons ⟨h1, h2, h3⟩ t, e => by
    simp only [List.map_cons, List.cons.injEq] at e
    obtain ⟨xs, q1, q2, q3, q4⟩ := paired_entries (ks := ks) t e.2
    obtain ⟨yh, yk, yv⟩ := y
    simp only at h1 h2 h3
    refine ⟨(keyOf k, x.2.1, yv) :: xs, ?_, by simp [q2], by simp [q3], .cons h3 q4⟩
    rw [List.map_cons, ← q1]
    congr 1
    show (⟨yh, yk, yv⟩ : DictEntry) = ⟨(keyOf k).hash w, .ref x.2.1, yv⟩
    rw [h1, h2, e.1]
theorem raw_empty {κ : Type} [DecidableEq κ] {knd : HeapKind P w κ} {o : Obj} {ep : Nat} (h1 : h.get? a = some o) (h2 : o.ExactDict) (h3 : o.data = .dict #[] ep) : h.DictOfH knd a [] :=
  ⟨o, #[], ep, h1, h2, h3, rfl, fun _ hx => (by cases hx), List.nodup_nil⟩
/-- a dict that can be asked for tuples -/
theorem dcon_t (ok : HOk P w H h) (KX : g.K.In h) (hw : g.w = w) (s : Same F H) {u : HO} (rd : Rd H a u) (c : DCon g F a ks ds u) (ht : ks.all isTup = true) : (a == sysModules) = false ∧ ks.length ≤ sizeLine ∧ ∃ xs, h.DictOfH (nestedKind P w) a xs ∧ xs.map (·.1) = ks.map keyOf ∧
    ∃ vs as, xs.map (·.2.1) = as ∧ RepAll g F (as.map V.ref) ks ∧ Vals vs (xs.map (·.2.2)) ∧ RepAll g F vs ds ∧ (∀ k ∈ ks, tupKey k = true) ∧ (ks.map keyOf).Nodup := by
  cases c with
  | @k kvs e r =>
    have hn : kvs = [] := by
      cases kvs with
      | nil => rfl
      | cons p _ =>
        subst e
        simp only [List.map_cons, List.all_cons, Bool.and_eq_true] at ht
        have := ht.1
        cases hp : p.1 <;> rw [hp] at this <;> cases this
    subst hn
    simp only [List.map_nil] at e r
    subst e
    cases r
    obtain ⟨z, hd, vs, rel, o, es, ep, h1, h2, h3, _, hp, _⟩ := dk_rd ok rd
    have hv : vs = [] := by have := rel.length; cases vs with | nil => rfl | cons _ _ => simp at this
    subst hv
    have he : es = #[] := by
      have := hp.length
      simp at this
      exact this
    subst he
    exact ⟨hd, Nat.zero_le _, [], raw_empty h1 h2 h3, rfl, [], [], rfl, .nil, .nil, .nil, fun _ z => (by cases z), List.nodup_nil⟩
  | @t es o r1 r2 =>
    obtain ⟨⟨hd, hz, ob, es', ep, h1, h2, h3, hp⟩, _, _⟩ := rd.ok ok
    obtain ⟨xs, q1, q2, q3, q4⟩ := paired_entries (P := P) (w := w) hp (by rw [o.hash, hw])
    have hl := r1.length
    simp only [List.length_map] at hl
    refine ⟨hd, by omega, xs, ⟨ob, _, ep, h1, h2, h3, q1, ?_, by rw [q2]; exact o.nd⟩, q2, _, _, q3, by rw [List.map_map]; exact r1, q4, r2, o.key, o.nd⟩
    intro x hx
    obtain ⟨i, hi, rfl⟩ := List.mem_iff_getElem.mp hx
    have hlx : xs.length = ks.length := by have := congrArg List.length q2; simpa using this
    have e1 : xs[i].1 = keyOf (ks[i]'(by omega)) := by
      have : (xs.map (·.1))[i]'(by simpa using hi) = (ks.map keyOf)[i]'(by simp; omega) := by simp [q2]
      simpa using this
    have hle : xs.length = es.length := by have := congrArg List.length q3; simpa using this
    have e2 : xs[i].2.1 = (es[i]'(by omega)).2.1 := by
      have : (xs.map (·.2.1))[i]'(by simpa using hi) = (es.map (·.2.1))[i]'(by simp; omega) := by simp [q3]
      simpa using this
    rw [e1, e2]
    obtain ⟨v, hv, rv⟩ := r1.get (i := i) (d := ks[i]'(by omega)) (by simp)
    rw [List.getElem?_map, List.getElem?_eq_getElem (show i < es.length by omega)] at hv
    cases hv
    exact key_is ok KX (rv.mono s) (o.key _ (List.getElem_mem _))
theorem atKey_didx (k : D) : ∀ {xs : List (NestedKey × Addr × Value)} {ks : List D}, xs.map (·.1) = ks.map keyOf → atKey xs (keyOf k) = (didx ks k).bind fun i => (xs[i]?).map (·.2)
  | [], [], _ => rfl
  | [], _ :: _, e => by simp at e
  | _ :: _, [], e => by simp at e
  | x :: xs, y :: ks, e => by
    simp only [List.map_cons, List.cons.injEq] at e
    by_cases q : keyOf y = keyOf k
    · rw [didx_pos q]
      simp [atKey, List.find?_cons, e.1, q]
    · rw [didx_neg q]
      have ih := atKey_didx k e.2
      unfold atKey at ih ⊢
      rw [List.find?_cons]
      simp only [e.1, q, decide_false]
      rw [ih]
      cases didx ks k <;> rfl
end

/-! ### the operations in a run -/
theorem dictOf_empty {P : Program} {w : World} {h : Heap} {a : Addr} {o : Obj} {ep : Nat} (h1 : h.get? a = some o) (h2 : o.ExactDict) (h3 : o.data = .dict #[] ep) : h.DictOf (mixKind P w) a [] :=
  ⟨o, #[], ep, h1, h2, h3, fun _ he => (by simp at he), .nil, List.nodup_nil⟩
theorem dcon_k {g : Gh} {P : Program} {w : World} {h : Heap} {H F : Hp} {a : Addr} {ks ds : List D} {u : HO} (ok : HOk P w H h) (rd : Rd H a u) (c : DCon g F a ks ds u) (hk : ks.all isK = true) :
    (a == sysModules) = false ∧ ∃ kvs vs, ks = kvs.map (fun p => keyD p.1) ∧ KV kvs vs ∧ h.DictOf (mixKind P w) a vs ∧ RepAll g F (kvs.map (·.2)) ds ∧ kvs.length ≤ sizeLine := by
  cases c with
  | @k kvs e r =>
    obtain ⟨z, hd, vs, rel, dd⟩ := dk_rd ok rd
    exact ⟨hd, kvs, vs, e, rel, dd, r, z⟩
  | @t es o r1 r2 =>
    have hn : ks = [] := by
      cases ks with
      | nil => rfl
      | cons x _ =>
        simp only [List.all_cons, Bool.and_eq_true] at hk
        have := o.key x List.mem_cons_self
        unfold tupKey at this
        cases x <;> simp [isK, isTup] at *
    subst hn
    have hl := r1.length
    simp at hl
    subst hl
    cases r2
    obtain ⟨⟨hd, hz, ob, es', ep, h1, h2, h3, hp⟩, _, _⟩ := rd.ok ok
    have he : es' = #[] := by
      have := Paired.length hp
      simp at this
      exact Array.eq_empty_of_size_eq_zero this.symm
    subst he
    exact ⟨hd, [], [], rfl, .nil, dictOf_empty h1 h2 h3, .nil, Nat.zero_le _⟩
theorem kindOk_cases {ks : List D} {k : D} (h : kindOk ks k = true) : (∃ key, k = keyD key ∧ ks.all isK = true) ∨ (tupKey k = true ∧ ks.all isTup = true) := by
  unfold kindOk at h
  simp only [Bool.or_eq_true, Bool.and_eq_true] at h
  rcases h with ⟨h1, h2⟩ | h
  · obtain ⟨key, e⟩ := isK_ex h1
    exact .inl ⟨key, e, h2⟩
  · exact .inr h
theorem rep_key {g : Gh} {F : Hp} {y : V} {key : Key} (r : Rep g F y (keyD key)) : y = kV key := by
  cases key <;> cases r <;> rfl
theorem rep_tup {g : Gh} {F : Hp} {y : V} {k : D} (r : Rep g F y k) (h : tupKey k = true) : ∃ b, y = .ref b := by
  unfold tupKey at h
  rw [Bool.and_eq_true] at h
  cases r <;> first | exact ⟨_, rfl⟩ | cases h.1
section
variable {X : Cx} {pins : List (Addr × Obj)} {σ : L2.St} {H F : Hp} {s : Shared} {g : Gh} {a : Addr} {ks ds : List D} {u : HO} {y : V} {k : D} {uu : Value} {A : Around} {E : Value → Shared → Prop}
theorem dx_in {Q : Value → Shared → Prop} (hu : A.units + 9 < cLine) (I : Inv X pins σ H s) (hK : X.K = g.K) (hw : g.w = X.w) (sm : Same F H) (rd : Rd H a u) (c : DCon g F a ks ds u) (rk : Rep g F y k) (ko : kindOk ks k = true) (ry : L2.RelV y uu)
    (h : ∀ s1, Inv X pins σ H s1 → Q (.bool (didx ks k).isSome) s1) : wpAny (model X.prog X.w) A (compareOp .In uu (.ref a)) Q E s := by
  rcases kindOk_cases ko with ⟨key, rfl, h2⟩ | ⟨h1, h2⟩
  · obtain ⟨hd, kvs, vs, rfl, rel, dd, _, _⟩ := dcon_k I.hok rd c h2
    obtain rfl := rep_key rk
    refine wpAny_in_of (kV_is ry) hd dd.mapOf ?_
    rw [← (rel.val key).isSome_eq]
    have e : (valV kvs key).isSome = (didx (kvs.map fun p => keyD p.1) (keyD key)).isSome := by
      have := valV_didx (fun _ => ()) kvs key
      cases hi : didx (kvs.map fun p => keyD p.1) (keyD key) with
      | none => rw [hi] at this; cases q : valV kvs key <;> simp [q] at this ⊢
      | some i =>
        obtain ⟨hl, _⟩ := didx_lt hi
        rw [hi] at this
        simp at hl
        cases q : valV kvs key <;> simp [q, hl] at this ⊢
    rw [e]
    exact h _ (I.tok _)
  · obtain ⟨hd, _, xs, dd, e1, _⟩ := dcon_t I.hok (by rw [← hK]; exact I.kIn) hw sm rd c h2
    obtain ⟨b, rfl⟩ := rep_tup rk h1
    cases (show uu = Value.ref b from ry)
    refine wpAny_in_heap (knd := nestedKind X.prog X.w) (by show A.in1.units + 8 < cLine; have : A.in1.units = A.units + 1 := rfl; omega) (key_is I.hok (by rw [← hK]; exact I.kIn) (rk.mono sm) h1) hd dd ?_
    rw [atKey_didx k e1]
    have hl : xs.length = ks.length := by have := congrArg List.length e1; simpa using this
    have e : ((didx ks k).bind fun i => (xs[i]?).map (·.2)).isSome = (didx ks k).isSome := by
      cases hi : didx ks k with
      | none => rfl
      | some i =>
        obtain ⟨hlt, _⟩ := didx_lt hi
        simp [show i < xs.length by omega]
    rw [e]
    exact h _ (I.tok _)
theorem dx_notIn {Q : Value → Shared → Prop} (hu : A.units + 9 < cLine) (I : Inv X pins σ H s) (hK : X.K = g.K) (hw : g.w = X.w) (sm : Same F H) (rd : Rd H a u) (c : DCon g F a ks ds u) (rk : Rep g F y k) (ko : kindOk ks k = true) (ry : L2.RelV y uu)
    (h : ∀ s1, Inv X pins σ H s1 → Q (.bool (!(didx ks k).isSome)) s1) : wpAny (model X.prog X.w) A (compareOp .NotIn uu (.ref a)) Q E s := by
  have key := dx_in (Q := fun v s1 => ∃ b, v = .bool b ∧ Q (.bool !b) s1) (E := E) hu I hK hw sm rd c rk ko ry fun s1 I1 => ⟨_, rfl, h s1 I1⟩
  rcases kindOk_cases ko with ⟨key', rfl, h2⟩ | ⟨h1, h2⟩
  · obtain ⟨hd, kvs, vs, rfl, rel, dd, _, _⟩ := dcon_k I.hok rd c h2
    obtain rfl := rep_key rk
    refine wpAny_notIn_of (kV_is ry) hd dd.mapOf ?_
    rw [← (rel.val key').isSome_eq]
    have e : (valV kvs key').isSome = (didx (kvs.map fun p => keyD p.1) (keyD key')).isSome := by
      have := valV_didx (fun _ => ()) kvs key'
      cases hi : didx (kvs.map fun p => keyD p.1) (keyD key') with
      | none => rw [hi] at this; cases q : valV kvs key' <;> simp [q] at this ⊢
      | some i =>
        obtain ⟨hl, _⟩ := didx_lt hi
        rw [hi] at this
        simp at hl
        cases q : valV kvs key' <;> simp [q, hl] at this ⊢
    rw [e]
    exact h _ (I.tok _)
  · obtain ⟨hd, _, xs, dd, e1, _⟩ := dcon_t I.hok (by rw [← hK]; exact I.kIn) hw sm rd c h2
    obtain ⟨b, rfl⟩ := rep_tup rk h1
    cases (show uu = Value.ref b from ry)
    refine wpAny_notIn_heap (knd := nestedKind X.prog X.w) (by show A.in1.units + 8 < cLine; have : A.in1.units = A.units + 1 := rfl; omega) (key_is I.hok (by rw [← hK]; exact I.kIn) (rk.mono sm) h1) hd dd ?_
    rw [atKey_didx k e1]
    have hl : xs.length = ks.length := by have := congrArg List.length e1; simpa using this
    have e : ((didx ks k).bind fun i => (xs[i]?).map (·.2)).isSome = (didx ks k).isSome := by
      cases hi : didx ks k with
      | none => rfl
      | some i =>
        obtain ⟨hlt, _⟩ := didx_lt hi
        simp [show i < xs.length by omega]
    rw [e]
    exact h _ (I.tok _)
theorem dx_get {d : D} (hu : A.units + 9 < cLine) (I : Inv X pins σ H s) (hK : X.K = g.K) (hw : g.w = X.w) (sm : Same F H) (rd : Rd H a u) (c : DCon g F a ks ds u) (rk : Rep g F y k) (ko : kindOk ks k = true) (ry : L2.RelV y uu) (hd' : dgetD ks ds k = some d)
    : ∃ v w', L2.RelV v w' ∧ Rep g F v d ∧ ∀ Q : Value → Shared → Prop, (∀ s1, Inv X pins σ H s1 → Q w' s1) → wpAny (model X.prog X.w) A (getItem (.ref a) uu) Q E s := by
  unfold dgetD at hd'
  obtain ⟨i, hi, hg⟩ := Option.bind_eq_some_iff.mp hd'
  clear hd'
  obtain ⟨hlt, _⟩ := didx_lt hi
  rcases kindOk_cases ko with ⟨key, rfl, h2⟩ | ⟨h1, h2⟩
  · obtain ⟨hd, kvs, vs, rfl, rel, dd, r, _⟩ := dcon_k I.hok rd c h2
    obtain rfl := rep_key rk
    obtain ⟨v, hv, rv⟩ := r.get hg
    have e : valV kvs key = some v := by
      have := valV_didx id kvs key
      rw [hi] at this
      simpa [hv] using this.trans (by simpa using hv)
    obtain ⟨w', hw', rw'⟩ := RelO.some_of (v := v) (o := valueAt vs key) (by rw [← e]; exact rel.val key)
    exact ⟨v, w', rw', rv, fun Q h => wpAny_getItem_of (kV_is ry) dd.mapOf hw' (h _ (I.tok _))⟩
  · obtain ⟨hd, _, xs, dd, e1, vs, as, _, _, rel, r, _⟩ := dcon_t I.hok (by rw [← hK]; exact I.kIn) hw sm rd c h2
    obtain ⟨b, rfl⟩ := rep_tup rk h1
    cases (show uu = Value.ref b from ry)
    obtain ⟨v, hv, rv⟩ := r.get hg
    obtain ⟨w', hw', rw'⟩ := rel.get hv
    rw [List.getElem?_map] at hw'
    obtain ⟨x, hx, rfl⟩ := Option.map_eq_some_iff.mp hw'
    refine ⟨v, _, rw', rv, fun Q h => wpAny_getItem_heap (knd := nestedKind X.prog X.w) (p := x.2) (by show A.in1.units + 8 < cLine; have : A.in1.units = A.units + 1 := rfl; omega) (key_is I.hok (by rw [← hK]; exact I.kIn) (rk.mono sm) h1) dd ?_ (h _ (I.tok _))⟩
    rw [atKey_didx k e1, hi]
    simp [hx]
theorem dx_len {Q : Value → Shared → Prop} (I : Inv X pins σ H s) (hw : g.w = X.w) (rd : Rd H a u) (c : DCon g F a ks ds u) (h : ∀ t s1, Inv X pins σ H s1 → Q (.int ks.length t) s1) : wpAny (model X.prog X.w) A (call (.builtin "len") [.ref a]) Q E s := by
  cases c with
  | @k kvs e r =>
    refine d_len I rd fun t s1 I1 => ?_
    have := h t s1 I1
    rw [e, List.length_map] at this
    exact this
  | @t es o r1 r2 =>
    obtain ⟨⟨hd, hz, ob, es', ep, h1, h2, h3, hp⟩, _, _⟩ := rd.ok I.hok
    have hl := r1.length
    have hl2 := Paired.length hp
    simp at hl hl2
    have hr : s.heap.DictRaw a es' ep := ⟨ob, h1, h2, h3⟩
    refine PyProof.Rows.call_len_slot (n := ks.length) ⟨ob, h1, h2.1⟩ PySem.F.slot_dict_len (fun Q' hq => call_len_raw hd hr (by rw [← hl2, hl]; exact hq)) (by omega) (by rw [sizeLine_eq] at hz; omega) ?_
    exact h _ _ (I.tok _)
end

section
variable {X : Cx} {pins : List (Addr × Obj)} {σ : L2.St} {H F : Hp} {s : Shared} {g : Gh} {a : Addr} {ks ds : List D} {u : HO} {y v : V} {k d : D} {uu w : Value} {A : Around} {E : Value → Shared → Prop}
theorem entries_paired {P : Program} {w : World} : ∀ {xs : List (NestedKey × Addr × Value)} {vs : List V}, Vals vs (xs.map (·.2.2)) → Paired (fun (x : Int × Addr × V) (y : DictEntry) => y.hash = x.1 ∧ y.key = .ref x.2.1 ∧ L2.RelV x.2.2 y.val) ((xs.zip vs).map fun p => (p.1.1.hash w, p.1.2.1, p.2)) (xs.map (entryOfKey (nestedKind P w)))
  | [], _, .nil => .nil
  | x :: xs, v :: vs, .cons h t => .cons ⟨rfl, rfl, h⟩ (entries_paired t)
theorem putAt_at {xs : List (NestedKey × Addr × Value)} {k : NestedKey} {v : Value} {i : Nat} (hn : (xs.map (·.1)).Nodup) (hi : i < xs.length) (hk : xs[i].1 = k) : xs.map (putAt k v) = xs.set i (k, xs[i].2.1, v) := by
  refine List.ext_getElem (by simp) fun j h1 h2 => ?_
  simp only [List.length_map] at h1
  simp only [List.getElem_map, List.getElem_set]
  by_cases hj : i = j
  · subst hj
    rw [if_pos rfl]
    unfold putAt
    rw [if_pos hk, hk]
  · rw [if_neg hj]
    unfold putAt
    rw [if_neg]
    intro z
    refine hj ?_
    have a1 : (xs.map (·.1))[i]'(by simpa using hi) = (xs.map (·.1))[j]'(by simpa using h1) := by simp [z, hk]
    exact (List.getElem_inj hn).mp a1
/-- the two ways to store: d[k] = v, a comprehension's -/
def putOp (m : Bool) (a : Addr) (k v : Value) : Sem Unit := if m then setItem (.ref a) k v else dictSet a k v
/-- d[k] = v, the dict open -/
theorem dx_put (m : Bool) {Q : Unit → Shared → Prop} (hu : A.units + 9 < cLine) (I : Inv X pins σ H s) (hK : X.K = g.K) (hw : g.w = X.w) (sm : Same F H) (rd : H a = some u) (c : DCon g F a ks ds u) (rk : Rep g F y k) (ko : kindOk ks k = true) (ry : L2.RelV y uu)
    (rv : Rep g F v d) (rw' : L2.RelV v w) (hl : ks.length < sizeLine) (h : ∀ s1 u', Inv X pins σ (upd H a u') s1 → DCon g F a (dkeys ks k) (dvals ks ds k d) u' → Q () s1) : wpAny (model X.prog X.w) A (putOp m a uu w) Q E s := by
  have mu : Mut (H a) := by rw [rd]; cases c <;> trivial
  rcases kindOk_cases ko with ⟨key, rfl, h2⟩ | ⟨h1, h2⟩
  · obtain ⟨hd, kvs, vs, rfl, rel, dd, r, hz⟩ := dcon_k I.hok (.inl rd) c h2
    obtain rfl := rep_key rk
    have hnd : (kvs.map (·.1)).Nodup := by
      obtain ⟨_, _, _, _, _, _, _, _, hnd⟩ := id dd
      rw [rel.keys]; exact hnd
    suffices go : ∀ h', h'.DictOf (mixKind X.prog X.w) a (stored vs key w) → Heap.SameBut a s.heap h' → Q () { s with heap := h', toks := s.toks + 1 } by
      cases m with
      | true => exact wpAny_setItem_pairs (hsz := by rw [← rel.length]; exact hz) (kV_is ry) dd go
      | false => exact wpAny_dictSet_pairs (hsz := by rw [← rel.length]; exact hz) (kV_is ry) dd go
    intro h' dd' hs
    have hl' : (putK kvs key v).length ≤ sizeLine := by have := length_putK kvs key v; simp at hl; omega
    have he : ∃ q, h'.get? a = some q := let ⟨q, _, _, hq, _⟩ := dd'; ⟨q, hq⟩
    refine h _ _ (d_write I mu hs he (dk_new hl' hd (rel.put key rw') dd')) ?_
    obtain ⟨q1, q2⟩ := putK_didx kvs key v hnd
    refine .k q1.symm ?_
    rw [q2]
    unfold dvals
    cases hi : didx (kvs.map fun p => keyD p.1) (keyD key) with
    | none => exact r.append (.cons rv .nil)
    | some i => exact r.set rv i
  · obtain ⟨hd, hz, xs, dd, e1, vs, as, e2, ra, rel, r, hkey, hnd⟩ := dcon_t I.hok (by rw [← hK]; exact I.kIn) hw sm (.inl rd) c h2
    obtain ⟨b, rfl⟩ := rep_tup rk h1
    cases (show uu = Value.ref b from ry)
    have hlx : xs.length = ks.length := by have := congrArg List.length e1; simpa using this
    have hlv : vs.length = ks.length := by have := rel.length; simp at this; omega
    have hat := atKey_didx k e1
    have hxn : (xs.map (·.1)).Nodup := by rw [e1]; exact hnd
    suffices go : ∀ h', h'.DictOfH (nestedKind X.prog X.w) a (storedH xs (keyOf k) b w) → Heap.SameBut a s.heap h' → Q () { s with heap := h', toks := s.toks + (nestedKind X.prog X.w).draws (keyOf k) } by
      cases m with
      | true => exact wpAny_setItem_heap (knd := nestedKind X.prog X.w) (hsz := by omega) (by show A.in1.units + 8 < cLine; have : A.in1.units = A.units + 1 := rfl; omega) (key_is I.hok (by rw [← hK]; exact I.kIn) (rk.mono sm) h1) dd go
      | false => exact wpAny_dictSet_heap (knd := nestedKind X.prog X.w) (hsz := by omega) (by show A.units + 8 < cLine; omega) (key_is I.hok (by rw [← hK]; exact I.kIn) (rk.mono sm) h1) dd go
    intro h' dd' hs
    obtain ⟨q, es', ep, hq, q2, q3, q4, q5, q6⟩ := dd'
    have he : ∃ q, h'.get? a = some q := ⟨q, hq⟩
    have fin : ∀ (xs' : List (NestedKey × Addr × Value)) (vs' : List V) (ks' ds' : List D), storedH xs (keyOf k) b w = xs' → xs'.map (·.1) = ks'.map keyOf → Vals vs' (xs'.map (·.2.2)) → RepAll g F ((xs'.map (·.2.1)).map V.ref) ks' → RepAll g F vs' ds' → (∀ x ∈ ks', tupKey x = true) → (ks'.map keyOf).Nodup → ks'.length ≤ sizeLine →
        ks' = dkeys ks k → ds' = dvals ks ds k d → Q () { s with heap := h', toks := s.toks + (nestedKind X.prog X.w).draws (keyOf k) } := by
      intro xs' vs' ks' ds' f1 f2 f3 f4 f5 f6 f7 f8 f9 f10
      have hlx' : xs'.length = ks'.length := by have := congrArg List.length f2; simpa using this
      have hlv' : vs'.length = xs'.length := by have := f3.length; simpa using this
      have z1 : ((xs'.zip vs').map fun p => (p.1.1.hash X.w, p.1.2.1, p.2)).length = ks'.length := by simp; omega
      have fst_ : (xs'.zip vs').map (·.1) = xs' := List.map_fst_zip (by omega)
      have snd_ : (xs'.zip vs').map (·.2) = vs' := List.map_snd_zip (by omega)
      refine h _ (DX a ((xs'.zip vs').map fun p => (p.1.1.hash X.w, p.1.2.1, p.2))) (d_write I mu hs he ⟨⟨hd, by rw [z1]; exact f8, q, es', ep, hq, q2, q3, ?_⟩, he, fun h1 h2 ⟨p1, p2, o, e1, e2, p3, p4⟩ st => ⟨p1, p2, o, e1, e2, st _ p3, p4⟩⟩) ?_
      · rw [q4, f1]
        exact entries_paired f3
      · rw [← f9, ← f10]
        refine .t ⟨f6, ?_, f7⟩ ?_ ?_
        · rw [List.map_map, hw]
          have : ((fun p : (NestedKey × Addr × Value) × V => p.1.1.hash X.w) : (NestedKey × Addr × Value) × V → Int) = (fun x : NestedKey × Addr × Value => x.1.hash X.w) ∘ (·.1) := rfl
          show (xs'.zip vs').map (fun p => p.1.1.hash X.w) = _
          rw [this, ← List.map_map, fst_]
          have : (fun x : NestedKey × Addr × Value => x.1.hash X.w) = (fun n : NestedKey => n.hash X.w) ∘ (·.1) := rfl
          rw [this, ← List.map_map, f2, List.map_map]
          rfl
        · rw [List.map_map]
          show RepAll g F ((xs'.zip vs').map ((fun x : NestedKey × Addr × Value => V.ref x.2.1) ∘ (·.1))) ks'
          rw [← List.map_map, fst_]
          rw [List.map_map] at f4
          exact f4
        · rw [List.map_map]
          show RepAll g F ((xs'.zip vs').map (·.2)) ds'
          rw [snd_]
          exact f5
    cases hi : didx ks k with
    | none =>
      have ha : atKey xs (keyOf k) = none := by rw [hat, hi]; rfl
      refine fin (xs ++ [(keyOf k, b, w)]) (vs ++ [v]) (ks ++ [k]) (ds ++ [d]) (storedH_new ha b w) (by simp [e1]) ?_ ?_ (r.append (.cons rv .nil)) ?_ ?_ (by simp; omega) (by simp [dkeys, hi]) (by simp [dvals, hi])
      · rw [List.map_append]; exact rel.append (.cons rw' .nil)
      · rw [List.map_append, List.map_append, e2]; exact ra.append (.cons rk .nil)
      · intro x hx
        rcases List.mem_append.mp hx with hx | hx
        · exact hkey x hx
        · simp at hx; subst hx; exact h1
      · rw [List.map_append, List.nodup_append]
        refine ⟨hnd, by simp, ?_⟩
        intro x hx z hz e
        simp at hz
        subst hz
        obtain ⟨k', hk', rfl⟩ := List.mem_map.mp hx
        exact didx_none hi k' hk' e
    | some i =>
      obtain ⟨hlt, hk'⟩ := didx_lt hi
      have hix : i < xs.length := by omega
      have hkx : xs[i].1 = keyOf k := by
        have : (xs.map (·.1))[i]'(by simpa using hix) = (ks.map keyOf)[i]'(by simpa using hlt) := by simp [e1]
        simpa [hk'] using this
      have ha : atKey xs (keyOf k) = some xs[i].2 := by rw [hat, hi]; simp [hix]
      refine fin (xs.set i (keyOf k, xs[i].2.1, w)) (vs.set i v) ks (ds.set i d) ((storedH_old ha b w).trans (putAt_at hxn hix hkx)) ?_ ?_ ?_ (r.set rv i) hkey hnd (by omega) (by simp [dkeys, hi]) (by simp [dvals, hi])
      · rw [← e1, List.map_set, ← hkx]
        have := List.set_getElem_self (as := xs.map (·.1)) (i := i) (by simpa using hix)
        simpa using this
      · rw [List.map_set]; exact rel.set rw' i
      · rw [List.map_set]
        have : (xs.map (·.2.1)).set i xs[i].2.1 = xs.map (·.2.1) := by
          have := List.set_getElem_self (as := xs.map (·.2.1)) (i := i) (by simpa using hix)
          simpa using this
        rw [this, e2]
        exact ra
/-! ### as rules -/
def rIxDict (g : Gh) : R2 := fun x y H Q => ∃ (F : Hp) (a : Addr) (u : HO) (ks ds : List D) (k d : D), x = .ref a ∧ Same F H ∧ Rd H a u ∧ DCon g F a ks ds u ∧ Rep g F y k ∧ kindOk ks k = true ∧ dgetD ks ds k = some d ∧ ∀ v, Rep g F v d → Q v H
theorem rd_type {X : Cx} {pins : List (Addr × Obj)} {σ : L2.St} (I : Inv X pins σ H s) (rd : Rd H a u) (c : DCon g F a ks ds u) : s.TypeIs (.ref a) "dict" := by
  cases c with
  | k e r =>
    obtain ⟨_, _, vs, rel, dd⟩ := dk_rd I.hok rd
    exact dd.typeIs
  | t o r1 r2 =>
    obtain ⟨⟨hd, hz, ob, es', ep, h1, h2, h3, hp⟩, _, _⟩ := rd.ok I.hok
    exact ⟨ob, h1, h2.1⟩
theorem ix_dict (hu : X.A.units + 9 < cLine) (hK : X.K = g.K) (hw : g.w = X.w) : IxR X (rIxDict g) := by
  intro value slice pins s σ H x y v u Q I rx ry h hs
  obtain ⟨F, a, u', ks, ds, k, d, rfl, sm, rd, c, rk, ko, hg, q⟩ := h
  cases rx
  obtain ⟨v, w', rw', rv, go⟩ := dx_get (E := X.xe) (A := X.A) hu I hK hw sm rd c rk ko ry hg
  exact subscriptTail_builtinR (x := w') (rd_type I rd c) PySem.F.slot_dict_getitem.lookup (go _ fun s1 I1 => ⟨rfl, v, H, I1, rw', q v rv⟩) hs
def rInDict (g : Gh) : R2 := fun x y H Q => ∃ (F : Hp) (a : Addr) (u : HO) (ks ds : List D) (k : D), y = .ref a ∧ Same F H ∧ Rd H a u ∧ DCon g F a ks ds u ∧ Rep g F x k ∧ kindOk ks k = true ∧ Q (.bl (didx ks k).isSome) H
def rNotInDict (g : Gh) : R2 := fun x y H Q => ∃ (F : Hp) (a : Addr) (u : HO) (ks ds : List D) (k : D), y = .ref a ∧ Same F H ∧ Rd H a u ∧ DCon g F a ks ds u ∧ Rep g F x k ∧ kindOk ks k = true ∧ Q (.bl (!(didx ks k).isSome)) H
theorem op_inDict (hu : X.A.units + 9 < cLine) (hK : X.K = g.K) (hw : g.w = X.w) : OpR X (compareOp .In) (rInDict g) := by
  intro pins s σ H x y v u Q I rx ry h
  obtain ⟨F, a, u', ks, ds, k, rfl, sm, rd, c, rk, ko, q⟩ := h
  cases ry
  exact dx_in hu I hK hw sm rd c rk ko rx fun s1 I1 => ⟨.bl _, H, I1, rfl, q⟩
theorem op_notInDict (hu : X.A.units + 9 < cLine) (hK : X.K = g.K) (hw : g.w = X.w) : OpR X (compareOp .NotIn) (rNotInDict g) := by
  intro pins s σ H x y v u Q I rx ry h
  obtain ⟨F, a, u', ks, ds, k, rfl, sm, rd, c, rk, ko, q⟩ := h
  cases ry
  exact dx_notIn hu I hK hw sm rd c rk ko rx fun s1 I1 => ⟨.bl _, H, I1, rfl, q⟩
end
end Ev

set_option Elab.async false
set_option linter.all false
set_option autoImplicit false
set_option maxRecDepth 100000
/-! Ev2: comparisons, truth, tests, items, slices, displays. -/
namespace Ev
open PySem PySem.Spec PyProof.Rows L2

def truD : D → Option Bool
  | .none => some false
  | .bool b => some b
  | .int i => some (i != 0)
  | .str x => if x.length ≤ 16777216 then some ((x.length : Int) != 0) else none
  | .tup xs => some (!xs.isEmpty)
  | .lst xs => some (!xs.isEmpty)
  | .pool => none
  | .scr _ => none
  | .dict _ _ => none
  | .clo _ _ => none
  | .obj _ _ _ => none
def tst (f : Rho → M D) : Rho → M Bool := fun ρ => do let d ← f ρ; M.opt (truD d)

section
variable {X : Cx} {g : Gh}
theorem tOp_of {r : R2} {f : D → D → Option D} {fa fb : Rho → M D} {σ : St} {H : Hp} {Q : VK} (hk : OpOk g r f) (h : RdV g (fun ρ => do let x ← fa ρ; let y ← fb ρ; M.opt (f x y)) σ H Q) : tOp r (RdP g fa) (RdP g fb) σ H Q := by
  obtain ⟨F0, H0, F, ρ, n, d, n', e, m, k⟩ := h
  obtain ⟨x, n1, e1, e⟩ := M.bind_some e
  obtain ⟨y, n2, e2, e⟩ := M.bind_some e
  obtain ⟨e3, e4⟩ := M.opt_ok e
  simp only at e3 e4
  subst e4
  refine ⟨F0, H0, F, ρ, n, x, n1, e1, m, fun v1 F1 H1 g1 s1 P1 r1 => ⟨F0, H0, F1, ρ, n1, y, _, e2, m.grow g1 s1 P1, fun v2 F2 H2 g2 s2 P2 r2 => ?_⟩⟩
  exact hk F2 H2 _ v1 v2 x y d Q s2 P2 (r1.grow g2) r2 e3 fun v F' H' g3 s3 P3 r3 => k v F' H' (g1.trans (g2.trans g3)) s3 P3 r3

/-! ### comparisons -/
theorem ok_eq (hK : X.K = g.K) : OpOk g (fun x y H Q => rEqD X.K x y H Q ∨ rEq x y H Q) (fun x y => (cmpD .eq x y).map D.bool) := by
  intro F H n x y dx dy d Q s P rx ry e k
  simp only [cmpD, eqD] at e
  split at e
  · rename_i h
    simp only [Option.map_some, Option.some.injEq] at e
    subst e
    simp only [okD, Bool.and_eq_true] at h
    refine .inl ⟨dx.py, dy.py, ?_, ?_, h.1.2, h.2.2, OpOk.same s P k (.bl _)⟩
    · rw [hK]; exact rx.dp s h.1.1
    · rw [hK]; exact ry.dp s h.2.1
  · simp only [Option.map_eq_some_iff] at e
    obtain ⟨b, hb, rfl⟩ := e
    obtain ⟨a, c, rfl, rfl, rfl⟩ := strEq_some hb
    cases rx.strE
    cases ry.strE
    refine .inr ⟨rfl, ?_⟩
    have hd : decide (V.str a = V.str c) = decide (a = c) := by
      rw [Bool.eq_iff_iff]
      simp
    rw [hd]
    exact OpOk.same s P k (.bl _)
theorem ok_ne (hK : X.K = g.K) : OpOk g (fun x y H Q => rNeD X.K x y H Q ∨ rNe x y H Q) (fun x y => (cmpD .ne x y).map D.bool) := by
  intro F H n x y dx dy d Q s P rx ry e k
  simp only [cmpD, eqD] at e
  split at e
  · rename_i h
    simp only [Option.map_some, Option.some.injEq] at e
    subst e
    simp only [okD, Bool.and_eq_true] at h
    refine .inl ⟨dx.py, dy.py, ?_, ?_, h.1.2, h.2.2, OpOk.same s P k (.bl _)⟩
    · rw [hK]; exact rx.dp s h.1.1
    · rw [hK]; exact ry.dp s h.2.1
  · simp only [Option.map_map, Option.map_eq_some_iff] at e
    obtain ⟨b, hb, rfl⟩ := e
    obtain ⟨a, c, rfl, rfl, rfl⟩ := strEq_some hb
    cases rx.strE
    cases ry.strE
    refine .inr ⟨rfl, ?_⟩
    have hd : decide (V.str a = V.str c) = decide (a = c) := by
      rw [Bool.eq_iff_iff]
      simp
    rw [hd]
    exact OpOk.same s P k (.bl _)
abbrev rLtD (K : PySem.W.Frag) : R2 := fun x y H Q => rI0 (fun i j => .bl (decide (i < j))) x y H Q ∨ (∃ i j, x = .str i ∧ y = .str j ∧ Q (.bl (decide (i.cps.toList < j.cps.toList))) H) ∨ rLtT K x y H Q
theorem op_ltD (hu : X.A.units < cLine) : OpR X (compareOp .Lt) (rLtD X.K) := op_lt.or (op_lt_str.or (op_ltT hu))
theorem ok_lt (hK : X.K = g.K) : OpOk g (rLtD X.K) (fun x y => (cmpD .lt x y).map D.bool) := by
  intro F H n x y dx dy d Q s P rx ry e k
  simp only [cmpD] at e
  cases dx <;> cases dy <;> simp only [ltD, Option.map_none, reduceCtorEq] at e
  · cases e
    exact .inl ⟨_, _, rx.intE, ry.intE, OpOk.same s P k (.bl _)⟩
  · cases e
    exact .inr (.inl ⟨_, _, rx.strE, ry.strE, OpOk.same s P k (.bl _)⟩)
  · rename_i xs ys
    split at e
    · rename_i ns ms h1 h2
      simp only [Option.map_some, Option.some.injEq] at e
      subst e
      rw [intsD_map h1] at rx
      rw [intsD_map h2] at ry
      obtain ⟨a, vs, rfl, fa, ha, ra⟩ := rx.tupE s
      obtain ⟨b, ws, rfl, fb, hb, rb⟩ := ry.tupE s
      rw [repAll_ints ra] at ha
      rw [repAll_ints rb] at hb
      exact .inr (.inr ⟨a, b, ns, ms, rfl, rfl, by rw [hK]; exact ha, by rw [hK]; exact hb, OpOk.same s P k (.bl _)⟩)
    · cases e
theorem ok_le : OpOk g (rI0 fun i j => .bl (decide (i ≤ j))) (fun x y => (cmpD .le x y).map D.bool) := by
  intro F H n x y dx dy d Q s P rx ry e k
  simp only [cmpD] at e
  cases dx <;> cases dy <;> simp only [leD, Option.map_none, reduceCtorEq] at e
  cases e
  exact ⟨_, _, rx.intE, ry.intE, OpOk.same s P k (.bl _)⟩
theorem ok_gt : OpOk g (rI0 fun i j => .bl (decide (j < i))) (fun x y => (cmpD .gt x y).map D.bool) := by
  intro F H n x y dx dy d Q s P rx ry e k
  simp only [cmpD] at e
  cases dx <;> cases dy <;> simp only [gtD, Option.map_none, reduceCtorEq] at e
  cases e
  exact ⟨_, _, rx.intE, ry.intE, OpOk.same s P k (.bl _)⟩
theorem ok_ge : OpOk g (rI0 fun i j => .bl (decide (j ≤ i))) (fun x y => (cmpD .ge x y).map D.bool) := by
  intro F H n x y dx dy d Q s P rx ry e k
  simp only [cmpD] at e
  cases dx <;> cases dy <;> simp only [geD, Option.map_none, reduceCtorEq] at e
  cases e
  exact ⟨_, _, rx.intE, ry.intE, OpOk.same s P k (.bl _)⟩
abbrev rIsD : R2 := fun x y H Q => (y = .non ∧ Q (.bl (decide (x = .non))) H) ∨ rIsB x y H Q
abbrev rIsNotD : R2 := fun x y H Q => (y = .non ∧ Q (.bl (!decide (x = .non))) H) ∨ rNotB x y H Q
theorem op_isD : OpR X (compareOp .Is) rIsD := op_isN.or op_isBl
theorem op_isNotD : OpR X (compareOp .IsNot) rIsNotD := op_notN.or op_notBl
theorem isD_cases {dx dy : D} {b : Bool} (h : isD dx dy = some b) : (∃ p q, dx = .bool p ∧ dy = .bool q ∧ b = decide (p = q)) ∨ (dy = .none ∧ ((dx = .none ∧ b = true) ∨ (dx ≠ .none ∧ b = false))) := by
  cases dx <;> cases dy <;> simp only [isD, reduceCtorEq] at h <;> cases h <;> simp
theorem is_non {F H : Hp} {x : V} {dx : D} (s : Same F (vis g H)) (rx : PRep g F H x dx) : decide (x = V.non) = true ↔ dx = .none := by
  rcases rx with r | ⟨a, rfl, o, _⟩
  · cases r <;> simp
  · cases o <;> simp
theorem ok_is : OpOk g rIsD (fun x y => (cmpD .is x y).map D.bool) := by
  intro F H n x y dx dy d Q s P rx ry e k
  simp only [cmpD, Option.map_eq_some_iff] at e
  obtain ⟨b, e, rfl⟩ := e
  rcases isD_cases e with ⟨p, q, rfl, rfl, rfl⟩ | ⟨rfl, h⟩
  · exact .inr ⟨p, q, rx.boolE, ry.boolE, OpOk.same s P k (.bl _)⟩
  · refine .inl ⟨ry.noneE, ?_⟩
    have hb : decide (x = V.non) = b := by
      rcases h with ⟨h, rfl⟩ | ⟨h, rfl⟩
      · exact (is_non s rx).mpr h
      · exact Bool.eq_false_iff.mpr fun z => h ((is_non s rx).mp z)
    rw [hb]
    exact OpOk.same s P k (.bl _)
theorem ok_isNot : OpOk g rIsNotD (fun x y => (cmpD .isNot x y).map D.bool) := by
  intro F H n x y dx dy d Q s P rx ry e k
  simp only [cmpD, Option.map_map, Option.map_eq_some_iff] at e
  obtain ⟨b, e, rfl⟩ := e
  rcases isD_cases e with ⟨p, q, rfl, rfl, rfl⟩ | ⟨rfl, h⟩
  · exact .inr ⟨p, q, rx.boolE, ry.boolE, OpOk.same s P k (.bl _)⟩
  · refine .inl ⟨ry.noneE, ?_⟩
    have hb : decide (x = V.non) = b := by
      rcases h with ⟨h, rfl⟩ | ⟨h, rfl⟩
      · exact (is_non s rx).mpr h
      · exact Bool.eq_false_iff.mpr fun z => h ((is_non s rx).mp z)
    rw [hb]
    exact OpOk.same s P k (.bl _)
def rInT (K : PySem.W.Frag) : R2 := fun x y H Q => ∃ d ds, Dp K H x d ∧ Dp K H y (.tuple ds) ∧ SeqAt.shaped d = true ∧ SeqAt.shaped (.tuple ds) = true ∧ Q (.bl (ds.any fun z => PyData.eqv z d)) H
def rNotInT (K : PySem.W.Frag) : R2 := fun x y H Q => ∃ d ds, Dp K H x d ∧ Dp K H y (.tuple ds) ∧ SeqAt.shaped d = true ∧ SeqAt.shaped (.tuple ds) = true ∧ Q (.bl (!ds.any fun z => PyData.eqv z d)) H
theorem op_inT (hu : X.A.units + 65 < cLine) : OpR X (compareOp .In) (rInT X.K) := by
  intro pins s σ H x y v u Q I rx ry h
  obtain ⟨d, ds, hd, he, sd, se, q⟩ := h
  obtain ⟨as, r1⟩ := Dp.reads I d x v hd rx
  obtain ⟨bs, r2⟩ := Dp.reads I (.tuple ds) y u he ry
  exact SeqAt.in_tuple_reads r2 r1 (SeqAt.canLay_of_shaped se) (SeqAt.canLay_of_shaped sd) (room_in_shaped sd hu) ⟨.bl _, H, I, rfl, q⟩
theorem op_notInT (hu : X.A.units + 65 < cLine) : OpR X (compareOp .NotIn) (rNotInT X.K) := by
  intro pins s σ H x y v u Q I rx ry h
  obtain ⟨d, ds, hd, he, sd, se, q⟩ := h
  obtain ⟨as, r1⟩ := Dp.reads I d x v hd rx
  obtain ⟨bs, r2⟩ := Dp.reads I (.tuple ds) y u he ry
  exact SeqAt.notIn_tuple_reads r2 r1 (SeqAt.canLay_of_shaped se) (SeqAt.canLay_of_shaped sd) (room_in_shaped sd hu) ⟨.bl _, H, I, rfl, q⟩
abbrev rMem (g : Gh) (K : PySem.W.Frag) : R2 := fun x y H Q => rInT K x y H Q ∨ rInD K x y H Q ∨ rInDict g x y H Q ∨ (∃ i j, x = .str i ∧ y = .str j ∧ Q (.bl (!(Builtin.Str.occurrences j i 0 j.length 1).isEmpty)) H)
abbrev rNotMem (g : Gh) (K : PySem.W.Frag) : R2 := fun x y H Q => rNotInT K x y H Q ∨ rNotInD K x y H Q ∨ rNotInDict g x y H Q ∨ (∃ i j, x = .str i ∧ y = .str j ∧ Q (.bl (!(!(Builtin.Str.occurrences j i 0 j.length 1).isEmpty))) H)
theorem op_memD (hK : X.K = g.K) (hw : g.w = X.w) (hu : X.A.units + 65 < cLine) : OpR X (compareOp .In) (rMem g X.K) := (op_inT hu).or ((op_inD hu).or ((op_inDict (by omega) hK hw).or op_in_str))
theorem op_notMemD (hK : X.K = g.K) (hw : g.w = X.w) (hu : X.A.units + 65 < cLine) : OpR X (compareOp .NotIn) (rNotMem g X.K) := (op_notInT hu).or ((op_notInD hu).or ((op_notInDict (by omega) hK hw).or op_notin_str))
theorem inD_cases {dx dy : D} {b : Bool} (h : inD dx dy = some b) : (∃ ys, dy = .tup ys ∧ okD dx = true ∧ okD (.tup ys) = true ∧ b = ((D.pys ys).any fun z => PyData.eqv z dx.py)) ∨ (∃ ys, dy = .lst ys ∧ okD dx = true ∧ okD (.lst ys) = true ∧ b = ((D.pys ys).any fun z => PyData.eqv z dx.py)) ∨
    (∃ ks ds, dy = .dict ks ds ∧ kindOk ks dx = true ∧ b = (didx ks dx).isSome) ∨ ∃ x y, dx = .str x ∧ dy = .str y ∧ b = (!(Builtin.Str.occurrences y x 0 y.length 1).isEmpty) := by
  cases dy with
  | dict ks ds =>
    have h' : (if kindOk ks dx = true then some (didx ks dx).isSome else none) = some b := by cases dx <;> exact h
    split at h' <;> cases h'
    rename_i q
    exact .inr (.inr (.inl ⟨_, _, rfl, q, rfl⟩))
  | tup ys =>
    have h' : (if (okD dx && okD (.tup ys)) = true then some ((D.pys ys).any fun z => PyData.eqv z dx.py) else none) = some b := by cases dx <;> exact h
    split at h' <;> cases h'
    rename_i q
    rw [Bool.and_eq_true] at q
    exact .inl ⟨_, rfl, q.1, q.2, rfl⟩
  | lst ys =>
    have h' : (if (okD dx && okD (.lst ys)) = true then some ((D.pys ys).any fun z => PyData.eqv z dx.py) else none) = some b := by cases dx <;> exact h
    split at h' <;> cases h'
    rename_i q
    rw [Bool.and_eq_true] at q
    exact .inr (.inl ⟨_, rfl, q.1, q.2, rfl⟩)
  | str y =>
    cases dx with
    | str x => cases h; exact .inr (.inr (.inr ⟨_, _, rfl, rfl, rfl⟩))
    | _ => cases h
  | _ => cases dx <;> cases h
theorem PRep.key {F H : Hp} {x : V} {k : D} {ks : List D} (r : PRep g F H x k) (h : kindOk ks k = true) : Rep g F x k := by
  rcases r with r | ⟨a, rfl, o, _⟩
  · exact r
  · exfalso
    unfold kindOk tupKey at h
    cases o <;> simp [isK, isTup] at h
theorem ok_mem (hK : X.K = g.K) : OpOk g (rMem g X.K) (fun x y => (cmpD .mem x y).map D.bool) := by
  intro F H n x y dx dy d Q s P rx ry e k
  simp only [cmpD, Option.map_eq_some_iff] at e
  obtain ⟨b, e, rfl⟩ := e
  rcases inD_cases e with ⟨ys, rfl, h1, h2, rfl⟩ | ⟨ys, rfl, h1, h2, rfl⟩ | ⟨ks, ds, rfl, h1, rfl⟩ | ⟨i, j, rfl, rfl, rfl⟩
  · simp only [okD, Bool.and_eq_true] at h1 h2
    exact .inl ⟨dx.py, D.pys ys, by rw [hK]; exact rx.dp s h1.1, by rw [hK]; exact ry.dp s h2.1, h1.2, h2.2, OpOk.same s P k (.bl _)⟩
  · simp only [okD, Bool.and_eq_true] at h1 h2
    exact .inr (.inl ⟨dx.py, D.pys ys, by rw [hK]; exact rx.dp s h1.1, by rw [hK]; exact ry.dp s h2.1, h1.2, h2.2, OpOk.same s P k (.bl _)⟩)
  · obtain ⟨a, u, rfl, rd, c⟩ := ry.dictE s
    exact .inr (.inr (.inl ⟨F, a, u, ks, ds, dx, rfl, s.trans vis_same, rd, c, rx.key h1, h1, OpOk.same s P k (.bl _)⟩))
  · exact .inr (.inr (.inr ⟨_, _, rx.strE, ry.strE, OpOk.same s P k (.bl _)⟩))
theorem ok_notMem (hK : X.K = g.K) : OpOk g (rNotMem g X.K) (fun x y => (cmpD .notMem x y).map D.bool) := by
  intro F H n x y dx dy d Q s P rx ry e k
  simp only [cmpD, Option.map_map, Option.map_eq_some_iff] at e
  obtain ⟨b, e, rfl⟩ := e
  rcases inD_cases e with ⟨ys, rfl, h1, h2, rfl⟩ | ⟨ys, rfl, h1, h2, rfl⟩ | ⟨ks, ds, rfl, h1, rfl⟩ | ⟨i, j, rfl, rfl, rfl⟩
  · simp only [okD, Bool.and_eq_true] at h1 h2
    exact .inl ⟨dx.py, D.pys ys, by rw [hK]; exact rx.dp s h1.1, by rw [hK]; exact ry.dp s h2.1, h1.2, h2.2, OpOk.same s P k (.bl _)⟩
  · simp only [okD, Bool.and_eq_true] at h1 h2
    exact .inr (.inl ⟨dx.py, D.pys ys, by rw [hK]; exact rx.dp s h1.1, by rw [hK]; exact ry.dp s h2.1, h1.2, h2.2, OpOk.same s P k (.bl _)⟩)
  · obtain ⟨a, u, rfl, rd, c⟩ := ry.dictE s
    exact .inr (.inr (.inl ⟨F, a, u, ks, ds, dx, rfl, s.trans vis_same, rd, c, rx.key h1, h1, OpOk.same s P k (.bl _)⟩))
  · exact .inr (.inr (.inr ⟨_, _, rx.strE, ry.strE, OpOk.same s P k (.bl _)⟩))

/-- a comparison's rule -/
theorem cmp_rule (hK : X.K = g.K) (hw : g.w = X.w) (hu : X.A.units + 65 < cLine) (o : CmpO) : ∃ r, OpR X (compareOp o.py) r ∧ OpOk g r (fun x y => (cmpD o x y).map D.bool) := by
  cases o
  · exact ⟨_, (op_eqD (by omega)).or op_eq, ok_eq hK⟩
  · exact ⟨_, (op_neD (by omega)).or op_ne, ok_ne hK⟩
  · exact ⟨_, op_ltD (by omega), ok_lt hK⟩
  · exact ⟨_, op_le, ok_le⟩
  · exact ⟨_, op_gt, ok_gt⟩
  · exact ⟨_, op_ge, ok_ge⟩
  · exact ⟨_, op_isD, ok_is⟩
  · exact ⟨_, op_isNotD, ok_isNot⟩
  · exact ⟨_, op_memD hK hw hu, ok_mem hK⟩
  · exact ⟨_, op_notMemD hK hw hu, ok_notMem hK⟩
theorem bin_rule (hK : X.K = g.K) (o : BinO) : ∃ r, OpR X (binaryOp o.py) r ∧ OpOk g r (binD o) := by
  cases o
  · exact ⟨_, op_addD, ok_add hK⟩
  · exact ⟨_, op_sub, ok_sub⟩
  · exact ⟨_, op_mulD, ok_mul hK⟩
  · exact ⟨_, op_fdivN, ok_fdiv⟩
  · exact ⟨_, op_modN, ok_mod⟩
  · exact ⟨_, op_pow, ok_pow⟩

variable {a b : Expr} {pos : Pos} {fa fb : Rho → M D}
def evBin (o : BinO) (fa fb : Rho → M D) : Rho → M D := fun ρ => do let x ← fa ρ; let y ← fb ρ; M.opt (binD o x y)
def evCmp (o : CmpO) (fa fb : Rho → M D) : Rho → M D := fun ρ => do let x ← fa ρ; let y ← fb ρ; M.opt ((cmpD o x y).map D.bool)
theorem de_binO (hK : X.K = g.K) (o : BinO) (ha : PE X a (RdP g fa)) (hb : PE X b (RdP g fb)) : PE X (.BinOp a o.py b pos) (RdV g (evBin o fa fb)) := by
  obtain ⟨r, h1, h2⟩ := bin_rule (X := X) hK o
  exact de_bin h1 h2 ha hb
theorem de_cmp (hK : X.K = g.K) (hw : g.w = X.w) (hu : X.A.units + 65 < cLine) (o : CmpO) (ha : PE X a (RdP g fa)) (hb : PE X b (RdP g fb)) (hm : behindInMarks o.py b = false) : PE X (.Compare a [o.py] [b] pos) (RdV g (evCmp o fa fb)) := by
  obtain ⟨r, h1, h2⟩ := cmp_rule (X := X) hK hw hu o
  exact pe_wk (pe_cmpR h1 ha hb hm) fun σ H Q h => tOp_of h2 h
/-- a value's reading as a test, where the value is a truth value -/
theorem rdT_bool {f : Rho → M D} {σ : St} {H : Hp} {Q : Bool → Hp → Prop} (hf : ∀ ρ n d n', f ρ n = some (d, n') → ∃ b, d = .bool b) (h : RdT g (tst f) σ H Q) : RdV g f σ H (fun x H' => ∃ k, x = .bl k ∧ Q k H') := by
  obtain ⟨F0, H0, F, ρ, n, b, n', e, m, k⟩ := h
  obtain ⟨d, n1, e1, e2⟩ := M.bind_some e
  obtain ⟨c, rfl⟩ := hf _ _ _ _ e1
  obtain ⟨e3, e4⟩ := M.opt_ok e2
  simp only at e3 e4
  subst e4
  cases e3
  exact ⟨F0, H0, F, ρ, n, _, _, e1, m, fun v F' H' gr s P r => by
    cases r
    exact ⟨_, rfl, k F' H' gr s P⟩⟩
theorem evCmp_bool {o : CmpO} {ρ : Rho} {n n' : Nat} {d : D} (h : evCmp o fa fb ρ n = some (d, n')) : ∃ b, d = .bool b := by
  obtain ⟨x, n1, e1, e⟩ := M.bind_some h
  obtain ⟨y, n2, e2, e⟩ := M.bind_some e
  obtain ⟨e3, e4⟩ := M.opt_ok e
  simp only [Option.map_eq_some_iff] at e3
  obtain ⟨c, _, e⟩ := e3
  exact ⟨c, e.symm⟩
theorem dt_cmp (hK : X.K = g.K) (hw : g.w = X.w) (hu : X.A.units + 65 < cLine) (o : CmpO) (ha : PE X a (RdP g fa)) (hb : PE X b (RdP g fb)) (hm : behindInMarks o.py b = false) : PT X (.Compare a [o.py] [b] pos) (RdT g (tst (evCmp o fa fb))) := by
  obtain ⟨r, h1, h2⟩ := cmp_rule (X := X) hK hw hu o
  exact pt_wk (pt_cmpR h1 ha hb hm) fun σ H Q h => tOp_of h2 (rdT_bool (fun _ _ _ _ => evCmp_bool) h)

/-! ### a < b < c -/
def evChain (o o' : CmpO) (fa fb fc : Rho → M D) : Rho → M D := fun ρ => do
  let x ← fa ρ; let y ← fb ρ; let c ← M.opt (cmpD o x y)
  if c then (do let z ← fc ρ; M.opt ((cmpD o' y z).map D.bool)) else pure (.bool false)
variable {c : Expr} {fc : Rho → M D}
theorem evChain_bool {o o' : CmpO} {ρ : Rho} {n n' : Nat} {d : D} (h : evChain o o' fa fb fc ρ n = some (d, n')) : ∃ b, d = .bool b := by
  obtain ⟨x, n1, e1, e⟩ := M.bind_some h
  obtain ⟨y, n2, e2, e⟩ := M.bind_some e
  obtain ⟨k, n3, e3, e⟩ := M.bind_some e
  cases k with
  | false => cases e; exact ⟨_, rfl⟩
  | true =>
    obtain ⟨z, n4, e4, e⟩ := M.bind_some e
    obtain ⟨e5, e6⟩ := M.opt_ok e
    simp only [Option.map_eq_some_iff] at e5
    obtain ⟨c, _, e⟩ := e5
    exact ⟨c, e.symm⟩
theorem tChain_of {r r' : R2} {o o' : CmpO} {σ : St} {H : Hp} {Q : VK} (h1 : OpOk g r (fun x y => (cmpD o x y).map D.bool)) (h2 : OpOk g r' (fun x y => (cmpD o' x y).map D.bool)) (h : RdV g (evChain o o' fa fb fc) σ H Q) :
    tChain r r' (RdP g fa) (RdP g fb) (RdP g fc) σ H Q := by
  obtain ⟨F0, H0, F, ρ, n, d, n', e, m, k⟩ := h
  obtain ⟨x, n1, e1, e⟩ := M.bind_some e
  obtain ⟨y, n2, e2, e⟩ := M.bind_some e
  obtain ⟨c, n3, e3, e⟩ := M.bind_some e
  obtain ⟨e4, e5⟩ := M.opt_ok e3
  simp only at e4 e5
  subst e5
  refine ⟨F0, H0, F, ρ, n, x, n1, e1, m, fun v1 F1 H1 g1 s1 P1 r1 => ⟨F0, H0, F1, ρ, n1, y, _, e2, m.grow g1 s1 P1, fun v2 F2 H2 g2 s2 P2 r2 => ?_⟩⟩
  refine h1 F2 H2 _ v1 v2 x y (.bool c) _ s2 P2 (r1.grow g2) r2 (by simp only [e4, Option.map_some]) fun v F3 H3 g3 s3 P3 r3 => ?_
  cases r3
  refine ⟨c, rfl, ?_⟩
  cases c with
  | false =>
    cases e
    exact iteF (k _ F3 H3 (g1.trans (g2.trans g3)) s3 P3 (.bl _))
  | true =>
    obtain ⟨z, n4, e6, e⟩ := M.bind_some e
    obtain ⟨e7, e8⟩ := M.opt_ok e
    simp only at e7 e8
    subst e8
    refine iteT ⟨F0, H0, F3, ρ, _, z, _, e6, ((m.grow g1 s1 P1).grow g2 s2 P2).grow g3 s3 P3, fun v4 F4 H4 g4 s4 P4 r4 => ?_⟩
    exact h2 F4 H4 _ v2 v4 y z d Q s4 P4 ((r2.grow g3).grow g4) r4 e7 fun v F' H' g5 s5 P5 r5 => k v F' H' (g1.trans (g2.trans (g3.trans (g4.trans g5)))) s5 P5 r5
theorem de_chain (hK : X.K = g.K) (hw : g.w = X.w) (hu : X.A.units + 65 < cLine) (o o' : CmpO) (ha : PE X a (RdP g fa)) (hb : PE X b (RdP g fb)) (hc : PE X c (RdP g fc)) (hm : lastMarks [o.py, o'.py] [b, c] = false) :
    PE X (.Compare a [o.py, o'.py] [b, c] pos) (RdV g (evChain o o' fa fb fc)) := by
  obtain ⟨r, h1, h2⟩ := cmp_rule (X := X) hK hw hu o
  obtain ⟨r', h3, h4⟩ := cmp_rule (X := X) hK hw hu o'
  exact pe_wk (pe_chain h1 h3 ha hb hc hm) fun σ H Q h => tChain_of h2 h4 h
theorem dt_chain (hK : X.K = g.K) (hw : g.w = X.w) (hu : X.A.units + 65 < cLine) (o o' : CmpO) (ha : PE X a (RdP g fa)) (hb : PE X b (RdP g fb)) (hc : PE X c (RdP g fc)) (hm : lastMarks [o.py, o'.py] [b, c] = false) :
    PT X (.Compare a [o.py, o'.py] [b, c] pos) (RdT g (tst (evChain o o' fa fb fc))) := by
  obtain ⟨r, h1, h2⟩ := cmp_rule (X := X) hK hw hu o
  obtain ⟨r', h3, h4⟩ := cmp_rule (X := X) hK hw hu o'
  exact pt_wk (pt_chain h1 h3 ha hb hc hm) fun σ H Q h => tChain_of h2 h4 (rdT_bool (fun _ _ _ _ => evChain_bool) h)

/-! ### truth -/
theorem dt_truth (hK : X.K = g.K) (ha : PE X a (RdP g fa)) (he : ∀ whole, isTrue a X.env whole = (do let v ← whole; standAt a.pos; holding [v] (truthy v))) : PT X a (RdT g (tst fa)) := by
  refine pt_wk (pt_truth ha he) fun σ H Q ⟨F0, H0, F, ρ, n, b, n', e, m, k⟩ => ?_
  obtain ⟨d, n1, e1, e2⟩ := M.bind_some e
  obtain ⟨e3, e4⟩ := M.opt_ok e2
  simp only at e3 e4
  subst e4
  refine ⟨F0, H0, F, ρ, n, d, _, e1, m, fun v F' H' gr s P r => ⟨b, ?_, k F' H' gr s P⟩⟩
  cases d with
  | none => cases r.noneE; cases e3; rfl
  | bool c => cases r.boolE; cases e3; rfl
  | int i => cases r.intE; cases e3; rfl
  | str x =>
    cases r.strE
    simp only [truD] at e3
    split at e3 <;> cases e3
    rename_i h
    exact ⟨by rw [← sz]; exact h, rfl⟩
  | tup xs =>
    obtain ⟨p, vs, rfl, _, hp, ra⟩ := r.tupE s
    simp only [truD, Option.some.injEq] at e3
    subst e3
    have hl := ra.length
    refine .inr (.inl ⟨vs, by rw [hK]; exact hp, ?_⟩)
    cases vs <;> cases xs <;> simp at hl ⊢
  | lst xs =>
    obtain ⟨p, vs, rfl, hp, ra⟩ := r.lstE s
    simp only [truD, Option.some.injEq] at e3
    subst e3
    have hl := ra.length
    refine .inl ⟨vs, .of hp, ?_⟩
    cases vs <;> cases xs <;> simp at hl ⊢
  | pool => cases e3
  | scr _ => cases e3
  | dict _ _ => cases e3
  | clo _ _ => cases e3
  | obj _ _ _ => cases e3

/-! ### not, and, or, if -/
def notD : D → Option D
  | .bool b => some (.bool (!b))
  | _ => none
def evNot (fa : Rho → M D) : Rho → M D := fun ρ => do let x ← fa ρ; M.opt (notD x)
theorem evNot_some {ρ : Rho} {n n' : Nat} {d : D} (h : evNot fa ρ n = some (d, n')) : ∃ b, fa ρ n = some (.bool b, n') ∧ d = .bool (!b) := by
  obtain ⟨x, n1, e1, e⟩ := M.bind_some h
  obtain ⟨e3, e4⟩ := M.opt_ok e
  simp only at e3 e4
  subst e4
  cases x <;> simp only [notD, reduceCtorEq] at e3
  cases e3
  exact ⟨_, e1, rfl⟩
theorem de_not (ha : PE X a (RdV g fa)) : PE X (.UnaryOp .Not a pos) (RdV g (evNot fa)) := by
  refine pe_wk (pe_not ha) fun σ H Q ⟨F0, H0, F, ρ, n, d, n', e, m, k⟩ => ?_
  obtain ⟨b, e1, rfl⟩ := evNot_some e
  exact ⟨F0, H0, F, ρ, n, _, _, e1, m, fun v F' H' gr s P r => by
    cases r
    exact ⟨b, rfl, k _ F' H' gr s P (.bl _)⟩⟩
theorem dt_not (ha : PT X a (RdT g (tst fa))) : PT X (.UnaryOp .Not a pos) (RdT g (tst (evNot fa))) := by
  refine pt_wk (pt_not ha) fun σ H Q ⟨F0, H0, F, ρ, n, b, n', e, m, k⟩ => ?_
  obtain ⟨d, n1, e1, e2⟩ := M.bind_some e
  obtain ⟨c, e5, rfl⟩ := evNot_some e1
  obtain ⟨e3, e4⟩ := M.opt_ok e2
  simp only at e3 e4
  subst e4
  cases e3
  exact ⟨F0, H0, F, ρ, n, c, _, by rw [tst, M.bind_ap, e5]; rfl, m, fun F' H' gr s P => k F' H' gr s P⟩
def evAnd (fa fb : Rho → M D) : Rho → M D := fun ρ => do
  let x ← fa ρ
  match x with
  | .bool true => fb ρ
  | .bool false => pure (.bool false)
  | _ => M.fail
def evOr (fa fb : Rho → M D) : Rho → M D := fun ρ => do
  let x ← fa ρ
  match x with
  | .bool true => pure (.bool true)
  | .bool false => fb ρ
  | _ => M.fail
theorem evAnd_some {ρ : Rho} {n n' : Nat} {d : D} (h : evAnd fa fb ρ n = some (d, n')) : (∃ n1, fa ρ n = some (.bool true, n1) ∧ fb ρ n1 = some (d, n')) ∨ (fa ρ n = some (.bool false, n') ∧ d = .bool false) := by
  obtain ⟨x, n1, e1, e⟩ := M.bind_some h
  cases x with
  | bool c =>
    cases c with
    | true => exact .inl ⟨n1, e1, e⟩
    | false => cases e; exact .inr ⟨e1, rfl⟩
  | _ => cases e
theorem evOr_some {ρ : Rho} {n n' : Nat} {d : D} (h : evOr fa fb ρ n = some (d, n')) : (∃ n1, fa ρ n = some (.bool false, n1) ∧ fb ρ n1 = some (d, n')) ∨ (fa ρ n = some (.bool true, n') ∧ d = .bool true) := by
  obtain ⟨x, n1, e1, e⟩ := M.bind_some h
  cases x with
  | bool c =>
    cases c with
    | false => exact .inl ⟨n1, e1, e⟩
    | true => cases e; exact .inr ⟨e1, rfl⟩
  | _ => cases e
variable {rest : List Expr}
theorem de_and (ha : PE X a (RdV g fa)) (hb : PE X (.BoolOp .And (b :: rest) pos) (RdV g fb)) : PE X (.BoolOp .And (a :: b :: rest) pos) (RdV g (evAnd fa fb)) := by
  refine pe_wk (pe_and ha hb) fun σ H Q ⟨F0, H0, F, ρ, n, d, n', e, m, k⟩ => ?_
  rcases evAnd_some e with ⟨n1, e1, e2⟩ | ⟨e1, rfl⟩
  · refine ⟨F0, H0, F, ρ, n, _, _, e1, m, fun v F' H' gr s P r => ?_⟩
    cases r
    exact ⟨true, rfl, iteT ⟨F0, H0, F', ρ, n1, d, n', e2, m.grow gr s P, fun v F2 H2 g2 s2 P2 r2 => k v F2 H2 (gr.trans g2) s2 P2 r2⟩⟩
  · refine ⟨F0, H0, F, ρ, n, _, _, e1, m, fun v F' H' gr s P r => ?_⟩
    cases r
    exact ⟨false, rfl, iteF (k _ F' H' gr s P (.bl _))⟩
theorem de_or (ha : PE X a (RdV g fa)) (hb : PE X (.BoolOp .Or (b :: rest) pos) (RdV g fb)) : PE X (.BoolOp .Or (a :: b :: rest) pos) (RdV g (evOr fa fb)) := by
  refine pe_wk (pe_or ha hb) fun σ H Q ⟨F0, H0, F, ρ, n, d, n', e, m, k⟩ => ?_
  rcases evOr_some e with ⟨n1, e1, e2⟩ | ⟨e1, rfl⟩
  · refine ⟨F0, H0, F, ρ, n, _, _, e1, m, fun v F' H' gr s P r => ?_⟩
    cases r
    exact ⟨false, rfl, iteF ⟨F0, H0, F', ρ, n1, d, n', e2, m.grow gr s P, fun v F2 H2 g2 s2 P2 r2 => k v F2 H2 (gr.trans g2) s2 P2 r2⟩⟩
  · refine ⟨F0, H0, F, ρ, n, _, _, e1, m, fun v F' H' gr s P r => ?_⟩
    cases r
    exact ⟨true, rfl, iteT (k _ F' H' gr s P (.bl _))⟩
theorem tst_some {f : Rho → M D} {ρ : Rho} {n n' : Nat} {b : Bool} (h : tst f ρ n = some (b, n')) : ∃ d, f ρ n = some (d, n') ∧ truD d = some b := by
  obtain ⟨x, n1, e1, e⟩ := M.bind_some h
  obtain ⟨e3, e4⟩ := M.opt_ok e
  simp only at e3 e4
  subst e4
  exact ⟨x, e1, e3⟩
theorem tst_of {f : Rho → M D} {ρ : Rho} {n n' : Nat} {b : Bool} {d : D} (h : f ρ n = some (d, n')) (h2 : truD d = some b) : tst f ρ n = some (b, n') := by
  rw [tst, M.bind_ap, h]
  show M.opt (truD d) n' = _
  rw [h2]; rfl
theorem dw_and (ha : PT X a (RdT g (tst fa))) (hb : PW X (.BoolOp .And (b :: rest) pos) (RdT g (tst fb))) : PW X (.BoolOp .And (a :: b :: rest) pos) (RdT g (tst (evAnd fa fb))) := by
  refine pw_wk (pw_and ha hb) fun σ H Q ⟨F0, H0, F, ρ, n, c, n', e, m, k⟩ => ?_
  obtain ⟨d, e, e'⟩ := tst_some e
  rcases evAnd_some e with ⟨n1, e1, e2⟩ | ⟨e1, rfl⟩
  · exact ⟨F0, H0, F, ρ, n, true, n1, tst_of e1 rfl, m, fun F' H' gr s P => iteT ⟨F0, H0, F', ρ, n1, c, n', tst_of e2 e', m.grow gr s P, fun F2 H2 g2 s2 P2 => k F2 H2 (gr.trans g2) s2 P2⟩⟩
  · cases e'
    exact ⟨F0, H0, F, ρ, n, false, n', tst_of e1 rfl, m, fun F' H' gr s P => iteF (k F' H' gr s P)⟩
theorem dw_or (ha : PT X a (RdT g (tst fa))) (hb : PW X (.BoolOp .Or (b :: rest) pos) (RdT g (tst fb))) : PW X (.BoolOp .Or (a :: b :: rest) pos) (RdT g (tst (evOr fa fb))) := by
  refine pw_wk (pw_or ha hb) fun σ H Q ⟨F0, H0, F, ρ, n, c, n', e, m, k⟩ => ?_
  obtain ⟨d, e, e'⟩ := tst_some e
  rcases evOr_some e with ⟨n1, e1, e2⟩ | ⟨e1, rfl⟩
  · exact ⟨F0, H0, F, ρ, n, false, n1, tst_of e1 rfl, m, fun F' H' gr s P => iteF ⟨F0, H0, F', ρ, n1, c, n', tst_of e2 e', m.grow gr s P, fun F2 H2 g2 s2 P2 => k F2 H2 (gr.trans g2) s2 P2⟩⟩
  · cases e'
    exact ⟨F0, H0, F, ρ, n, true, n', tst_of e1 rfl, m, fun F' H' gr s P => iteT (k F' H' gr s P)⟩
def evIf (fc : Rho → M Bool) (fa fb : Rho → M D) : Rho → M D := fun ρ => do
  let x ← fc ρ
  if x then fa ρ else fb ρ
theorem de_if {ft : Rho → M Bool} (hc : PT X c (RdT g ft)) (ha : PE X a (RdV g fa)) (hb : PE X b (RdV g fb)) : PE X (.IfExp c a b pos) (RdV g (evIf ft fa fb)) := by
  refine pe_wk (pe_ifExp hc ha hb) fun σ H Q ⟨F0, H0, F, ρ, n, d, n', e, m, k⟩ => ?_
  obtain ⟨x, n1, e1, e⟩ := M.bind_some e
  refine ⟨F0, H0, F, ρ, n, x, n1, e1, m, fun F' H' gr s P => ?_⟩
  cases x with
  | true => exact iteT ⟨F0, H0, F', ρ, n1, d, n', e, m.grow gr s P, fun v F2 H2 g2 s2 P2 r2 => k v F2 H2 (gr.trans g2) s2 P2 r2⟩
  | false => exact iteF ⟨F0, H0, F', ρ, n1, d, n', e, m.grow gr s P, fun v F2 H2 g2 s2 P2 r2 => k v F2 H2 (gr.trans g2) s2 P2 r2⟩
def negD : D → Option D
  | .int i => some (.int (-i))
  | _ => none
def evNeg (fa : Rho → M D) : Rho → M D := fun ρ => do let x ← fa ρ; M.opt (negD x)
theorem de_neg (ha : PE X a (RdV g fa)) : PE X (.UnaryOp .USub a pos) (RdV g (evNeg fa)) := by
  refine pe_wk (pe_un un_neg ha) fun σ H Q ⟨F0, H0, F, ρ, n, d, n', e, m, k⟩ => ?_
  obtain ⟨x, n1, e1, e⟩ := M.bind_some e
  obtain ⟨e3, e4⟩ := M.opt_ok e
  simp only at e3 e4
  subst e4
  cases x <;> simp only [negD, reduceCtorEq] at e3
  cases e3
  exact ⟨F0, H0, F, ρ, n, _, _, e1, m, fun v F' H' gr s P r => by
    cases r
    exact ⟨_, rfl, k _ F' H' gr s P (.int _)⟩⟩

/-! ### names, constants -/
def getV (i : Nat) : Rho → M D := fun ρ n => match ρ[i]? with
  | some (.val d) => some (d, n)
  | _ => none
def getP (i : Nat) : Rho → M D := fun ρ n => match ρ[i]? with
  | some (.val d) => some (d, n)
  | some (.own d) => some (d, n)
  | _ => none
theorem de_var {i : Nat} {x : Str} (hN : X.N[i]? = some x) (hv : Vis X.env.scope x) (hd : (x == ("__debug__" : Str)) = false) (hcd : (x == ("__classdict__" : Str)) = false) : PE X (.Name x pos) (RdV g (getV i)) := by
  refine pe_wk (pe_var hN hv hd hcd) fun σ H Q ⟨F0, H0, F, ρ, n, d, n', e, m, k⟩ => ?_
  unfold getV at e
  split at e
  · rename_i d' hs
    cases e
    obtain ⟨v, e1, r⟩ := m.slot _ _ hs
    exact ⟨v, e1, k v F H Grow.refl m.sub m.pool r⟩
  · cases e
theorem dp_var {i : Nat} {x : Str} (hN : X.N[i]? = some x) (hv : Vis X.env.scope x) (hd : (x == ("__debug__" : Str)) = false) (hcd : (x == ("__classdict__" : Str)) = false) : PE X (.Name x pos) (RdP g (getP i)) := by
  refine pe_wk (pe_var hN hv hd hcd) fun σ H Q ⟨F0, H0, F, ρ, n, d, n', e, m, k⟩ => ?_
  unfold getP at e
  split at e
  · rename_i d' hs
    cases e
    obtain ⟨v, e1, r⟩ := m.slot _ _ hs
    exact ⟨v, e1, k v F H Grow.refl m.sub m.pool (.inl r)⟩
  · rename_i d' hs
    cases e
    obtain ⟨a, e1, o, hf, h0⟩ := m.slot _ _ hs
    exact ⟨_, e1, k _ F H Grow.refl m.sub m.pool (.inr ⟨a, rfl, o, (H0_ne m.p0 h0).nh⟩)⟩
  · cases e
def cst (d : D) : Rho → M D := fun _ => pure d
theorem rdV_cst {σ : St} {H : Hp} {Q : VK} {d : D} {v : V} (r : ∀ F : Hp, Rep g F v d) (h : RdV g (cst d) σ H Q) : Q v H := by
  obtain ⟨F0, H0, F, ρ, n, d', n', e, m, k⟩ := h
  cases e
  exact k v F H Grow.refl m.sub m.pool (r F)
theorem de_int {i : Int} {j : Nat} : PE X (.Constant (.int i) j pos) (RdV g (cst (.int i))) := pe_wk pe_int fun σ H Q h => rdV_cst (fun _ => .int _) h
theorem de_bool {i : Bool} {j : Nat} : PE X (.Constant (.bool i) j pos) (RdV g (cst (.bool i))) := pe_wk pe_bl fun σ H Q h => rdV_cst (fun _ => .bl _) h
theorem de_none {j : Nat} : PE X (.Constant .none j pos) (RdV g (cst .none)) := pe_wk pe_non fun σ H Q h => rdV_cst (fun _ => .non) h
theorem de_str {i : Str} {j : Nat} : PE X (.Constant (.str i) j pos) (RdV g (cst (.str i))) := pe_wk pe_str fun σ H Q h => rdV_cst (fun _ => .str _) h
theorem de_glob {x : Str} {v : V} {u : Value} {d : D} (hg : Gl X x) (hm : X.mg x = some u) (r : RelV v u) (rd : ∀ F : Hp, Rep g F v d) (hd : (x == ("__debug__" : Str)) = false) : PE X (.Name x pos) (RdV g (cst d)) := pe_wk (pe_glob hg hm r hd) fun σ H Q h => rdV_cst rd h

/-! ### argument lists, displays -/
def evNil : Rho → M (List D) := fun _ => pure []
def evCons (fa : Rho → M D) (fr : Rho → M (List D)) : Rho → M (List D) := fun ρ => do let x ← fa ρ; let r ← fr ρ; pure (x :: r)
variable {es : List Expr} {fr : Rho → M (List D)}
theorem da_nil : PA X [] (RdA g evNil) := pa_wk pa_nil fun σ H Q ⟨F0, H0, F, ρ, n, ds, n', e, m, k⟩ => by
  cases e
  exact k [] F H Grow.refl m.sub m.pool .nil
theorem da_cons (ha : PE X a (RdV g fa)) (hr : PA X es (RdA g fr)) (hs : starEach (a :: es) X.env = (false, eval a X.env) :: starEach es X.env) : PA X (a :: es) (RdA g (evCons fa fr)) := by
  refine pa_wk (pa_cons ha hr hs) fun σ H Q ⟨F0, H0, F, ρ, n, ds, n', e, m, k⟩ => ?_
  obtain ⟨x, n1, e1, e⟩ := M.bind_some e
  obtain ⟨r, n2, e2, e⟩ := M.bind_some e
  cases e
  exact ⟨F0, H0, F, ρ, n, x, n1, e1, m, fun v F1 H1 g1 s1 P1 r1 => ⟨F0, H0, F1, ρ, n1, r, _, e2, m.grow g1 s1 P1, fun vs F2 H2 g2 s2 P2 r2 => k (v :: vs) F2 H2 (g1.trans g2) s2 P2 (.cons (r1.mono g2.f) r2)⟩⟩
theorem dap_nil : PA X [] (RdAP g evNil) := pa_wk pa_nil fun σ H Q ⟨F0, H0, F, ρ, n, ds, n', e, m, k⟩ => by
  cases e
  exact k [] F H Grow.refl m.sub m.pool .nil
theorem dap_cons (ha : PE X a (RdP g fa)) (hr : PA X es (RdAP g fr)) (hs : starEach (a :: es) X.env = (false, eval a X.env) :: starEach es X.env) : PA X (a :: es) (RdAP g (evCons fa fr)) := by
  refine pa_wk (pa_cons ha hr hs) fun σ H Q ⟨F0, H0, F, ρ, n, ds, n', e, m, k⟩ => ?_
  obtain ⟨x, n1, e1, e⟩ := M.bind_some e
  obtain ⟨r, n2, e2, e⟩ := M.bind_some e
  cases e
  exact ⟨F0, H0, F, ρ, n, x, n1, e1, m, fun v F1 H1 g1 s1 P1 r1 => ⟨F0, H0, F1, ρ, n1, r, _, e2, m.grow g1 s1 P1, fun vs F2 H2 g2 s2 P2 r2 => k (v :: vs) F2 H2 (g1.trans g2) s2 P2 (.cons (r1.grow g2) r2)⟩⟩
def evTup (fr : Rho → M (List D)) : Rho → M D := fun ρ => do let r ← fr ρ; if r.length ≤ 16777216 then pure (.tup r) else M.fail
def evLst (fr : Rho → M (List D)) : Rho → M D := fun ρ => do let r ← fr ρ; if r.length ≤ 16777216 then pure (.lst r) else M.fail
theorem de_tup {x1 : Nat} (h : PA X es (RdA g fr)) : PE X (.Tuple es x1 pos) (RdV g (evTup fr)) := by
  refine pe_wk (pe_tup h) fun σ H Q ⟨F0, H0, F, ρ, n, d, n', e, m, k⟩ => ?_
  obtain ⟨r, n1, e1, e⟩ := M.bind_some e
  split at e
  · rename_i hz
    cases e
    refine ⟨F0, H0, F, ρ, n, r, _, e1, m, fun vs F1 H1 g1 s1 P1 r1 => ⟨by rw [← sz, r1.length]; exact hz, fun p hp => ?_⟩⟩
    exact OpOk.tup s1 P1 (fun v F' H' g2 s2 P2 r2 => k v F' H' (g1.trans g2) s2 P2 r2) r1 hp
  · cases e
theorem df_lst (h : PA X es (RdA g fr)) : PE X (.List es pos) (RdF g (evLst fr)) := by
  refine pe_wk (pe_lst h) fun σ H Q ⟨F0, H0, F, ρ, n, d, n', e, m, k⟩ => ?_
  obtain ⟨r, n1, e1, e⟩ := M.bind_some e
  split at e
  · rename_i hz
    cases e
    refine ⟨F0, H0, F, ρ, n, r, _, e1, m, fun vs F1 H1 g1 s1 P1 r1 => ⟨by rw [← sz, r1.length]; exact hz, fun p hp => ?_⟩⟩
    exact k p F1 _ (g1.trans (Grow.new P1 hp)) (sub_new s1 P1 hp) (P1.upd hp) (g1.fresh hp) (sub_none s1 hp) (.lst upd_same r1)
  · cases e

/-! ### items, slices -/
def ixS : D → D → Option D
  | .tup xs, .int i => atI xs i
  | .lst xs, .int i => atI xs i
  | .scr ns, .int i => (atI ns i).map D.int
  | .str x, .int i => if x.length ≤ 16777216 then (atI x.cps.toList i).map fun c => .str ⟨#[c]⟩ else none
  | _, _ => none
def ixD : D → D → Option D
  | .dict ks vs, k => if kindOk ks k then dgetD ks vs k else none
  | .tup xs, .int i => atI xs i
  | x, y => ixS x y
theorem RepAll.at {F : Hp} {vs : List V} {ds : List D} {i : Int} {d : D} (h : RepAll g F vs ds) (e : atI ds i = some d) : ∃ v, atI vs i = some v ∧ Rep g F v d := by
  have hl := h.length
  unfold atI at e ⊢
  rw [hl]
  cases q : ixN ds.length i with
  | none => rw [q] at e; cases e
  | some j =>
    rw [q] at e
    exact h.get e
theorem ok_ixS (hK : X.K = g.K) : OpOk g (rIx X.K) ixS := by
  intro F H n x y dx dy d Q s P rx ry e k
  cases dx <;> cases dy <;> simp only [ixS, reduceCtorEq] at e
  · split at e
    · rename_i h
      simp only [Option.map_eq_some_iff] at e
      obtain ⟨c, e, rfl⟩ := e
      exact .inr (.inr ⟨_, _, c, rx.strE, ry.intE, by rw [← sz]; exact h, e, OpOk.same s P k (.str _)⟩)
    · cases e
  · obtain ⟨a, vs, rfl, _, ha, ra⟩ := rx.tupE s
    obtain ⟨v, e1, r1⟩ := ra.at e
    exact .inr (.inl ⟨a, vs, _, v, rfl, ry.intE, by rw [hK]; exact ha, e1, OpOk.same s P k r1⟩)
  · obtain ⟨a, vs, rfl, ha, ra⟩ := rx.lstE s
    obtain ⟨v, e1, r1⟩ := ra.at e
    exact .inl ⟨a, vs, _, v, rfl, ry.intE, .of ha, e1, OpOk.same s P k r1⟩
  · rename_i ns i
    simp only [Option.map_eq_some_iff] at e
    obtain ⟨z, e, rfl⟩ := e
    obtain ⟨a, rfl, ha⟩ := rx.scrE s
    refine .inl ⟨a, _, _, .int z, rfl, ry.intE, by rw [hK]; exact ha, ?_, OpOk.same s P k (.int _)⟩
    unfold atI at e ⊢
    rw [List.length_map]
    cases q : ixN ns.length i with
    | none => rw [q] at e; cases e
    | some j =>
      rw [q] at e
      have e : ns[j]? = some z := e
      show (List.map V.int ns)[j]? = _
      rw [List.getElem?_map, e]; rfl
abbrev rIxA (g : Gh) (K : PySem.W.Frag) : R2 := fun x y H Q => rIx K x y H Q ∨ rIxDict g x y H Q
theorem ok_ix (hK : X.K = g.K) : OpOk g (rIxA g X.K) ixD := by
  intro F H n x y dx dy d Q s P rx ry e k
  have seq : ixS dx dy = some d → rIxA g X.K x y H Q := fun e => .inl (ok_ixS hK F H n x y dx dy d Q s P rx ry e k)
  cases dx with
  | dict ks vs =>
    have e' : (if kindOk ks dy = true then dgetD ks vs dy else none) = some d := by cases dy <;> exact e
    split at e'
    · rename_i h1
      obtain ⟨a, u, rfl, rd, c⟩ := rx.dictE s
      exact .inr ⟨F, a, u, ks, vs, dy, d, rfl, s.trans vis_same, rd, c, ry.key h1, h1, e', fun v r => OpOk.same s P k r⟩
    · cases e'
  | _ => exact seq (by cases dy <;> exact e)
def evIx (fa fb : Rho → M D) : Rho → M D := fun ρ => do let x ← fa ρ; let y ← fb ρ; M.opt (ixD x y)
theorem de_ix (hK : X.K = g.K) (hw : g.w = X.w) (hu : X.A.units + 65 < cLine) (ha : PE X a (RdP g fa)) (hb : PE X b (RdP g fb)) (hs : PlainIx b) : PE X (.Subscript a b pos) (RdV g (evIx fa fb)) := pe_wk (pe_ix (ix_seq.or (ix_dict (by omega) hK hw)) ha hb hs) fun σ H Q h => tOp_of (ok_ix hK) h
def cutD (xs : List D) (lo hi : Option Int) : List D := (xs.drop (HT.sIx xs.length 0 lo)).take (HT.sIx xs.length xs.length hi - HT.sIx xs.length 0 lo)
def slD : D → Option Int → Option Int → Option D
  | .tup xs, lo, hi => some (.tup (cutD xs lo hi))
  | .lst xs, lo, hi => some (.lst (cutD xs lo hi))
  | _, _, _ => none
def partD : D → Option (Option Int)
  | .int i => some (some i)
  | _ => none
/-- a slice's part -/
def RdO (g : Gh) (f : Rho → M (Option Int)) : TO := fun σ H Q => ∃ F0 H0 F ρ n d n', f ρ n = some (d, n') ∧ Mdl g F0 H0 F ρ n σ H ∧
  ∀ F' H', Grow g F H F' H' → Same F' (vis g H') → PoolAt g n' H' → Q d H'
def evNoPart : Rho → M (Option Int) := fun _ => pure none
def evPart (fa : Rho → M D) : Rho → M (Option Int) := fun ρ => do let x ← fa ρ; M.opt (partD x)
theorem po_wk {e : Option Expr} {t t' : TO} (h : PO X e t) (w : ∀ σ H Q, t' σ H Q → t σ H Q) : PO X e t' := ⟨fun pins s σ H Q I hw => h.run pins s σ H Q I (w σ H Q hw)⟩
theorem do_none : PO X none (RdO g evNoPart) := po_wk po_none fun σ H Q ⟨F0, H0, F, ρ, n, d, n', e, m, k⟩ => by
  cases e
  exact k F H Grow.refl m.sub m.pool
theorem do_some (ha : PE X a (RdP g fa)) : PO X (some a) (RdO g (evPart fa)) := by
  refine po_wk (po_some ha) fun σ H Q ⟨F0, H0, F, ρ, n, d, n', e, m, k⟩ => ?_
  obtain ⟨x, n1, e1, e⟩ := M.bind_some e
  obtain ⟨e3, e4⟩ := M.opt_ok e
  simp only at e3 e4
  subst e4
  refine ⟨F0, H0, F, ρ, n, x, _, e1, m, fun v F' H' gr s P r => ?_⟩
  cases x <;> simp only [partD, reduceCtorEq] at e3
  cases e3
  exact ⟨_, r.intE, k F' H' gr s P⟩
theorem RepAll.cut {F : Hp} {vs : List V} {ds : List D} (h : RepAll g F vs ds) (lo hi : Option Int) : RepAll g F (cutV vs lo hi) (cutD ds lo hi) := by
  unfold cutV cutD
  rw [h.length]
  exact (h.drop _).take _
theorem cutD_whole {xs : List D} {lo hi : Option Int} (h : HT.sIx xs.length 0 lo = 0 ∧ HT.sIx xs.length xs.length hi = xs.length) : cutD xs lo hi = xs := by
  unfold cutD
  rw [h.1, h.2]
  simp
def evSl (fa : Rho → M D) (fl fh : Rho → M (Option Int)) : Rho → M D := fun ρ => do let x ← fa ρ; let l ← fl ρ; let h ← fh ρ; M.opt (slD x l h)
theorem de_sl (hK : X.K = g.K) {lo hi : Option Expr} {p2 : Pos} {fl fh : Rho → M (Option Int)} (ha : PE X a (RdP g fa)) (hl : PO X lo (RdO g fl)) (hh : PO X hi (RdO g fh)) : PE X (.Subscript a (.Slice lo hi none p2) pos) (RdV g (evSl fa fl fh)) := by
  refine pe_wk (pe_slice (sl_tupA.or sl_list) ha hl hh) fun σ H Q ⟨F0, H0, F, ρ, n, d, n', e, m, k⟩ => ?_
  obtain ⟨x, n1, e1, e⟩ := M.bind_some e
  obtain ⟨l, n2, e2, e⟩ := M.bind_some e
  obtain ⟨h, n3, e3, e⟩ := M.bind_some e
  obtain ⟨e4, e5⟩ := M.opt_ok e
  simp only at e4 e5
  subst e5
  refine ⟨F0, H0, F, ρ, n, x, n1, e1, m, fun v1 F1 H1 g1 s1 P1 r1 => ⟨F0, H0, F1, ρ, n1, l, n2, e2, m.grow g1 s1 P1, fun F2 H2 g2 s2 P2 => ⟨F0, H0, F2, ρ, n2, h, _, e3, (m.grow g1 s1 P1).grow g2 s2 P2, fun F3 H3 g3 s3 P3 => ?_⟩⟩⟩
  have r := (r1.grow g2).grow g3
  have k' := fun v F' H' (g4 : Grow g F3 H3 F' H') s4 P4 r4 => k v F' H' (g1.trans (g2.trans (g3.trans g4))) s4 P4 r4
  cases x <;> simp only [slD, reduceCtorEq] at e4
  · cases e4
    obtain ⟨a, vs, rfl, hf, ha, ra⟩ := r.tupE s3
    have hl := ra.length
    refine .inl ⟨a, vs, rfl, by rw [hK]; exact ha, fun hw => ?_, fun _ p hp => OpOk.tup s3 P3 k' (ra.cut _ _) hp⟩
    rw [hl] at hw
    rw [cutD_whole hw] at k'
    exact OpOk.same s3 P3 k' (.tup hf ra)
  · cases e4
    obtain ⟨a, vs, rfl, ha, ra⟩ := r.lstE s3
    exact .inr ⟨a, vs, rfl, .of ha, fun p hp => OpOk.lst s3 P3 k' (ra.cut _ _) hp⟩
end
end Ev

set_option Elab.async false
set_option linter.all false
set_option autoImplicit false
set_option maxRecDepth 100000
/-! Ev3: calls of built-ins and of own defs, isinstance, sorted. -/
namespace Ev
open PySem PySem.Spec PyProof.Rows L2

def COk (g : Gh) (r : List V → Hp → VK → Prop) (op : List D → Option D) : Prop := ∀ (F H : Hp) (n : Nat) (vs : List V) (ds : List D) (d : D) (Q : VK), Same F (vis g H) → PoolAt g n H → PRepAll g F H vs ds → op ds = some d →
  (∀ v F' H', Grow g F H F' H' → Same F' (vis g H') → PoolAt g n H' → Rep g F' v d → Q v H') → r vs H Q
/-- as a new open list -/
def COkF (g : Gh) (r : List V → Hp → VK → Prop) (op : List D → Option (List D)) : Prop := ∀ (F H : Hp) (n : Nat) (vs : List V) (ds : List D) (d : List D) (Q : VK), Same F (vis g H) → PoolAt g n H → PRepAll g F H vs ds → op ds = some d →
  (∀ a ws H', Grow g F H F H' → Same F (vis g H') → PoolAt g n H' → H a = Option.none → H' a = some (.lst ws) → RepAll g F ws d → Q (.ref a) H') → r vs H Q
theorem PRepAll.one {g : Gh} {F H : Hp} {vs : List V} {d : D} (h : PRepAll g F H vs [d]) : ∃ v, vs = [v] ∧ PRep g F H v d := by
  cases h with
  | cons r t => cases t; exact ⟨_, rfl, r⟩
theorem PRepAll.two {g : Gh} {F H : Hp} {vs : List V} {d e : D} (h : PRepAll g F H vs [d, e]) : ∃ v w, vs = [v, w] ∧ PRep g F H v d ∧ PRep g F H w e := by
  cases h with
  | cons r t => obtain ⟨w, rfl, r2⟩ := t.one; exact ⟨_, _, rfl, r, r2⟩

def lenD : List D → Option D
  | [.tup xs] => some (.int xs.length)
  | [.lst xs] => some (.int xs.length)
  | [.scr ns] => some (.int ns.length)
  | [.str x] => if x.length ≤ 16777216 then some (.int x.length) else none
  | _ => none
def boolsD : List D → Option (List Bool)
  | [] => some []
  | .bool i :: r => (boolsD r).map (i :: ·)
  | _ :: _ => none
theorem boolsD_map {xs : List D} {ns : List Bool} (h : boolsD xs = some ns) : xs = ns.map D.bool := by
  induction xs generalizing ns with
  | nil => cases h; rfl
  | cons x xs ih =>
    cases x with
    | bool i =>
      simp only [boolsD, Option.map_eq_some_iff] at h
      obtain ⟨ms, h1, rfl⟩ := h
      rw [ih h1]; rfl
    | _ => cases h
@[simp] theorem boolsD_bools (ns : List Bool) : boolsD (ns.map D.bool) = some ns := by
  induction ns with
  | nil => rfl
  | cons n ns ih => simp [boolsD, ih]
theorem repAll_bools {g : Gh} {H : Hp} : ∀ {ns : List Bool} {vs : List V}, RepAll g H vs (ns.map D.bool) → vs = ns.map V.bl
  | [], _, h => by cases h; rfl
  | n :: ns, _, h => by
    cases h with
    | cons h r => cases h; rw [repAll_bools r]; rfl
def allD : List D → Option D
  | [.lst xs] => (boolsD xs).map fun bs => .bool (bs.all id)
  | _ => none
def anyD : List D → Option D
  | [.lst xs] => (boolsD xs).map fun bs => .bool (bs.any id)
  | _ => none
def sumD : List D → Option D
  | [.lst xs] => (intsD xs).map fun ns => .int ns.sum
  | _ => none
/-- the greatest, the least of some ints -/
def maxI : List Int → Int
  | [] => 0
  | [a] => a
  | a :: r => max a (maxI r)
def minI : List Int → Int
  | [] => 0
  | [a] => a
  | a :: r => min a (minI r)
theorem maxI_spec : ∀ (ns : List Int) (m : Int), m ∈ ns → (∀ y ∈ ns, y ≤ m) → maxI ns = m
  | [], m, h, _ => by simp at h
  | [a], m, h, _ => by simp at h; rw [h]; rfl
  | a :: b :: r, m, h, hl => by
    show max a (maxI (b :: r)) = m
    by_cases hm : m ∈ b :: r
    · have := maxI_spec (b :: r) m hm fun y hy => hl y (List.mem_cons_of_mem _ hy)
      rw [this]
      have := hl a List.mem_cons_self
      omega
    · have e : m = a := by
        rcases List.mem_cons.mp h with e | e
        · exact e
        · exact absurd e hm
      subst e
      have h2 : ∀ (l : List Int), l ≠ [] → (∀ y ∈ l, y ≤ m) → maxI l ≤ m := by
        intro l
        induction l with
        | nil => intro z; exact absurd rfl z
        | cons c l ih =>
          intro _ hy
          cases l with
          | nil => exact hy c List.mem_cons_self
          | cons c' l' =>
            show max c (maxI (c' :: l')) ≤ m
            have a1 := hy c List.mem_cons_self
            have a2 := ih (by simp) fun y h => hy y (List.mem_cons_of_mem _ h)
            omega
      have := h2 (b :: r) (by simp) fun y hy => hl y (List.mem_cons_of_mem _ hy)
      omega
theorem minI_spec : ∀ (ns : List Int) (m : Int), m ∈ ns → (∀ y ∈ ns, m ≤ y) → minI ns = m
  | [], m, h, _ => by simp at h
  | [a], m, h, _ => by simp at h; rw [h]; rfl
  | a :: b :: r, m, h, hl => by
    show min a (minI (b :: r)) = m
    by_cases hm : m ∈ b :: r
    · have := minI_spec (b :: r) m hm fun y hy => hl y (List.mem_cons_of_mem _ hy)
      rw [this]
      have := hl a List.mem_cons_self
      omega
    · have e : m = a := by
        rcases List.mem_cons.mp h with e | e
        · exact e
        · exact absurd e hm
      subst e
      have h2 : ∀ (l : List Int), l ≠ [] → (∀ y ∈ l, m ≤ y) → m ≤ minI l := by
        intro l
        induction l with
        | nil => intro z; exact absurd rfl z
        | cons c l ih =>
          intro _ hy
          cases l with
          | nil => exact hy c List.mem_cons_self
          | cons c' l' =>
            show m ≤ min c (minI (c' :: l'))
            have a1 := hy c List.mem_cons_self
            have a2 := ih (by simp) fun y h => hy y (List.mem_cons_of_mem _ h)
            omega
      have := h2 (b :: r) (by simp) fun y hy => hl y (List.mem_cons_of_mem _ hy)
      omega
def maxD : List D → Option D
  | [.int i, .int j] => some (.int (if j > i then j else i))
  | [.lst xs] => match intsD xs with
    | some (n :: ns) => some (.int (maxI (n :: ns)))
    | _ => none
  | _ => none
def minD : List D → Option D
  | [.int i, .int j] => some (.int (if j < i then j else i))
  | [.lst xs] => match intsD xs with
    | some (n :: ns) => some (.int (minI (n :: ns)))
    | _ => none
  | _ => none
def intD : List D → Option D
  | [.int i] => some (.int i)
  | [.bool k] => some (.int (if k then 1 else 0))
  | _ => none
def strD : List D → Option D
  | [.int i] => if i.natAbs.log2 < 1920 then some (.str (toString i)) else none
  | _ => none
def tupleD : List D → Option D
  | [.tup xs] => some (.tup xs)
  | [.lst xs] => some (.tup xs)
  | _ => none
def listD : List D → Option (List D)
  | [.tup xs] => some xs
  | [.lst xs] => some xs
  | _ => none
/-- all alike, all nonempty tuples or none a tuple or None -/
def alikeAllB : List PyData → Bool := fun ds => ds.all fun d => ds.all fun d' => PySem.W.alike d d'
def leD' (a b : D) : Bool := PySem.W.dataLe false D.py a b
def sortD (xs : List D) : List D := xs.mergeSort leD'
def sortedD : List D → Option (List D)
  | [.lst xs] => if xs.all okD && alikeAllB (xs.map D.py) && sortable (xs.map D.py) && decide (xs.length ≤ 16777216) then some (sortD xs) else none
  | [.tup xs] => none
  | _ => none

section
variable {X : Cx} {g : Gh} {K : PySem.W.Frag}
theorem okc_len (hK : X.K = g.K) : COk g (fun xs H Q => ∃ x n, xs = [x] ∧ LenV X.K x H n ∧ Q (.int n) H) lenD := by
  intro F H n vs ds d Q s P rs e k
  unfold lenD at e
  split at e
  · obtain ⟨v, rfl, r⟩ := rs.one
    cases e
    obtain ⟨a, ws, rfl, _, ha, ra⟩ := r.tupE s
    refine ⟨_, ws.length, rfl, .inr ⟨ws, by rw [hK]; exact ha, rfl⟩, ?_⟩
    rw [ra.length]
    exact OpOk.same s P k (.int _)
  · obtain ⟨v, rfl, r⟩ := rs.one
    cases e
    obtain ⟨a, ws, rfl, ha, ra⟩ := r.lstE s
    refine ⟨_, ws.length, rfl, .inl ⟨ws, .of ha, rfl⟩, ?_⟩
    rw [ra.length]
    exact OpOk.same s P k (.int _)
  · obtain ⟨v, rfl, r⟩ := rs.one
    cases e
    obtain ⟨a, rfl, ha⟩ := r.scrE s
    refine ⟨_, _, rfl, .inl ⟨_, by rw [hK]; exact ha, rfl⟩, ?_⟩
    rw [List.length_map]
    exact OpOk.same s P k (.int _)
  · obtain ⟨v, rfl, r⟩ := rs.one
    split at e <;> cases e
    rename_i h
    cases r.strE
    exact ⟨_, _, rfl, ⟨by rw [← sz]; exact h, rfl⟩, OpOk.same s P k (.int _)⟩
  · cases e
theorem okc_all : COk g (rAll K) allD := by
  intro F H n vs ds d Q s P rs e k
  unfold allD at e
  split at e
  · obtain ⟨v, rfl, r⟩ := rs.one
    simp only [Option.map_eq_some_iff] at e
    obtain ⟨bs, e, rfl⟩ := e
    obtain ⟨a, ws, rfl, ha, ra⟩ := r.lstE s
    rw [boolsD_map e] at ra
    rw [repAll_bools ra] at ha
    exact ⟨a, bs, rfl, .of ha, OpOk.same s P k (.bl _)⟩
  · cases e
theorem okc_any : COk g (rAny K) anyD := by
  intro F H n vs ds d Q s P rs e k
  unfold anyD at e
  split at e
  · obtain ⟨v, rfl, r⟩ := rs.one
    simp only [Option.map_eq_some_iff] at e
    obtain ⟨bs, e, rfl⟩ := e
    obtain ⟨a, ws, rfl, ha, ra⟩ := r.lstE s
    rw [boolsD_map e] at ra
    rw [repAll_bools ra] at ha
    exact ⟨a, bs, rfl, .of ha, OpOk.same s P k (.bl _)⟩
  · cases e
theorem okc_sum : COk g (rSum K) sumD := by
  intro F H n vs ds d Q s P rs e k
  unfold sumD at e
  split at e
  · obtain ⟨v, rfl, r⟩ := rs.one
    simp only [Option.map_eq_some_iff] at e
    obtain ⟨bs, e, rfl⟩ := e
    obtain ⟨a, ws, rfl, ha, ra⟩ := r.lstE s
    rw [intsD_map e] at ra
    rw [repAll_ints ra] at ha
    exact ⟨a, bs, rfl, .of ha, OpOk.same s P k (.int _)⟩
  · cases e
theorem okc_max : COk g (fun vs H Q => (∃ i j, vs = [V.int i, V.int j] ∧ Q (.int (if j > i then j else i)) H) ∨ rMax K vs H Q) maxD := by
  intro F H n vs ds d Q s P rs e k
  unfold maxD at e
  split at e
  · obtain ⟨v, w, rfl, r1, r2⟩ := rs.two
    cases e
    cases r1.intE
    cases r2.intE
    exact .inl ⟨_, _, rfl, OpOk.same s P k (.int _)⟩
  · obtain ⟨v, rfl, r⟩ := rs.one
    split at e
    · rename_i n0 ns h
      cases e
      obtain ⟨a, ws, rfl, ha, ra⟩ := r.lstE s
      rw [intsD_map h] at ra
      rw [repAll_ints ra] at ha
      refine .inr ⟨a, _, rfl, .of ha, by simp, fun m hm hl => ?_⟩
      rw [maxI_spec _ m hm hl] at k
      exact OpOk.same s P k (.int _)
    · cases e
  · cases e
theorem okc_min : COk g (fun vs H Q => (∃ i j, vs = [V.int i, V.int j] ∧ Q (.int (if j < i then j else i)) H) ∨ rMin K vs H Q) minD := by
  intro F H n vs ds d Q s P rs e k
  unfold minD at e
  split at e
  · obtain ⟨v, w, rfl, r1, r2⟩ := rs.two
    cases e
    cases r1.intE
    cases r2.intE
    exact .inl ⟨_, _, rfl, OpOk.same s P k (.int _)⟩
  · obtain ⟨v, rfl, r⟩ := rs.one
    split at e
    · rename_i n0 ns h
      cases e
      obtain ⟨a, ws, rfl, ha, ra⟩ := r.lstE s
      rw [intsD_map h] at ra
      rw [repAll_ints ra] at ha
      refine .inr ⟨a, _, rfl, .of ha, by simp, fun m hm hl => ?_⟩
      rw [minI_spec _ m hm hl] at k
      exact OpOk.same s P k (.int _)
    · cases e
  · cases e
theorem okc_int : COk g (fun xs H Q => (∃ i, xs = [V.int i] ∧ Q (.int i) H) ∨ ∃ k, xs = [.bl k] ∧ Q (.int (if k then 1 else 0)) H) intD := by
  intro F H n vs ds d Q s P rs e k
  unfold intD at e
  split at e
  · obtain ⟨v, rfl, r⟩ := rs.one
    cases e
    cases r.intE
    exact .inl ⟨_, rfl, OpOk.same s P k (.int _)⟩
  · obtain ⟨v, rfl, r⟩ := rs.one
    cases e
    cases r.boolE
    exact .inr ⟨_, rfl, OpOk.same s P k (.int _)⟩
  · cases e
theorem okc_str : COk g (fun xs H Q => ∃ i, xs = [V.int i] ∧ i.natAbs.log2 < 1920 ∧ Q (.str (toString i)) H) strD := by
  intro F H n vs ds d Q s P rs e k
  unfold strD at e
  split at e
  · obtain ⟨v, rfl, r⟩ := rs.one
    split at e <;> cases e
    rename_i h
    cases r.intE
    exact ⟨_, rfl, h, OpOk.same s P k (.str _)⟩
  · cases e
theorem okc_tuple (hK : X.K = g.K) : COk g (fun xs H Q => ∃ p ys, xs = [.ref p] ∧ ((SqL X.K H p ys ∧ ∀ l, H l = none → Q (.ref l) (upd H l (.tup ys))) ∨ (SqT X.K H p ys ∧ Q (.ref p) H))) tupleD := by
  intro F H n vs ds d Q s P rs e k
  unfold tupleD at e
  split at e
  · obtain ⟨v, rfl, r⟩ := rs.one
    cases e
    obtain ⟨a, ws, rfl, hf, ha, ra⟩ := r.tupE s
    exact ⟨a, ws, rfl, .inr ⟨by rw [hK]; exact ha, OpOk.same s P k (.tup hf ra)⟩⟩
  · obtain ⟨v, rfl, r⟩ := rs.one
    cases e
    obtain ⟨a, ws, rfl, ha, ra⟩ := r.lstE s
    exact ⟨a, ws, rfl, .inl ⟨.of ha, fun p hp => OpOk.tup s P k ra hp⟩⟩
  · cases e
theorem okc_list (hK : X.K = g.K) : COkF g (fun xs H Q => ∃ p ys, xs = [.ref p] ∧ (SqL X.K H p ys ∨ SqT X.K H p ys) ∧ ∀ l, H l = none → Q (.ref l) (upd H l (.lst ys))) listD := by
  intro F H n vs ds d Q s P rs e k
  unfold listD at e
  split at e
  · obtain ⟨v, rfl, r⟩ := rs.one
    cases e
    obtain ⟨a, ws, rfl, hf, ha, ra⟩ := r.tupE s
    exact ⟨a, ws, rfl, .inr (by rw [hK]; exact ha), fun p hp => k p ws _ (Grow.new P hp) (sub_new s P hp) (P.upd hp) hp upd_same ra⟩
  · obtain ⟨v, rfl, r⟩ := rs.one
    cases e
    obtain ⟨a, ws, rfl, ha, ra⟩ := r.lstE s
    exact ⟨a, ws, rfl, .inl (.of ha), fun p hp => k p ws _ (Grow.new P hp) (sub_new s P hp) (P.upd hp) hp upd_same ra⟩
  · cases e

/-! ### sorted -/
/-- the values that stand for data: what sorted's rule hands on -/
def rSortD (g : Gh) : List V → Hp → VK → Prop := fun vs H Q => ∃ (a : Addr) (ws : List V) (ds : List D), vs = [V.ref a] ∧ H a = some (.lst ws) ∧ RepAll g H ws ds ∧ ds.all okD = true ∧ alikeAllB (ds.map D.py) = true ∧ sortable (ds.map D.py) = true ∧ ds.length ≤ sizeLine ∧
  ∀ us p, H p = Option.none → (∀ F, RepAll g F ws ds → RepAll g F us (sortD ds)) → Q (.ref p) (upd H p (.lst us))
theorem each_of {g : Gh} {F : Hp} : ∀ {ws : List V} {its : List Value} {ds : List D}, Vals ws its → RepAll g F ws ds → PySem.W.EachIs (fun u d => ∃ v, RelV v u ∧ Rep g F v d) its ds
  | _, _, _, .nil, .nil => .nil
  | _, _, _, .cons r t, .cons r2 t2 => .cons ⟨_, r, r2⟩ (each_of t t2)
theorem each_vals {R : V → D → Prop} : ∀ {us : List Value} {ds : List D}, PySem.W.EachIs (fun u d => ∃ v, RelV v u ∧ R v d) us ds → ∃ vs, Vals vs us ∧ PySem.W.EachIs R vs ds
  | _, _, .nil => ⟨[], .nil, .nil⟩
  | _, _, .cons ⟨v, h1, h2⟩ t => by
    obtain ⟨vs, h3, h4⟩ := each_vals t
    exact ⟨v :: vs, .cons h1 h3, .cons h2 h4⟩
theorem each_repAll {g : Gh} {F : Hp} : ∀ {vs : List V} {ds : List D}, PySem.W.EachIs (Rep g F) vs ds → RepAll g F vs ds
  | _, _, .nil => .nil
  | _, _, .cons h t => .cons h (each_repAll t)
theorem okD_depth {d : D} (h : okD d = true) : d.data = true ∧ d.py.canLay0 = true ∧ d.py.depth ≤ 64 := by
  simp only [okD, Bool.and_eq_true] at h
  have h2 : (d.py.canLay0 && decide (d.py.depth ≤ 64)) = true := h.2
  rw [Bool.and_eq_true] at h2
  exact ⟨h.1, h2.1, of_decide_eq_true h2.2⟩
theorem each_reads {pins : List (Addr × Obj)} {σ : St} {H : Hp} {s : Shared} (hK : X.K = g.K) (I : Inv X pins σ H s) : ∀ {ws : List V} {its : List Value} {ds : List D}, Vals ws its → RepAll g H ws ds → ds.all okD = true →
    PySem.W.EachIs (fun u d => ∃ as, Reads s.heap u (D.py d) as) its ds
  | _, _, _, .nil, .nil, _ => .nil
  | _, _, _, .cons r t, .cons r2 t2, h => by
    rw [List.all_cons, Bool.and_eq_true] at h
    refine .cons ?_ (each_reads hK I t t2 h.2)
    exact Dp.reads I _ _ _ (by rw [hK]; exact r2.dp (okD_depth h.1).1) r
theorem each_pair {g : Gh} {ws : List V} {ds : List D} {F0 : Hp} {R : V → D → Prop} : ∀ {its : List Value} {ws : List V} {ds : List D}, Vals ws its → RepAll g F0 ws ds → (∀ (i : Nat) v d, ws[i]? = some v → ds[i]? = some d → R v d) → PySem.W.EachIs (fun u d => ∃ v, RelV v u ∧ R v d) its ds
  | _, _, _, .nil, .nil, _ => .nil
  | _, _, _, .cons r t, .cons r2 t2, h => .cons ⟨_, r, h 0 _ _ rfl rfl⟩ (each_pair (ws := ws) (ds := ds) t t2 fun i v d h1 h2 => h (i + 1) v d (by simpa using h1) (by simpa using h2))
theorem RepAll.getD {g : Gh} {F : Hp} : ∀ {vs : List V} {ds : List D} {i : Nat} {d : D} {v : V}, RepAll g F vs ds → ds[i]? = some d → vs[i]? = some v → Rep g F v d := fun h h1 h2 => by
  obtain ⟨v', h3, h4⟩ := h.get h1
  rw [h2] at h3; cases h3; exact h4
theorem cr_sortD (hK : X.K = g.K) (hu : X.A.units + 66 < cLine) : CallR X (.builtin "sorted") (rSortD g) := by
  intro pins s σ H vs us Q I r h
  obtain ⟨a, ws, ds, rfl, ha, rd, ok, al, so, hz, q⟩ := h
  obtain ⟨hz', its, n, rv, hob⟩ := I.hok a _ ha
  rw [Vals.ref1 r]
  have hl : s.heap.IsList a its.toArray := ⟨_, hob, rfl, n, rfl⟩
  have lens := rd.length
  refine sorted_any (xs := ds) (R := fun u d => ∃ v, RelV v u ∧ ∀ F, RepAll g F ws ds → Rep g F v d) hl (each_pair (ws := ws) (ds := ds) rv rd fun i v d h1 h2 F h => h.getD h2 h1) (each_reads hK I rv rd ok) ?_ so hz ?_ fun out ho e => ?_
  · intro d hd d' hd'
    have := List.all_eq_true.mp al d hd
    exact List.all_eq_true.mp this d' hd'
  · intro d hd
    have := (okD_depth (List.all_eq_true.mp ok d hd)).2.2
    show X.A.units + 2 + d.py.depth < cLine
    omega
  · obtain ⟨vs', h1, h2⟩ := each_vals e
    obtain ⟨ep, he'⟩ := PyProof.Rows.sortedAll_at s.heap its out.toArray
    have hlen : vs'.length ≤ sizeLine := by rw [h1.length, ho]; exact hz
    refine ⟨.ref _, upd H (s.heap.objs.size + 1) (.lst vs'), I.laid (t' := s.toks) (fun _ _ => PyProof.Rows.sortedAll_old) (Nat.le_succ _) ⟨hlen, out, ep, h1, he'⟩, rfl, q vs' _ (I.hok.fresh (Nat.le_succ _)) fun F hF => ?_⟩
    exact each_repAll (h2.mono fun v d h => h F hF)
theorem okc_sorted : COkF g (rSortD g) sortedD := by
  intro F H n vs ds d Q s P rs e k
  unfold sortedD at e
  split at e
  · obtain ⟨v, rfl, r⟩ := rs.one
    split at e <;> cases e
    rename_i h
    simp only [Bool.and_eq_true, decide_eq_true_eq] at h
    obtain ⟨a, ws, rfl, ha, ra⟩ := r.lstE s
    refine ⟨a, ws, _, rfl, ha, ra.mono (s.trans vis_same), h.1.1.1, h.1.1.2, h.1.2, by rw [← sz]; exact h.2, fun us p hp hu => ?_⟩
    exact k p us _ (Grow.new P hp) (sub_new s P hp) (P.upd hp) hp upd_same (hu F ra)
  · cases e
  · cases e

/-! ### calls of built-ins -/
def evB (op : List D → Option D) (fr : Rho → M (List D)) : Rho → M D := fun ρ => do let xs ← fr ρ; M.opt (op xs)
def evBL (op : List D → Option (List D)) (fr : Rho → M (List D)) : Rho → M D := fun ρ => do let xs ← fr ρ; let r ← M.opt (op xs); pure (.lst r)
theorem tCB_of {r : List V → Hp → VK → Prop} {op : List D → Option D} {fr : Rho → M (List D)} {σ : St} {H : Hp} {Q : VK} (hk : COk g r op) (h : RdV g (evB op fr) σ H Q) : tCB r (RdAP g fr) σ H Q := by
  obtain ⟨F0, H0, F, ρ, n, d, n', e, m, k⟩ := h
  obtain ⟨xs, n1, e1, e⟩ := M.bind_some e
  obtain ⟨e3, e4⟩ := M.opt_ok e
  simp only at e3 e4
  subst e4
  exact ⟨F0, H0, F, ρ, n, xs, _, e1, m, fun vs F' H' g1 s1 P1 r1 => hk F' H' _ vs xs d Q s1 P1 r1 e3 fun v F2 H2 g2 s2 P2 r2 => k v F2 H2 (g1.trans g2) s2 P2 r2⟩
theorem tCB_ofF {r : List V → Hp → VK → Prop} {op : List D → Option (List D)} {fr : Rho → M (List D)} {σ : St} {H : Hp} {Q : VK} (hk : COkF g r op) (h : RdF g (evBL op fr) σ H Q) : tCB r (RdAP g fr) σ H Q := by
  obtain ⟨F0, H0, F, ρ, n, d, n', e, m, k⟩ := h
  obtain ⟨xs, n1, e1, e⟩ := M.bind_some e
  obtain ⟨l, n2, e2, e⟩ := M.bind_some e
  cases e
  obtain ⟨e3, e4⟩ := M.opt_ok e2
  simp only at e3 e4
  subst e4
  refine ⟨F0, H0, F, ρ, n, xs, _, e1, m, fun vs F' H' g1 s1 P1 r1 => hk F' H' _ vs xs l Q s1 P1 r1 e3 fun a ws H2 g2 s2 P2 hn hw rw' => ?_⟩
  exact k a F' H2 (g1.trans g2) s2 P2 (g1.fresh hn) (sub_none s1 hn) (.lst hw rw')
variable {x : Str} {p pos : Pos} {e : Expr} {es : List Expr} {id T : String} {fr : Rho → M (List D)}
theorem de_callB {r : List V → Hp → VK → Prop} {op : List D → Option D} (hk : COk g r op) (hc : CallR X (.builtin id) r) (hg : Gl X x) (hm : X.mg x = none) (hv : bootBuiltins x = some (.builtin id)) (ha : PA X (e :: es) (RdAP g fr)) (hn : x ≠ "__name__") (hdb : (x == ("__debug__" : Str)) = false)
    (he : starEach (e :: es) X.env = (false, eval e X.env) :: starEach es X.env) (hpl : (backTo pos (starEach es X.env)).any (·.1) = false) : PE X (.Call (.Name x p) (e :: es) [] pos) (RdV g (evB op fr)) :=
  pe_wk (pe_callB hc hg hm hv ha hn hdb he hpl) fun σ H Q h => tCB_of hk h
theorem de_callTy {r : List V → Hp → VK → Prop} {op : List D → Option D} (hk : COk g r op) (hc : CallR X (.type T) r) (hg : Gl X x) (hm : X.mg x = none) (hv : bootBuiltins x = some (.type T)) (ha : PA X (e :: es) (RdAP g fr)) (hn : x ≠ "__name__") (hdb : (x == ("__debug__" : Str)) = false)
    (he : starEach (e :: es) X.env = (false, eval e X.env) :: starEach es X.env) (hpl : (backTo pos (starEach es X.env)).any (·.1) = false) : PE X (.Call (.Name x p) (e :: es) [] pos) (RdV g (evB op fr)) :=
  pe_wk (pe_callTy hc hg hm hv ha hn hdb he hpl) fun σ H Q h => tCB_of hk h
theorem df_callB {r : List V → Hp → VK → Prop} {op : List D → Option (List D)} (hk : COkF g r op) (hc : CallR X (.builtin id) r) (hg : Gl X x) (hm : X.mg x = none) (hv : bootBuiltins x = some (.builtin id)) (ha : PA X (e :: es) (RdAP g fr)) (hn : x ≠ "__name__") (hdb : (x == ("__debug__" : Str)) = false)
    (he : starEach (e :: es) X.env = (false, eval e X.env) :: starEach es X.env) (hpl : (backTo pos (starEach es X.env)).any (·.1) = false) : PE X (.Call (.Name x p) (e :: es) [] pos) (RdF g (evBL op fr)) :=
  pe_wk (pe_callB hc hg hm hv ha hn hdb he hpl) fun σ H Q h => tCB_ofF hk h
theorem df_callTy {r : List V → Hp → VK → Prop} {op : List D → Option (List D)} (hk : COkF g r op) (hc : CallR X (.type T) r) (hg : Gl X x) (hm : X.mg x = none) (hv : bootBuiltins x = some (.type T)) (ha : PA X (e :: es) (RdAP g fr)) (hn : x ≠ "__name__") (hdb : (x == ("__debug__" : Str)) = false)
    (he : starEach (e :: es) X.env = (false, eval e X.env) :: starEach es X.env) (hpl : (backTo pos (starEach es X.env)).any (·.1) = false) : PE X (.Call (.Name x p) (e :: es) [] pos) (RdF g (evBL op fr)) :=
  pe_wk (pe_callTy hc hg hm hv ha hn hdb he hpl) fun σ H Q h => tCB_ofF hk h

/-! ### isinstance -/
inductive TyK where
  | bool | int | str | tuple | list | dict
  deriving DecidableEq
def TyK.name : TyK → String
  | .bool => "bool" | .int => "int" | .str => "str" | .tuple => "tuple" | .list => "list" | .dict => "dict"
def D.ty : D → Option String
  | .none => some "NoneType" | .bool _ => some "bool" | .int _ => some "int" | .str _ => some "str" | .tup _ => some "tuple" | .lst _ => some "list" | .pool => Option.none | .scr _ => Option.none | .dict _ _ => Option.none | .clo _ _ => Option.none | .obj _ _ _ => Option.none
def isiD (t : TyK) : D → Option Bool
  | .bool _ => some (t == .bool || t == .int)
  | .int _ => some (t == .int)
  | .str _ => some (t == .str)
  | .tup _ => some (t == .tuple)
  | .lst _ => some (t == .list)
  | .none => some false
  | .pool => none
  | .scr _ => none
  | .dict _ _ => none
  | .clo _ _ => none
  | .obj _ _ _ => none
theorem isiD_kit {t : TyK} {d : D} {b : Bool} (h : isiD t d = some b) : ∃ n, d.ty = some n ∧ kitB n t.name = some b := by
  cases d <;> (try (cases h; done)) <;> simp only [isiD, Option.some.injEq, reduceCtorEq] at h <;> subst h <;> refine ⟨_, rfl, ?_⟩ <;> cases t <;> decide +kernel
theorem tyX_of {F H : Hp} {v : V} {d : D} {n : String} (s : Same F (vis g H)) (r : PRep g F H v d) (h : d.ty = some n) : TyX g.K H v (.type n) := by
  cases d <;> (try (cases h; done)) <;> simp only [D.ty, Option.some.injEq, reduceCtorEq] at h <;> subst h
  · cases r.noneE; exact .base .non
  · cases r.boolE; exact .base (.bl _)
  · cases r.intE; exact .base (.int _)
  · cases r.strE; exact .base (.str _)
  · obtain ⟨a, vs, rfl, _, h, _⟩ := r.tupE s
    rcases h with (h | ⟨o, h⟩) | ⟨o, its, n, h1, h2, _⟩
    · exact .base (.tup h)
    · exact .fTuple h
    · exact .kTuple h1 h2
  · obtain ⟨a, vs, rfl, h, _⟩ := r.lstE s
    exact .base (.lst h)
def evIsi (t : TyK) (fa : Rho → M D) : Rho → M D := fun ρ => do let x ← fa ρ; M.opt ((isiD t x).map D.bool)
variable {fa : Rho → M D} {a : Expr} {y : Str} {p' : Pos}
theorem de_isi (hK : X.K = g.K) (t : TyK) (hg : Gl X "isinstance") (hm : X.mg "isinstance" = none) (hgT : Gl X y) (hmT : X.mg y = none) (hvT : bootBuiltins y = some (.type t.name)) (ha : PE X a (RdP g fa)) (hs : starEach [a, .Name y p'] X.env = (false, eval a X.env) :: starEach [.Name y p'] X.env) (hn : y ≠ "__name__") (hdb : (y == ("__debug__" : Str)) = false) :
    PE X (.Call (.Name "isinstance" p) [a, .Name y p'] [] pos) (RdV g (evIsi t fa)) := by
  refine pe_wk (pe_callB call_isi hg hm (by decide +kernel) (pa_cons ha (pa_cons (pe_bltn (v := .ty t.name) hgT hmT hvT rfl hn hdb) pa_nil) hs) (by decide) (by decide) hs) fun σ H Q ⟨F0, H0, F, ρ, n, d, n', e, m, k⟩ => ?_
  obtain ⟨x, n1, e1, e⟩ := M.bind_some e
  obtain ⟨e3, e4⟩ := M.opt_ok e
  simp only [Option.map_eq_some_iff] at e3 e4
  obtain ⟨b, e3, rfl⟩ := e3
  subst e4
  refine ⟨F0, H0, F, ρ, n, x, _, e1, m, fun v F' H' gr s P r => ?_⟩
  obtain ⟨nm, h1, h2⟩ := isiD_kit e3
  exact ⟨v, .ty t.name, .type nm, .type t.name, b, rfl, .ty _, by rw [hK]; exact tyX_of s r h1, kit_ty h2, k _ F' H' gr s P (.bl _)⟩

/-! ### methods of texts -/
def upperD : D → Option D
  | .str x => if x.length ≤ 5592405 then some (.str (Txt.upper x)) else none
  | _ => none
def evUpper (fa : Rho → M D) : Rho → M D := fun ρ => do let x ← fa ρ; M.opt (upperD x)
theorem de_upper {apos cpos : Pos} (ha : PE X a (RdP g fa)) (hb : attributeBase a "upper" X.env (eval a X.env) = eval a X.env) (hl : (apos.endLine == cpos.line) = true) : PE X (.Call (.Attribute a "upper" apos) [] [] cpos) (RdV g (evUpper fa)) := by
  refine pe_wk (pe_upper ha hb hl) fun σ H Q ⟨F0, H0, F, ρ, n, d, n', e, m, k⟩ => ?_
  obtain ⟨x, n1, e1, e⟩ := M.bind_some e
  obtain ⟨e3, e4⟩ := M.opt_ok e
  simp only at e3 e4
  subst e4
  refine ⟨F0, H0, F, ρ, n, x, _, e1, m, fun v F' H' gr s P r => ?_⟩
  cases x <;> simp only [upperD, reduceCtorEq] at e3
  split at e3
  case isFalse => cases e3
  rename_i h
  cases e3
  cases r.strE
  exact ⟨⟨_, rfl⟩, _, rfl, rfl, h, k _ F' H' gr s P (.str _)⟩

/-! ### calls of own defs -/
def spF (g : Gh) (C : List D → M D) : Sp := fun vs H Q _ => ∃ F n ds d n', Same F (vis g H) ∧ PoolAt g n H ∧ RepAll g F vs ds ∧ C ds n = some (d, n') ∧
  ∀ v F' H', Grow g F H F' H' → Same F' (vis g H') → PoolAt g n' H' → Rep g F' v d → Q v H'
def evC (C : List D → M D) (fr : Rho → M (List D)) : Rho → M D := fun ρ => do let xs ← fr ρ; C xs
theorem de_call {C : List D → M D} {k : Nat} {f : Addr} {fd : FuncData} {ps : List Str} (F : FnOk X.prog X.w X.K X.mg X.base CX0 k f fd ps (spF g C)) (hr : Room k X.A) (hg : Gl X x) (hm : X.mg x = some (.ref f)) (hk : PySem.W.keepIn X.K (.ref f) = true) (hb : Binds X.K fd ps [])
    (ha : PA X (e :: es) (RdA g fr)) (hdb : (x == ("__debug__" : Str)) = false) (he : starEach (e :: es) X.env = (false, eval e X.env) :: starEach es X.env) (hpl : (backTo pos (starEach es X.env)).any (·.1) = false) :
    PE X (.Call (.Name x p) (e :: es) [] pos) (RdV g (evC C fr)) := by
  refine pe_wk (pe_call F hr hg hm hk hb .nil pass0 ha hdb he hpl) fun σ H Q ⟨F0, H0, F, ρ, n, d, n', e, m, k⟩ => ?_
  obtain ⟨xs, n1, e1, e⟩ := M.bind_some e
  refine ⟨F0, H0, F, ρ, n, xs, n1, e1, m, fun vs F' H' g1 s1 P1 r1 => ⟨F', n1, xs, d, n', s1, P1, by rw [List.append_nil]; exact r1, e, fun v F2 H2 g2 s2 P2 r2 => k v F2 H2 (g1.trans g2) s2 P2 r2⟩⟩
theorem de_call0 {C : List D → M D} {k : Nat} {f : Addr} {fd : FuncData} {ps : List Str} (F : FnOk X.prog X.w X.K X.mg X.base CX0 k f fd ps (spF g C)) (hr : Room k X.A) (hg : Gl X x) (hm : X.mg x = some (.ref f)) (hk : PySem.W.keepIn X.K (.ref f) = true) (hb : Binds X.K fd ps [])
    (hdb : (x == ("__debug__" : Str)) = false) : PE X (.Call (.Name x p) [] [] pos) (RdV g (evC C evNil)) := by
  refine pe_wk (pe_call0 F hr hg hm hk hb .nil pass0 hdb) fun σ H Q ⟨F0, H0, F, ρ, n, d, n', e, m, k⟩ => ?_
  obtain ⟨xs, n1, e1, e⟩ := M.bind_some e
  cases e1
  exact ⟨F, n, [], d, n', m.sub, m.pool, .nil, e, fun v F2 H2 g2 s2 P2 r2 => k v F2 H2 g2 s2 P2 r2⟩
end
end Ev

set_option Elab.async false
set_option linter.all false
set_option autoImplicit false
set_option maxRecDepth 100000
/-! Ev4: targets, what is walked, comprehensions. -/
namespace Ev
open PySem PySem.Spec PyProof.Rows L2

/-! ### targets -/
inductive Tgt where
  | nm (i : Nat)
  | tp (t : Tgt) (u : Tgt)
  | tp3 (t : Tgt) (u : Tgt) (v : Tgt)
  | tn (is : List Nat)
  deriving Inhabited, DecidableEq
def Tgt.slots : Tgt → List Nat
  | .nm i => [i]
  | .tp t u => t.slots ++ u.slots
  | .tp3 t u v => t.slots ++ (u.slots ++ v.slots)
  | .tn is => is
def bindNs : List Nat → List D → Rho → Option Rho
  | [], [], ρ => some ρ
  | i :: is, d :: ds, ρ => bindNs is ds (ρ.set i (.val d))
  | _, _, _ => none
def bindT : Tgt → D → Rho → Option Rho
  | .nm i, d, ρ => some (ρ.set i (.val d))
  | .tp t u, .tup [x, y], ρ => (bindT t x ρ).bind fun ρ' => bindT u y ρ'
  | .tp3 t u v, .tup [x, y, z], ρ => (bindT t x ρ).bind fun ρ' => (bindT u y ρ').bind fun ρ'' => bindT v z ρ''
  | .tn is, .tup xs, ρ => bindNs is xs ρ
  | _, _, _ => none
/-- the slots alike but at vs -/
def ButAt (vs : List Nat) (σ σ' : St) : Prop := ∀ ws : List Nat, (∀ i ∈ vs, i ∈ ws) → wipe σ' ws = wipe σ ws
theorem wipe_set_out {x : Option V} {i : Nat} : ∀ {vs : List Nat} {σ : St}, i ∉ vs → wipe (σ.set i x) vs = (wipe σ vs).set i x
  | [], _, _ => rfl
  | v :: vs, σ, h => by
    simp only [List.mem_cons, not_or] at h
    show (wipe (σ.set i x) vs).set v none = ((wipe σ vs).set v none).set i x
    rw [wipe_set_out h.2, List.set_comm _ _ h.1]
theorem wipe_set {x : Option V} {i : Nat} : ∀ {vs : List Nat} {σ : St}, i ∈ vs → wipe (σ.set i x) vs = wipe σ vs
  | v :: vs, σ, h => by
    show (wipe (σ.set i x) vs).set v none = (wipe σ vs).set v none
    by_cases hi : i ∈ vs
    · rw [wipe_set hi]
    · have e : i = v := by
        rcases List.mem_cons.mp h with e | e
        · exact e
        · exact absurd e hi
      subst e
      rw [wipe_set_out hi, List.set_set]
theorem ButAt.trans {vs ws : List Nat} {a b c : St} (h1 : ButAt vs a b) (h2 : ButAt ws b c) : ButAt (vs ++ ws) a c := fun us hu =>
  (h2 us fun i hi => hu i (List.mem_append_right _ hi)).trans (h1 us fun i hi => hu i (List.mem_append_left _ hi))
theorem Mdl.set {g : Gh} {F0 H0 F H : Hp} {ρ : Rho} {n : Nat} {σ : St} {d : D} {v : V} (m : Mdl g F0 H0 F ρ n σ H) (i : Nat) (r : Rep g F v d) : Mdl g F0 H0 F (ρ.set i (.val d)) n (σ.set i (some v)) H := by
  refine ⟨m.gr, m.p0, m.sub, m.pool, by simp [m.len], fun j sl e => ?_, fun j k dj dk a e1 e2 e3 e4 => ?_⟩
  · rw [List.getElem?_set] at e
    by_cases h : i = j
    · subst h
      rw [if_pos rfl] at e
      split at e
      · rename_i hl
        cases e
        exact ⟨v, by rw [List.getElem?_set_self (by rw [← m.len]; exact hl)], r⟩
      · cases e
    · rw [if_neg h] at e
      rw [List.getElem?_set_ne h]
      exact m.slot j sl e
  · rw [List.getElem?_set] at e1 e2
    by_cases h1 : i = j
    · subst h1; simp at e1
    · by_cases h2 : i = k
      · subst h2; simp at e2
      · rw [if_neg h1] at e1
        rw [if_neg h2] at e2
        rw [List.getElem?_set_ne h1] at e3
        rw [List.getElem?_set_ne h2] at e4
        exact m.dis j k dj dk a e1 e2 e3 e4

def gRd (g : Gh) (t : Tgt) : TG := fun v σ H Q => ∃ F0 H0 F ρ n d ρ', bindT t d ρ = some ρ' ∧ Mdl g F0 H0 F ρ n σ H ∧ Rep g F v d ∧ ∀ σ', ButAt t.slots σ σ' → Mdl g F0 H0 F ρ' n σ' H → Q σ' H
section
variable {X : Cx} {g : Gh} {pos : Pos}
theorem pg_wk {e : Expr} {t t' : TG} (h : PG X e t) (w : ∀ v σ H Q, t' v σ H Q → t v σ H Q) : PG X e t' := ⟨fun pins s σ H v u Q I r hw => h.run pins s σ H v u Q I r (w v σ H Q hw)⟩
theorem dg_nm {i : Nat} {x : Str} (hN : X.N.Nodup) (hi : X.N[i]? = some x) (hx : Loc X.env.scope x) (hf : X.fn x = true ∨ X.env.scope.names.lookup x = some .local) : PG X (.Name x pos) (gRd g (.nm i)) :=
  pg_wk (pg_name hN hi hx hf) fun v σ H Q ⟨F0, H0, F, ρ, n, d, ρ', e, m, r, k⟩ => by
    cases e
    exact k _ (fun ws hw => wipe_set (hw i (by simp [Tgt.slots]))) (m.set i r)
theorem dg_tp {t u : Tgt} {a b : Expr} {kk : Nat} (hK : X.K = g.K) (hc : X.calm = true) (ha : PG X a (gRd g t)) (hb : PG X b (gRd g u))
    (hs : (assignEach [a, b] X.env).map (·.2) = assign a X.env :: (assignEach [b] X.env).map (·.2)) (hs2 : (assignEach [b] X.env).map (·.2) = assign b X.env :: (assignEach [] X.env).map (·.2))
    (hn : (assignEach [a, b] X.env).length = 2) (hst : (assignEach [a, b] X.env).findIdx? (·.1) = none) : PG X (.Tuple [a, b] kk pos) (gRd g (.tp t u)) := by
  refine pg_wk (pg_tup hc (pgs_cons ha (pgs_cons hb pgs_nil hs2) hs) hn hst) fun v σ H Q ⟨F0, H0, F, ρ, n, d, ρ', e, m, r, k⟩ => ?_
  obtain ⟨ds, rfl⟩ : ∃ ds, d = .tup ds := by
    cases d with
    | tup ds => exact ⟨ds, rfl⟩
    | _ => cases e
  match ds, e with
  | [x, y], e =>
    simp only [bindT, Option.bind_eq_some_iff] at e
    obtain ⟨ρ1, e1, e2⟩ := e
    obtain ⟨a', vs, rfl, hf, hh, ra⟩ := PRep.tupE m.sub (.inl r)
    cases ra with
    | cons r1 ra =>
      cases ra with
      | cons r2 ra =>
        cases ra
        refine ⟨a', _, rfl, by rw [hK]; exact hh, rfl, ?_⟩
        refine ⟨_, _, rfl, F0, H0, F, ρ, n, x, ρ1, e1, m, r1, fun σ1 b1 m1 => ⟨_, _, rfl, F0, H0, F, ρ1, n, y, ρ', e2, m1, r2, fun σ2 b2 m2 => ⟨rfl, ?_⟩⟩⟩
        exact k σ2 (b1.trans b2) m2
theorem dg_tp3 {t u w : Tgt} {a b c : Expr} {kk : Nat} (hK : X.K = g.K) (hc : X.calm = true) (ha : PG X a (gRd g t)) (hb : PG X b (gRd g u)) (hd : PG X c (gRd g w))
    (hs : (assignEach [a, b, c] X.env).map (·.2) = assign a X.env :: (assignEach [b, c] X.env).map (·.2)) (hs2 : (assignEach [b, c] X.env).map (·.2) = assign b X.env :: (assignEach [c] X.env).map (·.2)) (hs3 : (assignEach [c] X.env).map (·.2) = assign c X.env :: (assignEach [] X.env).map (·.2))
    (hn : (assignEach [a, b, c] X.env).length = 3) (hst : (assignEach [a, b, c] X.env).findIdx? (·.1) = none) : PG X (.Tuple [a, b, c] kk pos) (gRd g (.tp3 t u w)) := by
  refine pg_wk (pg_tup hc (pgs_cons ha (pgs_cons hb (pgs_cons hd pgs_nil hs3) hs2) hs) hn hst) fun v σ H Q ⟨F0, H0, F, ρ, n, d, ρ', e, m, r, k⟩ => ?_
  obtain ⟨ds, rfl⟩ : ∃ ds, d = .tup ds := by
    cases d with
    | tup ds => exact ⟨ds, rfl⟩
    | _ => cases e
  match ds, e with
  | [x, y, z], e =>
    simp only [bindT, Option.bind_eq_some_iff] at e
    obtain ⟨ρ1, e1, ρ2, e2, e3⟩ := e
    obtain ⟨a', vs, rfl, hf, hh, ra⟩ := PRep.tupE m.sub (.inl r)
    cases ra with
    | cons r1 ra =>
      cases ra with
      | cons r2 ra =>
        cases ra with
        | cons r3 ra =>
        cases ra
        refine ⟨a', _, rfl, by rw [hK]; exact hh, rfl, ?_⟩
        refine ⟨_, _, rfl, F0, H0, F, ρ, n, x, ρ1, e1, m, r1, fun σ1 b1 m1 => ⟨_, _, rfl, F0, H0, F, ρ1, n, y, ρ2, e2, m1, r2, fun σ2 b2 m2 => ⟨_, _, rfl, F0, H0, F, ρ2, n, z, ρ', e3, m2, r3, fun σ3 b3 m3 => ⟨rfl, ?_⟩⟩⟩⟩
        refine k σ3 ?_ m3
        exact b1.trans (b2.trans b3)
/-- names alone, any number -/
def gNs (g : Gh) (is : List Nat) : TGs := fun vs σ H Q => ∃ F0 H0 F ρ n ds ρ', bindNs is ds ρ = some ρ' ∧ Mdl g F0 H0 F ρ n σ H ∧ RepAll g F vs ds ∧ ∀ σ', ButAt is σ σ' → Mdl g F0 H0 F ρ' n σ' H → Q σ' H
theorem dgs_tn (hN : X.N.Nodup) : ∀ {is : List Nat} {es : List Expr}, Paired (fun i e => ∃ x p, e = Expr.Name x p ∧ X.N[i]? = some x ∧ Loc X.env.scope x ∧ (X.fn x = true ∨ X.env.scope.names.lookup x = some .local)) is es → PGs X es (gNs g is)
  | [], [], .nil => ⟨fun pins s σ H vs us Q I r ⟨F0, H0, F, ρ, n, ds, ρ', e, m, ra, k⟩ => by
    cases ds with
    | nil =>
      cases ra
      cases e
      exact pgs_nil.run pins s σ H _ us Q I r ⟨rfl, k σ (fun _ _ => rfl) m⟩
    | cons _ _ => cases e⟩
  | i :: is, a :: es, .cons hx ps => ⟨fun pins s σ H vs us Q I r ⟨F0, H0, F, ρ, n, ds, ρ', e, m, ra, k⟩ => by
    obtain ⟨x, p, rfl, h1, h2, h3⟩ := hx
    cases ds with
    | nil => cases e
    | cons d ds =>
      cases ra with
      | cons rd ra =>
      refine (pgs_cons (pg_name (pos := p) hN h1 h2 h3) (dgs_tn hN ps)).run pins s σ H _ us Q I r ⟨_, _, rfl, F0, H0, F, _, n, ds, ρ', e, m.set i rd, ra, fun σ' b m' => k σ' ?_ m'⟩
      intro ws hw
      rw [b ws fun j hj => hw j (List.mem_cons_of_mem _ hj), wipe_set (hw i List.mem_cons_self)]⟩
theorem dg_tn {is : List Nat} {es : List Expr} {kk : Nat} (hK : X.K = g.K) (hc : X.calm = true) (hN : X.N.Nodup) (hp : Paired (fun i e => ∃ x p, e = Expr.Name x p ∧ X.N[i]? = some x ∧ Loc X.env.scope x ∧ (X.fn x = true ∨ X.env.scope.names.lookup x = some .local)) is es) :
    PG X (.Tuple es kk pos) (gRd g (.tn is)) := by
  have names : ∀ {is : List Nat} {es : List Expr}, Paired (fun i e => ∃ x p, e = Expr.Name x p ∧ X.N[i]? = some x ∧ Loc X.env.scope x ∧ (X.fn x = true ∨ X.env.scope.names.lookup x = some .local)) is es → (assignEach es X.env).length = is.length ∧ (assignEach es X.env).findIdx? (·.1) = none := by
    intro is es h
    induction h with
    | nil => exact ⟨rfl, rfl⟩
    | cons h _ ih =>
      obtain ⟨x, p, rfl, _⟩ := h
      have e : ∀ es' : List Expr, assignEach (Expr.Name x p :: es') X.env = (false, assign (.Name x p) X.env) :: assignEach es' X.env := fun _ => rfl
      rw [e]
      refine ⟨by rw [List.length_cons, List.length_cons, ih.1], ?_⟩
      rw [List.findIdx?_cons, ih.2]
      rfl
  obtain ⟨n1, n2⟩ := names hp
  refine pg_wk (pg_tup hc (dgs_tn (g := g) hN hp) n1 n2) fun v σ H Q ⟨F0, H0, F, ρ, n, d, ρ', e, m, r, k⟩ => ?_
  cases d with
  | tup ds =>
    have e : bindNs is ds ρ = some ρ' := e
    obtain ⟨a', vs, rfl, hf, hh, ra⟩ := PRep.tupE m.sub (.inl r)
    have hl : ∀ {is : List Nat} {ds : List D} {ρ : Rho}, bindNs is ds ρ = some ρ' → ds.length = is.length := by
      intro is
      induction is with
      | nil => intro ds ρ e; cases ds <;> first | rfl | cases e
      | cons i is ih => intro ds ρ e; cases ds with
        | nil => cases e
        | cons d ds => rw [List.length_cons, List.length_cons, ih e]
    exact ⟨a', vs, rfl, by rw [hK]; exact hh, by rw [ra.length, hl e], F0, H0, F, ρ, n, ds, ρ', e, m, ra, k⟩
  | _ => cases e
end

/-! ### what is walked -/
/-- J gives the data ds one after the other, as they are frozen in F -/
structure Walks (g : Gh) (J : It) (F : Hp) (ds : List D) : Prop where
  stop : ∀ F1 H, Same F F1 → Same F1 (vis g H) → J.stop ds.length H
  go : ∀ i d F1 H n, Same F F1 → Same F1 (vis g H) → PoolAt g n H → ds[i]? = some d → J.go i H ∧ ∀ x H', J.yld i H x H' → ∃ F2, Grow g F1 H F2 H' ∧ Same F2 (vis g H') ∧ PoolAt g n H' ∧ Rep g F2 x d
def RdI (g : Gh) (f : Rho → M (List D)) : TI := fun σ H R => ∃ F0 H0 F ρ n ds n', f ρ n = some (ds, n') ∧ Mdl g F0 H0 F ρ n σ H ∧
  ∀ J F' H', Grow g F H F' H' → Same F' (vis g H') → PoolAt g n' H' → Walks g J F' ds → R J H'
theorem walks_list {g : Gh} {K : PySem.W.Frag} {F : Hp} {a : Addr} {vs : List V} {ds : List D} (h : F a = some (.lst vs)) (r : RepAll g F vs ds) : Walks g (Itl K a) F ds := by
  have at_ : ∀ F1 H, Same F F1 → Same F1 (vis g H) → SqL K H a vs := fun F1 H s1 s2 => .of ((s1.trans s2).trans vis_same a _ h)
  refine ⟨fun F1 H s1 s2 => ⟨vs, at_ F1 H s1 s2, by rw [r.length]; exact Nat.le_refl _⟩, fun i d F1 H n s1 s2 P e => ?_⟩
  obtain ⟨v, hv, rv⟩ := r.get e
  refine ⟨⟨vs, v, at_ F1 H s1 s2, hv⟩, fun x H' ⟨e1, y⟩ => ?_⟩
  subst e1
  have e2 := y vs (at_ F1 _ s1 s2)
  rw [hv] at e2; cases e2
  exact ⟨F1, Grow.refl, s2, P, rv.mono s1⟩
theorem walks_tup {g : Gh} {F : Hp} {a : Addr} {vs : List V} {ds : List D} (h : SqT g.K F a vs) (r : RepAll g F vs ds) : Walks g (Itt g.K a) F ds := by
  have at_ : ∀ F1 H, Same F F1 → Same F1 (vis g H) → SqT g.K H a vs := fun F1 H s1 s2 => seqT_mono ((s1.trans s2).trans vis_same) h
  refine ⟨fun F1 H s1 s2 => ⟨vs, at_ F1 H s1 s2, by rw [r.length]; exact Nat.le_refl _⟩, fun i d F1 H n s1 s2 P e => ?_⟩
  obtain ⟨v, hv, rv⟩ := r.get e
  refine ⟨⟨vs, v, at_ F1 H s1 s2, hv⟩, fun x H' ⟨e1, y⟩ => ?_⟩
  subst e1
  have e2 := y vs (at_ F1 _ s1 s2)
  rw [hv] at e2; cases e2
  exact ⟨F1, Grow.refl, s2, P, rv.mono s1⟩
def rangeD (lo : Int) (n : Nat) : List D := (List.range n).map fun (k : Nat) => D.int (lo + (k : Int))
theorem walks_range {g : Gh} {F : Hp} {lo : Int} {n : Nat} : Walks g (Itr lo n) F (rangeD lo n) := by
  refine ⟨fun F1 H s1 s2 => by show n ≤ _; simp [rangeD], fun i d F1 H m s1 s2 P e => ?_⟩
  simp only [rangeD, List.getElem?_map, Option.map_eq_some_iff] at e
  obtain ⟨k, e, rfl⟩ := e
  obtain ⟨h1, rfl⟩ : i < n ∧ k = i := by
    rw [List.getElem?_eq_some_iff] at e
    obtain ⟨h, e⟩ := e
    simp at h e
    exact ⟨h, e.symm⟩
  exact ⟨h1, fun x H' ⟨e1, e2⟩ => by
    subst e1 e2
    exact ⟨F1, Grow.refl, s2, P, .int _⟩⟩

/-! ### comprehensions -/
def wipeR (ρ : Rho) : List Nat → Rho
  | [] => ρ
  | v :: vs => (wipeR ρ vs).set v .un
theorem Mdl.setUn {g : Gh} {F0 H0 F H : Hp} {ρ : Rho} {n : Nat} {σ : St} (m : Mdl g F0 H0 F ρ n σ H) (i : Nat) (x : Option V) : Mdl g F0 H0 F (ρ.set i .un) n (σ.set i x) H := by
  refine ⟨m.gr, m.p0, m.sub, m.pool, by simp [m.len], fun j sl e => ?_, fun j k dj dk a e1 e2 e3 e4 => ?_⟩
  · rw [List.getElem?_set] at e
    by_cases h : i = j
    · subst h
      rw [if_pos rfl] at e
      split at e
      · cases e; trivial
      · cases e
    · rw [if_neg h] at e
      rw [List.getElem?_set_ne h]
      exact m.slot j sl e
  · rw [List.getElem?_set] at e1 e2
    by_cases h1 : i = j
    · subst h1; simp at e1
    · by_cases h2 : i = k
      · subst h2; simp at e2
      · rw [if_neg h1] at e1
        rw [if_neg h2] at e2
        rw [List.getElem?_set_ne h1] at e3
        rw [List.getElem?_set_ne h2] at e4
        exact m.dis j k dj dk a e1 e2 e3 e4
theorem Mdl.wipe {g : Gh} {F0 H0 F H : Hp} {ρ : Rho} {n : Nat} {σ : St} (m : Mdl g F0 H0 F ρ n σ H) : ∀ vs : List Nat, Mdl g F0 H0 F (wipeR ρ vs) n (L2.wipe σ vs) H
  | [] => m
  | v :: vs => (Mdl.wipe m vs).setUn v none
def lcGo (body : D → M (Option D)) : List D → M (List D)
  | [] => pure []
  | x :: xs => do
    let r ← body x
    let rs ← lcGo body xs
    pure (r.toList ++ rs)
def lcBody (own : List Nat) (t : Tgt) (fc : Rho → M Bool) (fe : Rho → M D) (ρ : Rho) (d : D) : M (Option D) := do
  let ρ' ← M.opt (bindT t d (wipeR ρ own))
  let c ← fc ρ'
  if c then (do let y ← fe ρ'; pure (some y)) else pure none
def evLc (own : List Nat) (t : Tgt) (fi : Rho → M (List D)) (fc : Rho → M Bool) (fe : Rho → M D) : Rho → M D := fun ρ => do
  let ds ← fi ρ
  if ds.length ≤ 16777216 then (do let rs ← lcGo (lcBody own t fc fe ρ) ds; pure (.lst rs)) else M.fail
def evYes : Rho → M Bool := fun _ => pure true

theorem Grow.updN {g : Gh} {F H F1 H1 : Hp} {p : Addr} {o : HO} (x : Grow g F H F1 H1) (h : H p = Option.none) (hp : ¬ hid g p) : Grow g F H F1 (upd H1 p o) := x.change h hp
theorem sub_updN {g : Gh} {F H : Hp} {p : Addr} {o : HO} (s : Same F (vis g H)) (h : F p = Option.none) (hp : ¬ hid g p) : Same F (vis g (upd H p o)) := fun b u e => by
  have ne : b ≠ p := by rintro rfl; rw [h] at e; cases e
  rw [vis_upd hp, upd_ne ne]
  exact s b u e
/-- what stands apart, and is no code object, is written -/
theorem PoolAt.updN {g : Gh} {n : Nat} {H : Hp} {p : Addr} {o u : HO} (P : PoolAt g n H) (hh : Nh g p) (hu : H p = some u) (hc : ∀ c q, u ≠ LamX.CodeO c q := by intro c q z; cases z) : PoolAt g n (L2.upd H p o) :=
  P.off (fun b hb => upd_ne hb) hh fun q c z => by rw [hu] at z; cases z; exact absurd rfl (hc _ _)

section
variable {X : Cx} {g : Gh} {pos : Pos}
theorem pts_wk {ifs : List Expr} {t t' : TT} (h : PTs X ifs t) (w : ∀ σ H Q, t' σ H Q → t σ H Q) : PTs X ifs t' := ⟨fun pins s σ H Q I hw => h.run pins s σ H Q I (w σ H Q hw)⟩
theorem dts_nil : PTs X [] (RdT g evYes) := pts_wk pts_nil fun σ H Q ⟨F0, H0, F, ρ, n, b, n', e, m, k⟩ => by
  cases e
  exact k F H Grow.refl m.sub m.pool
theorem tLc_of {t : Tgt} {own : List Nat} {fi : Rho → M (List D)} {fc : Rho → M Bool} {fe : Rho → M D} {σ : St} {H : Hp} {Q : VK} (ho : ∀ i ∈ t.slots, i ∈ own) (h : RdF g (evLc own t fi fc fe) σ H Q) :
    tLc (RdI g fi) (gRd g t) (RdT g fc) (RdV g fe) own σ H Q := by
  obtain ⟨F0, H0, F, ρ, n, d, n', e, m, k⟩ := h
  obtain ⟨ds, n1, e1, e⟩ := M.bind_some e
  split at e
  case isFalse => cases e
  rename_i hz
  obtain ⟨rs, n2, e2, e⟩ := M.bind_some e
  cases e
  refine ⟨F0, H0, F, ρ, n, ds, n1, e1, m, fun J F1 H1 g1 s1 P1 wk D hD => ?_⟩
  have ne := P1.fresh hD
  have nc := ne.nh
  have hD0 := sub_none s1 hD
  refine ⟨fun i mm H => mm + i = ds.length ∧ ∃ F2 nn acc accD rest, lcGo (lcBody own t fc fe ρ) (ds.drop i) nn = some (rest, n') ∧ accD ++ rest = rs ∧ accD.length ≤ i ∧ Grow g F1 H1 F2 H ∧ H D = some (.lst acc) ∧ F2 D = none ∧ RepAll g F2 acc accD ∧ Same F2 (vis g H) ∧ PoolAt g nn H,
    ⟨ds.length, by omega, F1, n1, [], [], rs, e2, rfl, Nat.le_refl _, Grow.refl.updN hD nc, upd_same, hD0, .nil, sub_updN s1 hD0 nc, P1.upd hD⟩, ?_⟩
  rintro i mm H ⟨hm, F2, nn, acc, accD, rest, e3, e4, hl, g2, hd, hd2, ra, s2, P2⟩
  have gg := g1.trans g2
  by_cases hi : i < ds.length
  · refine .inr ?_
    obtain ⟨d, hdi⟩ : ∃ d, ds[i]? = some d := ⟨ds[i], by simp [hi]⟩
    have hdrop : ds.drop i = d :: ds.drop (i + 1) := by
      rw [List.drop_eq_getElem_cons hi]
      congr 1
      rw [List.getElem?_eq_getElem hi] at hdi
      exact Option.some.inj hdi
    rw [hdrop] at e3
    obtain ⟨r, n3, e5, e3⟩ := M.bind_some e3
    obtain ⟨rs', n4, e6, e3⟩ := M.bind_some e3
    cases e3
    obtain ⟨hgo, hy⟩ := wk.go i d F2 H nn g2.f s2 P2 hdi
    refine ⟨hgo, fun H' => ∃ F2 acc accD, accD ++ rs' = rs ∧ accD.length ≤ i + 1 ∧ Grow g F1 H1 F2 H' ∧ H' D = some (.lst acc) ∧ F2 D = none ∧ RepAll g F2 acc accD ∧ Same F2 (vis g H') ∧ PoolAt g n3 H', ?_, ?_⟩
    · rintro H' ⟨F3, acc', accD', q1, q2, q3, q4, q5, q6, q7, q8⟩
      exact ⟨mm - 1, by omega, by omega, F3, n3, acc', accD', rs', e6, q1, q2, q3, q4, q5, q6, q7, q8⟩
    · intro x H' hx
      obtain ⟨F3, g3, s3, P3, r3⟩ := hy x H' hx
      unfold lcBody at e5
      obtain ⟨ρ', n5, e7, e5a⟩ := M.bind_some e5
      obtain ⟨e8, e9⟩ := M.opt_ok e7
      simp only at e8 e9
      subst e9
      obtain ⟨c, n6, e10, e5b⟩ := M.bind_some e5a
      clear e5 e5a e7
      have m3 := ((m.grow g1 s1 P1).grow g2 s2 P2).grow g3 s3 P3
      refine ⟨F0, H0, F3, _, _, d, ρ', e8, m3.wipe own, r3, fun σ' hb m4 => ⟨?_, ?_⟩⟩
      · rw [hb own ho]
        clear hb
        exact wipe_wipe own σ
      · refine ⟨F0, H0, F3, ρ', _, c, n6, e10, m4, fun F4 H4 g4 s4 P4 => ?_⟩
        have g14 := (g2.trans g3).trans g4
        have hD4 : H4 D = some (.lst acc) := by
          have := (g3.trans g4).h D _ (by rw [vis_ne nc]; exact hd)
          rwa [vis_ne nc] at this
        have hF4 : F4 D = none := by rw [(g3.trans g4).keepF nc hd nofun]; exact hd2
        cases c with
        | false =>
          cases e5b
          refine iteF ?_
          exact ⟨F4, acc, accD, by rw [← e4]; rfl, by omega, g14, hD4, hF4, ra.mono (g3.trans g4).f, s4, P4⟩
        | true =>
          obtain ⟨y, n7, e11, e5c⟩ := M.bind_some e5b
          cases e5c
          refine iteT ⟨F0, H0, F4, ρ', n6, y, _, e11, m4.grow g4 s4 P4, fun v F5 H5 g5 s5 P5 r5 => ?_⟩
          have hD5 : H5 D = some (.lst acc) := by
            have := g5.h D _ (by rw [vis_ne nc]; exact hD4)
            rwa [vis_ne nc] at this
          have hF5 : F5 D = none := by rw [g5.keepF nc hD4 nofun]; exact hF4
          have hal := ra.length
          refine ⟨acc, hD5, by rw [← sz]; omega, F5, acc ++ [v], accD ++ [y], ?_, by simp; omega, (g14.trans g5).updN hD nc, upd_same, hF5, (ra.mono ((g3.trans g4).trans g5).f).snoc r5, sub_updN s5 hF5 nc, P5.updN ne hD5⟩
          rw [← e4]; simp
  · refine .inl ?_
    have hi' : i = ds.length := by omega
    subst hi'
    rw [List.drop_length] at e3
    cases e3
    rw [List.append_nil] at e4
    subst e4
    exact ⟨wk.stop F2 H g2.f s2, k D F2 H gg s2 P2 (g1.fresh hD) hd2 (.lst hd ra)⟩
where
  wipe_wipe : ∀ (vs : List Nat) (σ : St), L2.wipe (L2.wipe σ vs) vs = L2.wipe σ vs := fun vs σ => by
    have : ∀ (us : List Nat) (σ : St), (∀ i ∈ us, i ∈ vs) → L2.wipe (L2.wipe σ us) vs = L2.wipe σ vs := by
      intro us
      induction us with
      | nil => intro σ _; rfl
      | cons u us ih =>
        intro σ h
        show L2.wipe ((L2.wipe σ us).set u none) vs = L2.wipe σ vs
        rw [wipe_set (h u List.mem_cons_self)]
        exact ih σ fun i hi => h i (List.mem_cons_of_mem _ hi)
    exact this vs σ fun _ h => h
theorem df_lc {elt tg iter : Expr} {ifs : List Expr} {scope : Scope} {own : List (Str × Nat)} {t : Tgt} {fi : Rho → M (List D)} {fc : Rho → M Bool} {fe : Rho → M D} (hc : X.calm = true) (hN : X.N.Nodup) (hi : PI X tg iter (RdI g fi)) (ok : BlkOk X.N X.env.scope scope own)
    (hg : ∀ (s : Shared) (H : Hp) (C : Addr) (cl : List (Str × Addr)) (fp : List Addr), PG (X.blk s H scope (compEnvC scope cl C X.env) fp) tg (gRd g t)) (ht : ∀ (s : Shared) (H : Hp) (C : Addr) (cl : List (Str × Addr)) (fp : List Addr), PTs (X.blk s H scope (compEnvC scope cl C X.env) fp) ifs (RdT g fc))
    (he : ∀ (s : Shared) (H : Hp) (C : Addr) (cl : List (Str × Addr)) (fp : List Addr), PE (X.blk s H scope (compEnvC scope cl C X.env) fp) elt (RdV g fe)) (hs : ∀ x, foldedSetIterable iter X.env x = pure x) (ho : ∀ i ∈ t.slots, i ∈ own.map (·.2)) :
    PE X (.ListComp elt [⟨tg, iter, ifs, 0⟩] scope pos) (RdF g (evLc (own.map (·.2)) t fi fc fe)) :=
  pe_wk (pe_lc hc hN hi ok hg ht he hs) fun σ H Q h => tLc_of ho h
end
end Ev

set_option Elab.async false
set_option linter.all false
set_option autoImplicit false
set_option maxRecDepth 100000
/-! Ev5: iterables, statements. -/
namespace Ev
open PySem PySem.Spec PyProof.Rows L2

/-! ### iterables -/
def itemsS : D → Option (List D)
  | .lst ds => some ds
  | .tup ds => some ds
  | _ => none
def evItemsS (fa : Rho → M D) : Rho → M (List D) := fun ρ => do let d ← fa ρ; M.opt (itemsS d)
section
variable {X : Cx} {g : Gh} {tg : Expr}
theorem pi_wk {it : Expr} {t t' : TI} (h : PI X tg it t) (w : ∀ σ H Q, t' σ H Q → t σ H Q) : PI X tg it t' := ⟨fun pins s σ H Q I hw => h.run pins s σ H Q I (w σ H Q hw)⟩
def iSeq (K : PySem.W.Frag) (tl : TE) : TI := fun σ H R => tl σ H fun x H1 => ∃ a, x = .ref a ∧ (((∃ xs, SqL K H1 a xs) ∧ R (Itl K a) H1) ∨ ((∃ xs, SqT K H1 a xs) ∧ R (Itt K a) H1))
theorem pi_seq {l : Expr} {tl : TE} (hl : PE X l tl) : PI X tg l (iSeq X.K tl) := by
  refine ⟨fun pins s σ H R I h => ?_⟩
  refine thn (hl.run pins s σ H _ I h) fun v s1 ⟨x, H1, I1, r1, q1⟩ => ?_
  obtain ⟨a, e, ⟨⟨xs, hq⟩, q⟩ | ⟨⟨xs, hq⟩, q⟩⟩ := q1
  · subst e
    cases r1
    obtain ⟨its, rv, p, hz⟩ := I1.list hq
    refine wpAny_pyIter_list p.isList ?_
    refine ⟨s1.heap.objs.size, [s1.heap.objs.size], _, _, H1, rfl, I1.kept (t' := s1.toks) fun b o e => Heap.get?_push_of_some _ e, turn_list a _, ⟨_, Heap.get?_push_size _ rfl, rfl, rfl⟩, fun b hb => ?_, q⟩
    have e : b = s1.heap.objs.size := by simpa using hb
    subst e
    exact I1.fpOk (Nat.le_refl _) (I1.hok.fresh (Nat.le_refl _))
  · subst e
    cases r1
    obtain ⟨its, rv, p, hz⟩ := I1.tuple hq
    refine wpAny_pyIter_tuple (show s1.heap.IsTuple a its.toArray from p) ?_
    refine ⟨s1.heap.objs.size, [s1.heap.objs.size], _, _, H1, rfl, I1.kept (t' := s1.toks) fun b o e => Heap.get?_push_of_some _ e, turn_tuple a _, ⟨_, Heap.get?_push_size _ rfl, rfl, rfl⟩, fun b hb => ?_, q⟩
    have e : b = s1.heap.objs.size := by simpa using hb
    subst e
    exact I1.fpOk (Nat.le_refl _) (I1.hok.fresh (Nat.le_refl _))
theorem di_seqS {l : Expr} {fa : Rho → M D} (hK : X.K = g.K) (h : PE X l (RdV g fa)) : PI X tg l (RdI g (evItemsS fa)) := by
  refine pi_wk (pi_seq h) fun σ H R ⟨F0, H0, F, ρ, n, ds, n', e, m, k⟩ => ?_
  obtain ⟨d, n1, e1, e⟩ := M.bind_some e
  obtain ⟨e3, e4⟩ := M.opt_ok e
  simp only at e3 e4
  subst e4
  refine ⟨F0, H0, F, ρ, n, d, _, e1, m, fun v F' H' gr s P r => ?_⟩
  cases r <;> simp only [itemsS, reduceCtorEq, Option.some.injEq] at e3
  · rename_i a vs ds' h r
    subst e3
    refine ⟨a, rfl, .inr ⟨⟨vs, by rw [hK]; exact seqT_mono (s.trans vis_same) h⟩, ?_⟩⟩
    rw [hK]
    exact k _ F' H' gr s P (walks_tup h r)
  · rename_i a vs ds' h r
    subst e3
    exact ⟨a, rfl, .inl ⟨⟨vs, .of (s.trans vis_same a _ h)⟩, k _ F' H' gr s P (walks_list h r)⟩⟩
def range1D : List D → Option (List D)
  | [.int j] => if decide (-(2 ^ 62) ≤ j) && decide (j < 2 ^ 62) then some (rangeD 0 j.toNat) else none
  | _ => none
def range2D : List D → Option (List D)
  | [.int i, .int j] => if decide (-(2 ^ 62) ≤ i) && decide (i < 2 ^ 62) && decide (-(2 ^ 62) ≤ j) && decide (j < 2 ^ 62) then some (rangeD i (j - i).toNat) else none
  | _ => none
def evIt (op : List D → Option (List D)) (fr : Rho → M (List D)) : Rho → M (List D) := fun ρ => do let xs ← fr ρ; M.opt (op xs)
theorem di_range1 {a : Expr} {p pos : Pos} {fr : Rho → M (List D)} (hg : Gl X "range") (hm : X.mg "range" = none) (ha : PA X [a] (RdA g fr)) (hs : starEach [a] X.env = [(false, eval a X.env)]) : PI X tg (.Call (.Name "range" p) [a] [] pos) (RdI g (evIt range1D fr)) := by
  refine pi_wk (pi_range1 hg hm ha hs) fun σ H R ⟨F0, H0, F, ρ, n, ds, n', e, m, k⟩ => ?_
  obtain ⟨xs, n1, e1, e⟩ := M.bind_some e
  obtain ⟨e3, e4⟩ := M.opt_ok e
  simp only at e3 e4
  subst e4
  refine ⟨F0, H0, F, ρ, n, xs, _, e1, m, fun vs F' H' gr s P r => ?_⟩
  unfold range1D at e3
  split at e3
  · rename_i j
    split at e3
    case isFalse => cases e3
    rename_i h
    cases e3
    simp only [Bool.and_eq_true, decide_eq_true_eq] at h
    cases r with
    | cons r t =>
      cases t
      cases r
      exact ⟨j, rfl, h.1, h.2, k _ F' H' gr s P walks_range⟩
  · cases e3
theorem di_range2 {a b : Expr} {p pos : Pos} {fr : Rho → M (List D)} (hg : Gl X "range") (hm : X.mg "range" = none) (ha : PA X [a, b] (RdA g fr)) (hs : starEach [a, b] X.env = [(false, eval a X.env), (false, eval b X.env)]) (hs2 : starEach [b] X.env = [(false, eval b X.env)]) :
    PI X tg (.Call (.Name "range" p) [a, b] [] pos) (RdI g (evIt range2D fr)) := by
  refine pi_wk (pi_range2 hg hm ha hs hs2) fun σ H R ⟨F0, H0, F, ρ, n, ds, n', e, m, k⟩ => ?_
  obtain ⟨xs, n1, e1, e⟩ := M.bind_some e
  obtain ⟨e3, e4⟩ := M.opt_ok e
  simp only at e3 e4
  subst e4
  refine ⟨F0, H0, F, ρ, n, xs, _, e1, m, fun vs F' H' gr s P r => ?_⟩
  unfold range2D at e3
  split at e3
  · rename_i i j
    split at e3
    case isFalse => cases e3
    rename_i h
    cases e3
    simp only [Bool.and_eq_true, decide_eq_true_eq] at h
    cases r with
    | cons r t =>
      cases r
      cases t with
      | cons r t =>
        cases t
        cases r
        exact ⟨i, j, rfl, ⟨h.1.1.1, h.1.1.2, h.1.2, h.2⟩, k _ F' H' gr s P walks_range⟩
  · cases e3
/-- zip of two lists or of two tuples -/
def zipD : List D → Option (List D)
  | [.lst xs, .lst ys] => some ((xs.zip ys).map fun p => .tup [p.1, p.2])
  | [.tup xs, .tup ys] => some ((xs.zip ys).map fun p => .tup [p.1, p.2])
  | _ => none
theorem walks_zipG {J : It} {F : Hp} {vs ws : List V} {ds es : List D} (rv : RepAll g F vs ds) (rw' : RepAll g F ws es)
    (hst : ∀ F1 H, Same F F1 → Same F1 (vis g H) → ∀ i, i = min vs.length ws.length → J.stop i H)
    (hgo : ∀ F1 H, Same F F1 → Same F1 (vis g H) → ∀ (i : Nat) v w, vs[i]? = some v → ws[i]? = some w → J.go i H)
    (hy : ∀ F1 H, Same F F1 → Same F1 (vis g H) → ∀ i x H' v w, vs[i]? = some v → ws[i]? = some w → J.yld i H x H' → ∃ T, x = .ref T ∧ H T = Option.none ∧ H' = upd H T (.tup [v, w])) :
    Walks g J F ((ds.zip es).map fun p => .tup [p.1, p.2]) := by
  refine ⟨fun F1 H s1 s2 => hst F1 H s1 s2 _ (by simp [rv.length, rw'.length]), fun i d F1 H n s1 s2 P e => ?_⟩
  simp only [List.getElem?_map, Option.map_eq_some_iff] at e
  obtain ⟨⟨d1, d2⟩, e, rfl⟩ := e
  rw [List.getElem?_zip_eq_some] at e
  obtain ⟨v, hv, r1⟩ := rv.get e.1
  obtain ⟨w, hw, r2⟩ := rw'.get e.2
  refine ⟨hgo F1 H s1 s2 i v w hv hw, fun x H' q => ?_⟩
  obtain ⟨T, rfl, hT, rfl⟩ := hy F1 H s1 s2 i x H' v w hv hw q
  exact ⟨upd F1 T (.tup [v, w]), Grow.newF s2 P hT, sub_newF s2 P hT, P.upd hT, .tup (.of upd_same) (.cons ((r1.mono s1).mono (same_upd (sub_none s2 hT))) (.cons ((r2.mono s1).mono (same_upd (sub_none s2 hT))) .nil))⟩
theorem di_zip {a b : Expr} {p pos tpos : Pos} {elts : List Expr} {kk : Nat} {fr : Rho → M (List D)} (hK : X.K = g.K) (hg : Gl X "zip") (hm : X.mg "zip" = none) (ha : PA X [a, b] (RdA g fr))
    (hs : starEach [a, b] X.env = (false, eval a X.env) :: starEach [b] X.env) (hpl : (backTo pos (starEach [b] X.env)).any (·.1) = false) :
    PI X (.Tuple elts kk tpos) (.Call (.Name "zip" p) [a, b] [] pos) (RdI g (evIt zipD fr)) := by
  refine pi_wk (RZ.pi_zipA hg hm ha hs hpl) fun σ H R ⟨F0, H0, F, ρ, n, ds, n', e, m, k⟩ => ?_
  obtain ⟨xs, n1, e1, e⟩ := M.bind_some e
  obtain ⟨e3, e4⟩ := M.opt_ok e
  simp only at e3 e4
  subst e4
  refine ⟨F0, H0, F, ρ, n, xs, _, e1, m, fun vs F' H' gr s P r => ?_⟩
  unfold zipD at e3
  split at e3
  · rename_i xs ys
    cases e3
    cases r with
    | cons r t =>
      cases t with
      | cons r2 t =>
        cases t
        cases r with
        | @lst _ a' vs _ h1 q1 =>
        cases r2 with
        | @lst _ b' ws _ h2 q2 =>
        have hh1 := s.trans vis_same a' _ h1
        have hh2 := s.trans vis_same b' _ h2
        refine ⟨a', b', vs, ws, rfl, .inl ⟨.of hh1, .of hh2, k _ F' H' gr s P (walks_zipG q1 q2 ?_ ?_ ?_)⟩⟩
        · intro F1 H s1 s2 i hi
          have t1 : SqL X.K H a' vs := .of ((s1.trans s2).trans vis_same a' _ h1)
          have t2 : SqL X.K H b' ws := .of ((s1.trans s2).trans vis_same b' _ h2)
          exact ⟨vs, ws, t1, t2, by omega⟩
        · intro F1 H s1 s2 i v w hv hw
          have t1 : SqL X.K H a' vs := .of ((s1.trans s2).trans vis_same a' _ h1)
          have t2 : SqL X.K H b' ws := .of ((s1.trans s2).trans vis_same b' _ h2)
          exact ⟨vs, ws, v, w, t1, t2, hv, hw⟩
        · rintro F1 H s1 s2 i x H' v w hv hw ⟨T, x', y', e1, e2, e3, e4, e5⟩
          have t1 : SqL X.K H a' vs := .of ((s1.trans s2).trans vis_same a' _ h1)
          have t2 : SqL X.K H b' ws := .of ((s1.trans s2).trans vis_same b' _ h2)
          have e4 := e4 vs t1
          have e5 := e5 ws t2
          rw [hv] at e4; rw [hw] at e5
          cases e4; cases e5
          exact ⟨T, e1, e2, e3⟩
  · rename_i xs ys
    cases e3
    cases r with
    | cons r t =>
      cases t with
      | cons r2 t =>
        cases t
        cases r with
        | @tup _ a' vs _ h1 q1 =>
        cases r2 with
        | @tup _ b' ws _ h2 q2 =>
        rw [← hK] at h1 h2
        have hh1 := seqT_mono (s.trans vis_same) h1
        have hh2 := seqT_mono (s.trans vis_same) h2
        refine ⟨a', b', vs, ws, rfl, .inr ⟨hh1, hh2, k _ F' H' gr s P (walks_zipG q1 q2 ?_ ?_ ?_)⟩⟩
        · intro F1 H s1 s2 i hi
          exact ⟨vs, ws, seqT_mono ((s1.trans s2).trans vis_same) h1, seqT_mono ((s1.trans s2).trans vis_same) h2, by omega⟩
        · intro F1 H s1 s2 i v w hv hw
          exact ⟨vs, ws, v, w, seqT_mono ((s1.trans s2).trans vis_same) h1, seqT_mono ((s1.trans s2).trans vis_same) h2, hv, hw⟩
        · rintro F1 H s1 s2 i x H' v w hv hw ⟨T, x', y', e1, e2, e3, e4, e5⟩
          have e4 := e4 vs (seqT_mono ((s1.trans s2).trans vis_same) h1)
          have e5 := e5 ws (seqT_mono ((s1.trans s2).trans vis_same) h2)
          rw [hv] at e4; rw [hw] at e5
          cases e4; cases e5
          exact ⟨T, e1, e2, e3⟩
  · cases e3
end

/-! ### statements -/
inductive Out where
  | nx (ρ : Rho) | rt (d : D) | bk (ρ : Rho) | ct (ρ : Rho)
def OutOk (g : Gh) (F0 H0 F : Hp) (n' : Nat) (E : Ends) : Out → Prop
  | .nx ρ' => ∀ F' σ' H', Same F F' → Mdl g F0 H0 F' ρ' n' σ' H' → E.nx σ' H'
  | .bk ρ' => ∀ F' σ' H', Same F F' → Mdl g F0 H0 F' ρ' n' σ' H' → E.bk σ' H'
  | .ct ρ' => ∀ F' σ' H', Same F F' → Mdl g F0 H0 F' ρ' n' σ' H' → E.ct σ' H'
  | .rt d => ∀ v F' H', Grow g F0 H0 F' H' → Same F' (vis g H') → PoolAt g n' H' → Rep g F' v d → E.rt v H'
def RdS (g : Gh) (f : Rho → M Out) : TS := fun E σ H => ∃ F0 H0 F ρ n o n', f ρ n = some (o, n') ∧ Mdl g F0 H0 F ρ n σ H ∧ OutOk g F0 H0 F n' E o
theorem OutOk.mono {g : Gh} {F0 H0 F F1 : Hp} {n' : Nat} {E : Ends} {o : Out} (h : OutOk g F0 H0 F n' E o) (s : Same F F1) : OutOk g F0 H0 F1 n' E o := by
  cases o with
  | nx ρ => exact fun F' σ' H' s' m => h F' σ' H' (s.trans s') m
  | bk ρ => exact fun F' σ' H' s' m => h F' σ' H' (s.trans s') m
  | ct ρ => exact fun F' σ' H' s' m => h F' σ' H' (s.trans s') m
  | rt d => exact h
def xNext : Rho → M Out := fun ρ => pure (.nx ρ)
def xSeq (fa fb : Rho → M Out) : Rho → M Out := fun ρ => do
  let o ← fa ρ
  match o with
  | .nx ρ' => fb ρ'
  | .rt d => pure (.rt d)
  | .bk ρ' => pure (.bk ρ')
  | .ct ρ' => pure (.ct ρ')
def xRet (fe : Rho → M D) : Rho → M Out := fun ρ => do let d ← fe ρ; pure (.rt d)
def xAsg (t : Tgt) (fe : Rho → M D) : Rho → M Out := fun ρ => do let d ← fe ρ; let ρ' ← M.opt (bindT t d ρ); pure (.nx ρ')
def xOwn (i : Nat) (fe : Rho → M D) : Rho → M Out := fun ρ => do let d ← fe ρ; pure (.nx (ρ.set i (.own d)))
def xIf (fc : Rho → M Bool) (fa fb : Rho → M Out) : Rho → M Out := fun ρ => do let c ← fc ρ; if c then fa ρ else fb ρ
def xFrz (i : Nat) : Rho → M Out := fun ρ n => match ρ[i]? with
  | some (.own d) => some (.nx (ρ.set i (.val d)), n)
  | _ => some (.nx ρ, n)
def appR (ρ : Rho) (i : Nat) (d : D) : Option Rho := match ρ[i]? with
  | some (.own (.lst ds)) => if ds.length < 16777216 then some (ρ.set i (.own (.lst (ds ++ [d])))) else none
  | _ => none
def xApp (i : Nat) (fe : Rho → M D) : Rho → M Out := fun ρ => do
  let d ← fe ρ
  let ρ' ← M.opt (appR ρ i d)
  pure (.nx ρ')
def setR (ρ : Rho) (i : Nat) (k d : D) : Option Rho := match ρ[i]?, k with
  | some (.own (.lst ds)), .int k => (ixN ds.length k).map fun j => ρ.set i (.own (.lst (ds.set j d)))
  | _, _ => none
def xSet (i : Nat) (fi fe : Rho → M D) : Rho → M Out := fun ρ => do
  let d ← fe ρ
  let k ← fi ρ
  let ρ' ← M.opt (setR ρ i k d)
  pure (.nx ρ')
def xDrop (fe : Rho → M D) : Rho → M Out := fun ρ => do let _ ← fe ρ; pure (.nx ρ)
def xBreak : Rho → M Out := fun ρ => pure (.bk ρ)
def xCont : Rho → M Out := fun ρ => pure (.ct ρ)
def forGo (fb : D → Rho → M Out) : List D → Rho → M Out
  | [], ρ => pure (.nx ρ)
  | d :: ds, ρ => do
    let o ← fb d ρ
    match o with
    | .nx ρ' => forGo fb ds ρ'
    | .ct ρ' => forGo fb ds ρ'
    | .bk ρ' => pure (.nx ρ')
    | .rt r => pure (.rt r)
def forBody (t : Tgt) (fb : Rho → M Out) (d : D) (ρ : Rho) : M Out := do let ρ' ← M.opt (bindT t d ρ); fb ρ'
def xFor (t : Tgt) (fi : Rho → M (List D)) (fb : Rho → M Out) : Rho → M Out := fun ρ => do let ds ← fi ρ; forGo (forBody t fb) ds ρ
def whileGo (fc : Rho → M Bool) (fb : Rho → M Out) : Nat → Rho → M Out
  | 0, _ => M.fail
  | k + 1, ρ => do
    let c ← fc ρ
    if c then (do
      let o ← fb ρ
      match o with
      | .nx ρ' => whileGo fc fb k ρ'
      | .ct ρ' => whileGo fc fb k ρ'
      | .bk ρ' => pure (.nx ρ')
      | .rt r => pure (.rt r)) else pure (.nx ρ)
def WFUEL : Nat := 1000000000
def xWhile (fc : Rho → M Bool) (fb : Rho → M Out) : Rho → M Out := whileGo fc fb WFUEL
/-- op= on ints -/
def augD : BinO → D → D → Option D
  | .add, .int i, .int j => some (.int (i + j))
  | .sub, .int i, .int j => some (.int (i - j))
  | _, _, _ => none
def xAug (i : Nat) (o : BinO) (fe : Rho → M D) : Rho → M Out := fun ρ => do
  let x ← getV i ρ
  let d ← fe ρ
  let y ← M.opt (augD o x d)
  pure (.nx (ρ.set i (.val y)))

section
variable {g : Gh} {F0 H0 F H : Hp} {ρ : Rho} {n : Nat} {σ : St}
/-- what is open is written -/
theorem Mdl.writeO {i : Nat} {a : Addr} {d d' : D} {w u : HO} (m : Mdl g F0 H0 F ρ n σ H) (e : ρ[i]? = some (.own d)) (ha : σ[i]? = some (some (.ref a))) (hf : F a = Option.none) (h0 : H0 a = Option.none) (hw : H a = some w) (hc : ∀ c q, w ≠ LamX.CodeO c q) (r : Own g F (upd H a u) a d') :
    Mdl g F0 H0 F (ρ.set i (.own d')) n σ (upd H a u) := by
  have ne := H0_ne m.p0 h0
  have nc := ne.nh
  refine ⟨m.gr.updN h0 nc, m.p0, sub_updN m.sub hf nc, m.pool.updN ne hw hc, by simp [m.len], fun j sl e' => ?_, fun j k dj dk b e1 e2 e3 e4 => ?_⟩
  · rw [List.getElem?_set] at e'
    by_cases h : i = j
    · subst h
      rw [if_pos rfl] at e'
      split at e'
      · cases e'
        exact ⟨a, ha, r, hf, h0⟩
      · cases e'
    · rw [if_neg h] at e'
      have q := m.slot j sl e'
      cases sl with
      | un => trivial
      | val d => exact q
      | own d =>
        obtain ⟨b, e1, o, f, z⟩ := q
        have nb : b ≠ a := by
          rintro rfl
          exact h (m.dis i j _ _ b e e' ha e1)
        exact ⟨b, e1, o.at (upd_ne nb), f, z⟩
      | lam k => exact q
      | slf d =>
        obtain ⟨C, dx, c, ns, vs, ds, e0, e1, e2, e3, e4⟩ := q
        obtain ⟨b, ha', o, _⟩ := m.slot i _ e
        rw [ha] at ha'
        cases ha'
        exact ⟨C, dx, c, ns, vs, ds, e0, e1, e2, by rw [upd_ne (fun z => by rw [z] at e3; exact o.noIns e3)]; exact e3, e4⟩
  · have f1 : ∀ (j : Nat) (dj : D), (ρ.set i (.own d'))[j]? = some (.own dj) → ∃ dj, ρ[j]? = some (Sl.own dj) := fun j dj q => by
      rw [List.getElem?_set] at q
      by_cases h : i = j
      · subst h; exact ⟨_, e⟩
      · rw [if_neg h] at q; exact ⟨_, q⟩
    obtain ⟨_, q1⟩ := f1 j dj e1
    obtain ⟨_, q2⟩ := f1 k dk e2
    exact m.dis j k _ _ b q1 q2 e3 e4
/-- an open list written -/
theorem Mdl.write {i : Nat} {a : Addr} {d : D} {ws ws' : List V} {es : List D} (m : Mdl g F0 H0 F ρ n σ H) (e : ρ[i]? = some (.own d)) (ha : σ[i]? = some (some (.ref a))) (hf : F a = Option.none) (h0 : H0 a = Option.none) (hw : H a = some (.lst ws')) (r : RepAll g F ws es) :
    Mdl g F0 H0 F (ρ.set i (.own (.lst es))) n σ (upd H a (.lst ws)) := m.writeO e ha hf h0 hw (fun _ _ z => nomatch z) (.lst upd_same r)
/-- what is open is frozen -/
theorem Mdl.freeze {i : Nat} {d : D} (m : Mdl g F0 H0 F ρ n σ H) (e : ρ[i]? = some (.own d)) : ∃ a u, Own g F H a d ∧ H a = some u ∧ Mut (some u) ∧ ∀ od, ∃ F', Same F F' ∧ Mdl g F0 H0 F' (ρ.set i (.val d)) n σ (upd H a (frzO od u)) := by
  obtain ⟨a, ha, o, hf, h0⟩ := m.slot i _ e
  obtain ⟨u, hu, hc, mu⟩ := o.any
  have ne := H0_ne m.p0 h0
  have nc := ne.nh
  refine ⟨a, u, o, hu, mu, fun od => ?_⟩
  have sf : Same F (upd F a (frzO od u)) := same_upd hf
  refine ⟨upd F a (frzO od u), sf, (m.gr.change h0 nc).freeze h0 hf, m.p0, sub_frz2 m.sub hf nc, m.pool.updN ne hu hc, by simp [m.len], fun j sl e' => ?_, fun j k dj dk b e1 e2 e3 e4 => ?_⟩
  · rw [List.getElem?_set] at e'
    by_cases h : i = j
    · subst h
      rw [if_pos rfl] at e'
      split at e'
      · cases e'
        exact ⟨_, ha, o.freeze hu sf upd_same⟩
      · cases e'
    · rw [if_neg h] at e'
      have q := m.slot j sl e'
      cases sl with
      | un => trivial
      | val d =>
        obtain ⟨v, e1, q⟩ := q
        exact ⟨v, e1, q.mono sf⟩
      | own d =>
        obtain ⟨b, e1, o', f, z⟩ := q
        have nb : b ≠ a := by
          rintro rfl
          exact h (m.dis i j _ _ b e e' ha e1)
        exact ⟨b, e1, (o'.at (upd_ne nb)).mono sf, by rw [upd_ne nb]; exact f, z⟩
      | lam k =>
        obtain ⟨f, c', L, pm, ctv, e1, e2, e3, e4⟩ := q
        exact ⟨f, c', L, pm, ctv, e1, e2, sf _ _ e3, sf _ _ e4⟩
      | slf d =>
        obtain ⟨C, dx, c, ns, vs, ds, e0, e1, e2, e3, e4, e5, e6, e7⟩ := q
        have nb : g.slf ≠ a := fun z => by rw [z] at e3; exact o.noIns e3
        exact ⟨C, dx, c, ns, vs, ds, e0, e1, e2, by rw [upd_ne nb]; exact e3, e4, e5.mono sf, by rw [upd_ne nb]; exact e6, e7⟩
  · have f1 : ∀ (j : Nat) (dj : D), (ρ.set i (.val d))[j]? = some (.own dj) → ρ[j]? = some (.own dj) := fun j dj q => by
      rw [List.getElem?_set] at q
      by_cases h : i = j
      · subst h; rw [if_pos rfl] at q; split at q <;> cases q
      · rw [if_neg h] at q; exact q
    exact m.dis j k _ _ b (f1 j dj e1) (f1 k dk e2) e3 e4
/-- a new open list at a name -/
theorem Mdl.setOwn {F' H' : Hp} {n' : Nat} {i : Nat} {a : Addr} {d : D} (m : Mdl g F0 H0 F ρ n σ H) (gr : Grow g F H F' H') (s : Same F' (vis g H')) (P : PoolAt g n' H') (hn : H a = Option.none) (hf : F' a = Option.none) (o : Own g F' H' a d) :
    Mdl g F0 H0 F' (ρ.set i (.own d)) n' (σ.set i (some (.ref a))) H' := by
  have m' := m.grow gr s P
  refine ⟨m'.gr, m'.p0, s, P, by simp [m.len], fun j sl e' => ?_, fun j k dj dk b e1 e2 e3 e4 => ?_⟩
  · rw [List.getElem?_set] at e'
    by_cases h : i = j
    · subst h
      rw [if_pos rfl] at e'
      split at e'
      · rename_i hl
        cases e'
        exact ⟨a, by rw [List.getElem?_set_self (by rw [← m.len]; exact hl)], o, hf, m.gr.fresh hn⟩
      · cases e'
    · rw [if_neg h] at e'
      rw [List.getElem?_set_ne h]
      exact m'.slot j sl e'
  · have old : ∀ (j : Nat) (dj : D), i ≠ j → (ρ.set i (.own d))[j]? = some (.own dj) → (σ.set i (some (.ref a)))[j]? = some (some (.ref b)) → ρ[j]? = some (.own dj) ∧ σ[j]? = some (some (.ref b)) ∧ (H b).isSome = true := fun j dj h q1 q2 => by
      rw [List.getElem?_set, if_neg h] at q1
      rw [List.getElem?_set_ne h] at q2
      obtain ⟨b', z1, z2, z3, z4⟩ := m.slot j _ q1
      rw [q2] at z1; cases z1
      exact ⟨q1, q2, z2.isSome⟩
    have self : ∀ (j : Nat), i = j → (σ.set i (some (.ref a)))[j]? = some (some (.ref b)) → b = a := fun j h q => by
      subst h
      rw [List.getElem?_set] at q
      simp only [if_true] at q
      split at q
      · cases q; rfl
      · cases q
    by_cases h1 : i = j
    · by_cases h2 : i = k
      · omega
      · have := self j h1 e3
        subst this
        obtain ⟨_, _, z⟩ := old k dk h2 e2 e4
        rw [hn] at z; cases z
    · by_cases h2 : i = k
      · have := self k h2 e4
        subst this
        obtain ⟨_, _, z⟩ := old j dj h1 e1 e3
        rw [hn] at z; cases z
      · obtain ⟨z1, z2, _⟩ := old j dj h1 e1 e3
        obtain ⟨z3, z4, _⟩ := old k dk h2 e2 e4
        exact m.dis j k _ _ b z1 z3 z2 z4
end

section
variable {X : Cx} {g : Gh} {st : Stmt} {rest : List Stmt} {e : Expr} {pos : Pos} {fa fb : Rho → M Out} {fe fi : Rho → M D}
theorem xs_nil : PSs X [] (RdS g xNext) := pss_wk pss_nil fun E σ H ⟨F0, H0, F, ρ, n, o, n', e, m, k⟩ => by
  cases e
  exact k F σ H (Same.refl _) m
theorem seq_nx {E : Ends} {F0 H0 F : Hp} {ρ : Rho} {n n' : Nat} {σ : St} {H : Hp} {o : Out} (e : xSeq fa fb ρ n = some (o, n')) (m : Mdl g F0 H0 F ρ n σ H) (k : OutOk g F0 H0 F n' E o) :
    RdS g fa { E with nx := RdS g fb E } σ H := by
  obtain ⟨o1, n1, e1, e⟩ := M.bind_some e
  refine ⟨F0, H0, F, ρ, n, o1, n1, e1, m, ?_⟩
  cases o1 with
  | nx ρ' => exact fun F' σ' H' s m' => ⟨F0, H0, F', ρ', n1, o, n', e, m', k.mono s⟩
  | rt d => cases e; exact k
  | bk ρ' => cases e; exact k
  | ct ρ' => cases e; exact k
theorem xs_cons (h1 : PS X st (RdS g fa)) (h2 : PSs X rest (RdS g fb)) : PSs X (st :: rest) (RdS g (xSeq fa fb)) :=
  pss_wk (pss_cons h1 h2) fun E σ H ⟨F0, H0, F, ρ, n, o, n', e, m, k⟩ => seq_nx e m k
theorem xs_frz {i : Nat} (h2 : PSs X rest (RdS g fb)) : PSs X rest (RdS g (xSeq (xFrz i) fb)) := by
  refine ⟨fun pins s σ H D I ⟨F0, H0, F, ρ, n, o, n', e, m, k⟩ => ?_⟩
  obtain ⟨o1, n1, e1, e⟩ := M.bind_some e
  unfold xFrz at e1
  split at e1
  · rename_i d hd
    cases e1
    obtain ⟨a, u, _, hu, mu, q⟩ := m.freeze hd
    obtain ⟨od, I2⟩ := Inv.frz I hu mu
    obtain ⟨F', s', m'⟩ := q od
    exact h2.run pins _ σ _ D I2 ⟨F0, H0, F', _, n, o, n', e, m', k.mono s'⟩
  · cases e1
    exact h2.run pins _ σ _ D I ⟨F0, H0, F, _, n, o, n', e, m, k⟩
theorem x_pass : PS X (.Pass pos) (RdS g xNext) := ps_wk ps_pass fun E σ H ⟨F0, H0, F, ρ, n, o, n', e, m, k⟩ => by
  cases e
  exact k F σ H (Same.refl _) m
theorem x_break : PS X (.Break pos) (RdS g xBreak) := ps_wk ps_break fun E σ H ⟨F0, H0, F, ρ, n, o, n', e, m, k⟩ => by
  cases e
  exact k F σ H (Same.refl _) m
theorem x_cont : PS X (.Continue pos) (RdS g xCont) := ps_wk ps_continue fun E σ H ⟨F0, H0, F, ρ, n, o, n', e, m, k⟩ => by
  cases e
  exact k F σ H (Same.refl _) m
theorem x_ret (he : PE X e (RdV g fe)) : PS X (.Return (some e) pos) (RdS g (xRet fe)) := ps_wk (ps_ret he) fun E σ H ⟨F0, H0, F, ρ, n, o, n', e, m, k⟩ => by
  obtain ⟨d, n1, e1, e⟩ := M.bind_some e
  cases e
  exact ⟨F0, H0, F, ρ, n, d, _, e1, m, fun v F' H' gr s P r => k v F' H' (m.gr.trans gr) s P r⟩
theorem x_drop (he : PE X e (RdV g fe)) (hs : swapsWith e none pos.line X.env = pure false) : PS X (.Expr e pos) (RdS g (xDrop fe)) := ps_wk (ps_expr he hs) fun E σ H ⟨F0, H0, F, ρ, n, o, n', e, m, k⟩ => by
  obtain ⟨d, n1, e1, e⟩ := M.bind_some e
  cases e
  exact ⟨F0, H0, F, ρ, n, d, _, e1, m, fun v F' H' gr s P r => k F' σ H' gr.f (m.grow gr s P)⟩
theorem x_if {c : Expr} {a b : List Stmt} {fc : Rho → M Bool} (hc : PT X c (RdT g fc)) (ha : PSs X a (RdS g fa)) (hb : PSs X b (RdS g fb)) : PS X (.If c a b pos) (RdS g (xIf fc fa fb)) := ps_wk (ps_if hc ha hb) fun E σ H ⟨F0, H0, F, ρ, n, o, n', e, m, k⟩ => by
  obtain ⟨c, n1, e1, e⟩ := M.bind_some e
  refine ⟨F0, H0, F, ρ, n, c, n1, e1, m, fun F' H' gr s P => ?_⟩
  cases c with
  | true => exact iteT ⟨F0, H0, F', ρ, n1, o, n', e, m.grow gr s P, k.mono gr.f⟩
  | false => exact iteF ⟨F0, H0, F', ρ, n1, o, n', e, m.grow gr s P, k.mono gr.f⟩
theorem tAsg_of {t : Tgt} {E : Ends} {σ : St} {H : Hp} (h : RdS g (xAsg t fe) E σ H) : tAsg (RdV g fe) (gRd g t) E σ H := by
  obtain ⟨F0, H0, F, ρ, n, o, n', e, m, k⟩ := h
  obtain ⟨d, n1, e1, e⟩ := M.bind_some e
  obtain ⟨ρ', n2, e2, e⟩ := M.bind_some e
  cases e
  obtain ⟨e3, e4⟩ := M.opt_ok e2
  simp only at e3 e4
  subst e4
  exact ⟨F0, H0, F, ρ, n, d, _, e1, m, fun v F' H' gr s P r => ⟨F0, H0, F', ρ, _, d, ρ', e3, m.grow gr s P, r, fun σ' _ m' => k F' σ' H' gr.f m'⟩⟩
theorem x_asg {tg : Expr} {t : Tgt} (he : PE X e (RdV g fe)) (hg : PG X tg (gRd g t)) (hs : swapsWithSole [tg] e pos.line X.env = pure false) (hw : swappedStores [tg] e X.env = pure none) (h1 : (assignEach [tg] X.env).map (·.2) = [assign tg X.env]) :
    PS X (.Assign [tg] e pos) (RdS g (xAsg t fe)) := ps_wk (ps_asg he hg hs hw h1) fun E σ H h => tAsg_of h
theorem tOwn_of {i : Nat} {E : Ends} {σ : St} {H : Hp} (h : RdS g (xOwn i fe) E σ H) : tAsg (RdF g fe) (gName i) E σ H := by
  obtain ⟨F0, H0, F, ρ, n, o, n', e, m, k⟩ := h
  obtain ⟨d, n1, e1, e⟩ := M.bind_some e
  cases e
  exact ⟨F0, H0, F, ρ, n, d, _, e1, m, fun a F' H' gr s P hn hf o => k F' _ H' gr.f (m.setOwn gr s P hn hf o)⟩
theorem x_own {i : Nat} {x : Str} {pos' : Pos} (hN : X.N.Nodup) (hi : X.N[i]? = some x) (hx : Loc X.env.scope x) (he : PE X e (RdF g fe)) (hs : swapsWith e (some (.Name x pos')) pos.line X.env = pure false) (hf : X.fn x = true ∨ X.env.scope.names.lookup x = some .local) :
    PS X (.Assign [.Name x pos'] e pos) (RdS g (xOwn i fe)) := ps_wk (ps_set hN hi hx he hs hf) fun E σ H h => tOwn_of h
/-- name = [..], frozen at once -/
theorem tAsgF_of {i : Nat} {E : Ends} {σ : St} {H : Hp} (hL : ∀ ρ n d n', fe ρ n = some (d, n') → ∃ ds, d = .lst ds) (h : RdS g (xAsg (.nm i) fe) E σ H) : tAsg (RdF g fe) (gName i) E σ H := by
  obtain ⟨F0, H0, F, ρ, n, o, n', e, m, k⟩ := h
  obtain ⟨d, n1, e1, e⟩ := M.bind_some e
  obtain ⟨ρ', n2, e2, e⟩ := M.bind_some e
  cases e
  cases e2
  refine ⟨F0, H0, F, ρ, n, d, _, e1, m, fun a F' H' gr s P hn hf o => ?_⟩
  have m' := m.setOwn (i := i) gr s P hn hf o
  by_cases hi : i < ρ.length
  · obtain ⟨ds, rfl⟩ := hL _ _ _ _ e1
    obtain ⟨b, u, o', hu, mu, q⟩ := m'.freeze (i := i) (d := .lst ds) (by rw [List.getElem?_set_self hi])
    obtain ⟨F2, s2, m2⟩ := q default
    rw [List.set_set] at m2
    have hH : L2.upd H' b (frzO default u) = H' := frzO_id hu (fun od u' z => ?_)
    · rw [hH] at m2
      exact k F2 _ H' (gr.f.trans s2) m2
    · cases o' with
      | lst h _ => rw [h] at hu; cases hu; cases z
  · have e1 : ∀ x : Sl, ρ.set i x = ρ := fun x => List.set_eq_of_length_le (by omega)
    rw [e1] at m'
    refine k F' _ H' gr.f ?_
    rw [e1]
    exact m'
/-- a comprehension stored by its own statement -/
theorem x_setLc {own' : Bool} {i : Nat} {y : Str} {py : Pos} {elt tg iter : Expr} {ifs : List Expr} {scope : Scope} {own : List (Str × Nat)} {pos' spos : Pos} {t : Tgt} {fit : Rho → M (List D)} {fc : Rho → M Bool} (hc : X.calm = true) (hN : X.N.Nodup) (hy : X.N[i]? = some y) (hyl : X.env.scope.names.lookup y = some .local)
    (hsw : swapsWith (.ListComp elt [⟨tg, iter, ifs, 0⟩] scope pos') (some (.Name y py)) spos.line X.env = pure true) (hi : PI X tg iter (RdI g fit)) (ok : BlkOk X.N X.env.scope scope own)
    (hg : ∀ (s : Shared) (H : Hp) (C : Addr) (cl : List (Str × Addr)) (fp : List Addr), PG (X.blk s H scope (compEnvC scope cl C X.env) fp) tg (gRd g t)) (ht : ∀ (s : Shared) (H : Hp) (C : Addr) (cl : List (Str × Addr)) (fp : List Addr), PTs (X.blk s H scope (compEnvC scope cl C X.env) fp) ifs (RdT g fc))
    (he : ∀ (s : Shared) (H : Hp) (C : Addr) (cl : List (Str × Addr)) (fp : List Addr), PE (X.blk s H scope (compEnvC scope cl C X.env) fp) elt (RdV g fe)) (hs : ∀ x, foldedSetIterable iter X.env x = pure x) (ho : ∀ i ∈ t.slots, i ∈ own.map (·.2)) :
    PS X (.Assign [.Name y py] (.ListComp elt [⟨tg, iter, ifs, 0⟩] scope pos') spos) (RdS g (if own' = true then xOwn i (evLc (own.map (·.2)) t fit fc fe) else xAsg (.nm i) (evLc (own.map (·.2)) t fit fc fe))) := by
  refine ps_wk (ps_setLc hc hN hy hyl hsw hi ok hg ht he hs) fun E σ H h => ?_
  have go : tAsg (RdF g (evLc (own.map (·.2)) t fit fc fe)) (gName i) E σ H := by
    cases own' with
    | true => exact tOwn_of h
    | false =>
      refine tAsgF_of (fun ρ n d n' e => ?_) h
      obtain ⟨ds, n1, e1, e⟩ := M.bind_some e
      split at e
      · obtain ⟨rs, n2, e2, e⟩ := M.bind_some e
        cases e
        exact ⟨_, rfl⟩
      · cases e
  exact tLc_of ho go
theorem rdP_name {i : Nat} {F0 H0 F : Hp} {ρ : Rho} {n : Nat} {σ : St} {H : Hp} {ds : List D} (m : Mdl g F0 H0 F ρ n σ H) (e : ρ[i]? = some (.own (.lst ds))) : ∃ a vs, σ[i]? = some (some (.ref a)) ∧ H a = some (.lst vs) ∧ RepAll g F vs ds ∧ F a = Option.none ∧ H0 a = Option.none := by
  obtain ⟨a, ha, o, hf, h0⟩ := m.slot i _ e
  cases o with
  | lst hh r => exact ⟨a, _, ha, hh, r, hf, h0⟩
/-- behind an expression: the open list as it stood -/
theorem own_after {H0 F F' H H' : Hp} {vs : List V} {ds : List D} {a : Addr} (p0 : P0 g H0) (h0 : H0 a = Option.none) (hh : H a = some (.lst vs)) (r : RepAll g F vs ds) (hf : F a = Option.none) (gr : Grow g F H F' H') : H' a = some (.lst vs) ∧ RepAll g F' vs ds ∧ F' a = Option.none := by
  have ne := (H0_ne p0 h0).nh
  have q := gr.h a _ (by rw [vis_ne ne]; exact hh)
  rw [vis_ne ne] at q
  exact ⟨q, r.mono gr.f, by rw [gr.keepF ne hh nofun]; exact hf⟩
theorem x_app {i : Nat} {x : Str} {p apos epos : Pos} (hN : X.N[i]? = some x) (hv : Vis X.env.scope x) (hd : (x == ("__debug__" : Str)) = false) (hcd : (x == ("__classdict__" : Str)) = false) (he : PE X e (RdV g fe)) (hst : starEach [e] X.env = (false, eval e X.env) :: starEach [] X.env)
    (ht : attributeBase (.Name x p) "append" X.env (eval (.Name x p) X.env) = eval (.Name x p) X.env) (hs : swapsWith (.Call (.Attribute (.Name x p) "append" apos) [e] [] epos) none pos.line X.env = pure false)
    (hpe : ∀ (to : TE) (t : TA), PE X (.Name x p) to → PA X [e] t → PE X (.Call (.Attribute (.Name x p) "append" apos) [e] [] epos) (tBM X.K "list" rAppend to t)) :
    PS X (.Expr (.Call (.Attribute (.Name x p) "append" apos) [e] [] epos) pos) (RdS g (xApp i fe)) := by
  refine ps_wk (ps_expr (hpe _ _ (pe_var (i := i) hN hv hd hcd) (pa_cons he pa_nil hst)) hs) fun E σ H ⟨F0, H0, F, ρ, n, o, n', e, m, k⟩ => ?_
  obtain ⟨d, n1, e1, e⟩ := M.bind_some e
  obtain ⟨ρ', n2, e6, e⟩ := M.bind_some e
  cases e
  obtain ⟨e7, e8⟩ := M.opt_ok e6
  simp only at e7 e8
  subst e8
  unfold appR at e7
  split at e7
  · rename_i ds hd
    split at e7
    · rename_i hz
      cases e7
      obtain ⟨a, vs, ha, hh, r, hf, h0⟩ := rdP_name m hd
      refine ⟨_, ha, .inl ⟨rfl, vs, .of hh⟩, F0, H0, F, ρ, n, d, _, e1, m, fun v F' H' gr s P rv => ?_⟩
      obtain ⟨q1, q2, q3⟩ := own_after m.p0 h0 hh r hf gr
      refine ⟨a, vs, v, rfl, rfl, q1, by rw [q2.length, ← sz]; exact hz, ?_⟩
      exact k F' σ _ gr.f ((m.grow gr s P).write hd ha q3 h0 q1 (q2.snoc rv))
    · cases e7
  · cases e7
theorem x_set {i : Nat} {x : Str} {p p2 : Pos} {e1 : Expr} (hN : X.N[i]? = some x) (hv : Vis X.env.scope x) (hd : (x == ("__debug__" : Str)) = false) (hcd : (x == ("__classdict__" : Str)) = false) (he : PE X e (RdV g fe)) (hi : PE X e1 (RdV g fi))
    (ha : ∀ v, assign (.Subscript (.Name x p) e1 p2) X.env v = (do
      let ov ← holding [v] (eval (.Name x p) X.env)
      let iv ← holding [v, ov] (eval e1 X.env)
      standAt p2
      holding [v, ov, iv] (setItem ov iv v)
      release [v, ov, iv] []))
    (hs : swapsWithSole [.Subscript (.Name x p) e1 p2] e pos.line X.env = pure false) (hw : swappedStores [.Subscript (.Name x p) e1 p2] e X.env = pure none) (h1 : (assignEach [.Subscript (.Name x p) e1 p2] X.env).map (·.2) = [assign (.Subscript (.Name x p) e1 p2) X.env]) :
    PS X (.Assign [.Subscript (.Name x p) e1 p2] e pos) (RdS g (xSet i fi fe)) := by
  refine ps_wk (ps_asg he (pg_sub (pe_var (i := i) hN hv hd hcd) hi set_list ha) hs hw h1) fun E σ H ⟨F0, H0, F, ρ, n, o, n', e, m, k⟩ => ?_
  obtain ⟨d, n1, e1, e⟩ := M.bind_some e
  obtain ⟨kk, n2, e2, e⟩ := M.bind_some e
  obtain ⟨ρ', n3, e6, e⟩ := M.bind_some e
  cases e
  obtain ⟨e7, e8⟩ := M.opt_ok e6
  simp only at e7 e8
  subst e8
  unfold setR at e7
  split at e7
  · rename_i ds z hd
    simp only [Option.map_eq_some_iff] at e7
    obtain ⟨j, hj, rfl⟩ := e7
    · obtain ⟨a, vs, ha', hh, r, hf, h0⟩ := rdP_name m hd
      refine ⟨F0, H0, F, ρ, n, d, n1, e1, m, fun v F1 H1 g1 s1 P1 r1 => ⟨_, ha', F0, H0, F1, ρ, n1, _, _, e2, m.grow g1 s1 P1, fun w F2 H2 g2 s2 P2 r2 => ?_⟩⟩
      cases r2
      obtain ⟨q1, q2, q3⟩ := own_after m.p0 h0 hh r hf (g1.trans g2)
      refine ⟨a, vs, z, j, rfl, rfl, q1, by rw [q2.length]; exact hj, ?_⟩
      exact k F2 σ _ (g1.trans g2).f (((m.grow g1 s1 P1).grow g2 s2 P2).write hd ha' q3 h0 q1 (RepAll.set (r1.mono g2.f) j q2))
  · cases e7
theorem x_aug {i : Nat} {x : Str} {o : BinO} {pos' : Pos} {ti : TIp} (hN : X.N.Nodup) (hi : X.N[i]? = some x) (hx : Loc X.env.scope x) (he : PE X e (RdV g fe)) (ho : PIp X o.py ti) (hti : ∀ i j z H Q, augD o (.int i) (.int j) = some (.int z) → Q (.int z) H → ti (.int i) (.int j) H Q) (hf : X.fn x = true ∨ X.env.scope.names.lookup x = some .local) :
    PS X (.AugAssign (.Name x pos') o.py e pos) (RdS g (xAug i o fe)) := by
  refine ps_wk (ps_aug hN hi hx he ho hf) fun E σ H ⟨F0, H0, F, ρ, n, o', n', e, m, k⟩ => ?_
  obtain ⟨a, n1, e1, e⟩ := M.bind_some e
  obtain ⟨d, n2, e2, e⟩ := M.bind_some e
  obtain ⟨y, n3, e3, e⟩ := M.bind_some e
  cases e
  obtain ⟨e4, e5⟩ := M.opt_ok e3
  simp only at e4 e5
  subst e5
  unfold getV at e1
  split at e1
  · rename_i d' hs
    cases e1
    obtain ⟨v, hv, r⟩ := m.slot _ _ hs
    refine ⟨v, hv, F0, H0, F, ρ, n, d, _, e2, m, fun w F' H' gr s P rw' => ?_⟩
    obtain ⟨i', j', z, rfl, rfl, rfl⟩ : ∃ i' j' z, a = .int i' ∧ d = .int j' ∧ y = .int z := by
      cases o <;> cases a <;> cases d <;> simp only [augD, reduceCtorEq, Option.some.injEq] at e4 <;> exact ⟨_, _, _, rfl, rfl, e4.symm⟩
    cases r
    cases rw'
    exact hti _ _ _ _ _ e4 (k F' _ H' gr.f ((m.grow gr s P).set i (.int _)))
  · cases e1
theorem ip_augAdd : ∀ i j z (H : Hp) (Q : VK), augD .add (.int i) (.int j) = some (.int z) → Q (.int z) H → ipI (fun i j => i + j) (.int i) (.int j) H Q := fun i j z H Q e q => by
  cases e
  exact ⟨i, j, rfl, rfl, q⟩
theorem ip_augSub : ∀ i j z (H : Hp) (Q : VK), augD .sub (.int i) (.int j) = some (.int z) → Q (.int z) H → ipI (fun i j => i - j) (.int i) (.int j) H Q := fun i j z H Q e q => by
  cases e
  exact ⟨i, j, rfl, rfl, q⟩
theorem x_while {c : Expr} {body : List Stmt} {fc : Rho → M Bool} (hp : PassesOwn (model X.prog X.w) X.A X.env X.xe) (hc : PT X c (RdT g fc)) (hb : PSs X body (RdS g fb)) : PS X (.While c body [] pos) (RdS g (xWhile fc fb)) := by
  refine ps_wk (ps_while hp hc hb) fun E σ H ⟨F0, H0, F, ρ, n, o, n', e, m, k⟩ => ?_
  refine ⟨fun mm σ' H' => ∃ F1 ρ1 n1, whileGo fc fb mm ρ1 n1 = some (o, n') ∧ Same F F1 ∧ Mdl g F0 H0 F1 ρ1 n1 σ' H', ⟨WFUEL, F, ρ, n, e, Same.refl _, m⟩, ?_⟩
  rintro mm σ1 H1 ⟨F1, ρ1, n1, e1, s1, m1⟩
  cases mm with
  | zero => cases e1
  | succ mm =>
    obtain ⟨c, n2, e2, e1⟩ := M.bind_some e1
    refine ⟨F0, H0, F1, ρ1, n1, c, n2, e2, m1, fun F2 H2 g2 s2 P2 => ?_⟩
    have m2 := m1.grow g2 s2 P2
    cases c with
    | false =>
      cases e1
      exact iteF (k F2 σ1 H2 (s1.trans g2.f) m2)
    | true =>
      obtain ⟨o1, n3, e3, e1⟩ := M.bind_some e1
      refine iteT ⟨fun σ' H' => ∃ F1 ρ1 n1, whileGo fc fb mm ρ1 n1 = some (o, n') ∧ Same F F1 ∧ Mdl g F0 H0 F1 ρ1 n1 σ' H', fun σ' H' h => ⟨mm, Nat.lt_succ_self _, h⟩, F0, H0, F2, ρ1, n2, o1, n3, e3, m2, ?_⟩
      cases o1 with
      | nx ρ' => exact fun F' σ' H' s m' => ⟨F', ρ', n3, e1, (s1.trans g2.f).trans s, m'⟩
      | ct ρ' => exact fun F' σ' H' s m' => ⟨F', ρ', n3, e1, (s1.trans g2.f).trans s, m'⟩
      | bk ρ' =>
        cases e1
        exact fun F' σ' H' s m' => k F' σ' H' ((s1.trans g2.f).trans s) m'
      | rt d =>
        cases e1
        exact k
theorem x_for {tg iter : Expr} {body : List Stmt} {t : Tgt} {fit : Rho → M (List D)} (hp : PassesOwn (model X.prog X.w) X.A X.env X.xe) (hc : X.calm = true) (hi : PI X tg iter (RdI g fit)) (hg : PG X tg (gRd g t)) (hb : PSs X body (RdS g fb)) (hs : ∀ x, foldedSetIterable iter X.env x = pure x) :
    PS X (.For tg iter body [] pos) (RdS g (xFor t fit fb)) := by
  refine ps_wk (ps_for hp hc hi hg hb hs) fun E σ H ⟨F0, H0, F, ρ, n, o, n', e, m, k⟩ => ?_
  obtain ⟨ds, n1, e1, e⟩ := M.bind_some e
  refine ⟨F0, H0, F, ρ, n, ds, n1, e1, m, fun J F1 H1 g1 s1 P1 wk => ?_⟩
  refine ⟨fun i mm σ' H' => mm + i = ds.length ∧ ∃ F2 ρ2 n2, forGo (forBody t fb) (ds.drop i) ρ2 n2 = some (o, n') ∧ Same F1 F2 ∧ Mdl g F0 H0 F2 ρ2 n2 σ' H', ⟨ds.length, by omega, F1, ρ, n1, e, Same.refl _, m.grow g1 s1 P1⟩, ?_⟩
  rintro i mm σ2 H2 ⟨hm, F2, ρ2, n2, e2, s2, m2⟩
  by_cases hi' : i < ds.length
  · refine .inr ?_
    obtain ⟨d, hdi⟩ : ∃ d, ds[i]? = some d := ⟨ds[i], by simp [hi']⟩
    have hdrop : ds.drop i = d :: ds.drop (i + 1) := by
      rw [List.drop_eq_getElem_cons hi']
      congr 1
      rw [List.getElem?_eq_getElem hi'] at hdi
      exact Option.some.inj hdi
    rw [hdrop] at e2
    obtain ⟨o1, n3, e3, e4⟩ := M.bind_some e2
    obtain ⟨hgo, hy⟩ := wk.go i d F2 H2 n2 s2 m2.sub m2.pool hdi
    refine ⟨hgo, fun σ' H' => ∃ F3 ρ3, forGo (forBody t fb) (ds.drop (i + 1)) ρ3 n3 = some (o, n') ∧ Same F1 F3 ∧ Mdl g F0 H0 F3 ρ3 n3 σ' H', ?_, ?_⟩
    · rintro σ' H' ⟨F3, ρ3, q1, q2, q3⟩
      exact ⟨mm - 1, by omega, by omega, F3, ρ3, n3, q1, q2, q3⟩
    · intro x H' hx
      obtain ⟨F3, g3, s3, P3, r3⟩ := hy x H' hx
      unfold forBody at e3
      obtain ⟨ρ', n4, e5, e6⟩ := M.bind_some e3
      obtain ⟨e7, e8⟩ := M.opt_ok e5
      simp only at e7 e8
      subst e8
      refine ⟨F0, H0, F3, ρ2, _, d, ρ', e7, m2.grow g3 s3 P3, r3, fun σ' _ m4 => ⟨F0, H0, F3, ρ', _, o1, n3, e6, m4, ?_⟩⟩
      have s13 := s2.trans g3.f
      cases o1 with
      | nx ρ5 => exact fun F' σ' H' s m' => ⟨F', ρ5, e4, s13.trans s, m'⟩
      | ct ρ5 => exact fun F' σ' H' s m' => ⟨F', ρ5, e4, s13.trans s, m'⟩
      | bk ρ5 =>
        cases e4
        exact fun F' σ' H' s m' => k F' σ' H' ((g1.f.trans s13).trans s) m'
      | rt r =>
        cases e4
        exact k
  · refine .inl ?_
    have hi2 : i = ds.length := by omega
    subst hi2
    rw [List.drop_length] at e2
    cases e2
    exact ⟨wk.stop F2 H2 s2 m2.sub, k F2 σ2 H2 (g1.f.trans s2) m2⟩
end
end Ev

set_option Elab.async false
set_option linter.all false
set_option autoImplicit false
set_option maxRecDepth 100000
set_option maxHeartbeats 1000000
/-! EvD1: dicts as arguments of built-ins. -/
namespace Ev
open PySem PySem.Spec PyProof.Rows L2
section
variable {g : Gh} {P : Program} {w : World} {h : Heap} {H F : Hp} {a : Addr} {ks ds : List D} {u : HO}
theorem repAll_keys {g : Gh} {F : Hp} : ∀ {kvs : List (Key × V)}, RepAll g F (kvs.map fun p => kV p.1) (kvs.map fun p => keyD p.1)
  | [] => .nil
  | p :: r => .cons (show Rep g F (kV p.1) (keyD p.1) from by cases p.1 with | inl i => exact .int i | inr x => exact .str x) repAll_keys
theorem vals_of_get : ∀ {vs : List V} {us : List Value}, vs.length = us.length → (∀ (i : Nat) (v : V) (u : Value), vs[i]? = some v → us[i]? = some u → L2.RelV v u) → Vals vs us
  | [], [], _, _ => .nil
  | [], _ :: _, e, _ => by simp at e
  | _ :: _, [], e, _ => by simp at e
  | v :: vs, u :: us, e, h => .cons (h 0 _ _ rfl rfl) (vals_of_get (by simpa using e) fun i v u h1 h2 => h (i + 1) v u (by simpa using h1) (by simpa using h2))
theorem paired_get {α β : Type} {R : α → β → Prop} : ∀ {l : List α} {m : List β} {i : Nat} {p : α}, Paired R l m → l[i]? = some p → ∃ q, m[i]? = some q ∧ R p q
  | _, _, _, _, .nil, h => by simp at h
  | _, _, 0, _, .cons r _, h => by simp at h; subst h; exact ⟨_, rfl, r⟩
  | _, _, i + 1, p, .cons _ t, h => by
    obtain ⟨q, h1, h2⟩ := paired_get (i := i) (p := p) t (by simpa using h)
    exact ⟨q, by simpa using h1, h2⟩
/-- the entries of a dict -/
theorem dcon_raw (ok : HOk P w H h) (rd : Rd H a u) (c : DCon g F a ks ds u) : (a == sysModules) = false ∧ ks.length ≤ sizeLine ∧ ∃ es ep, h.DictRaw a es ep ∧ es.size = ks.length ∧
    ∃ kv vv : List V, Vals kv (es.toList.map (·.key)) ∧ RepAll g F kv ks ∧ Vals vv (es.toList.map (·.val)) ∧ RepAll g F vv ds := by
  cases c with
  | @k kvs e r =>
    obtain ⟨z, hd, vs, rel, dd⟩ := dk_rd ok rd
    obtain ⟨es, ep, hr, hs, he⟩ := dd.raw
    have hl := rel.length
    subst e
    refine ⟨hd, by simpa using z, es, ep, hr, by simp; omega, kvs.map fun p => kV p.1, kvs.map (·.2), ?_, repAll_keys, ?_, r⟩
    · refine vals_of_get (by simp; omega) fun i v u h1 h2 => ?_
      rw [List.getElem?_map] at h1 h2
      obtain ⟨p, hp, rfl⟩ := Option.map_eq_some_iff.mp h1
      obtain ⟨q, hq, rfl⟩ := Option.map_eq_some_iff.mp h2
      obtain ⟨hi, hq⟩ := List.getElem?_eq_some_iff.mp hq
      obtain ⟨p2, hp2, rr⟩ := paired_get rel hp
      obtain ⟨e2, e3⟩ := he i (by simpa using hi) p2.1 p2.2 hp2
      have hq' : es[i]'(by simpa using hi) = q := by simpa using hq
      rw [← hq']
      have e2' : keyIs p.1 (es[i]'(by simpa using hi)).key = true := by rw [rr.1]; exact e2
      rcases keyIs_shape e2' with ⟨j, t, e4, e5⟩ | ⟨x, t, e4, e5⟩
      · rw [e5, e4]; exact ⟨t, rfl⟩
      · rw [e5, e4]; exact ⟨t, rfl⟩
    · refine vals_of_get (by simp; omega) fun i v u h1 h2 => ?_
      rw [List.getElem?_map] at h1 h2
      obtain ⟨p, hp, rfl⟩ := Option.map_eq_some_iff.mp h1
      obtain ⟨q, hq, rfl⟩ := Option.map_eq_some_iff.mp h2
      obtain ⟨hi, hq⟩ := List.getElem?_eq_some_iff.mp hq
      obtain ⟨p2, hp2, rr⟩ := paired_get rel hp
      obtain ⟨e2, e3⟩ := he i (by simpa using hi) p2.1 p2.2 hp2
      have hq' : es[i]'(by simpa using hi) = q := by simpa using hq
      rw [← hq', e3]
      exact rr.2
  | @t es o r1 r2 =>
    obtain ⟨⟨hd, hz, ob, es', ep, h1, h2, h3, hp⟩, _, _⟩ := rd.ok ok
    have hl := r1.length
    have hl2 := Paired.length hp
    simp at hl hl2
    have go : ∀ {es : List (Int × Addr × V)} {l : List DictEntry}, Paired (fun (x : Int × Addr × V) (y : DictEntry) => y.hash = x.1 ∧ y.key = .ref x.2.1 ∧ L2.RelV x.2.2 y.val) es l → Vals (es.map fun e => V.ref e.2.1) (l.map (·.key)) ∧ Vals (es.map (·.2.2)) (l.map (·.val)) := by
      intro es l p
      induction p with
      | nil => exact ⟨.nil, .nil⟩
      | cons q _ ih => exact ⟨.cons q.2.1 ih.1, .cons q.2.2 ih.2⟩
    exact ⟨hd, by omega, es', ep, ⟨ob, h1, h2, h3⟩, by omega, _, _, (go hp).1, r1, (go hp).2, r2⟩
end
theorem each_vals_rep {g : Gh} {F : Hp} {R : V → D → Prop} : ∀ {ws : List V} {its : List Value} {ds : List D}, Vals ws its → RepAll g F ws ds → (∀ v d, Rep g F v d → R v d) → PySem.W.EachIs (fun u d => ∃ v, L2.RelV v u ∧ R v d) its ds
  | _, _, _, .nil, .nil, _ => .nil
  | _, _, _, .cons r t, .cons r2 t2, h => .cons ⟨_, r, h _ _ r2⟩ (each_vals_rep t t2 h)
section
variable {X : Cx} {g : Gh}
/-- sorted(d) -/
def rSortDict (g : Gh) : List V → Hp → VK → Prop := fun vs H Q => ∃ (a : Addr) (u : HO) (F : Hp) (ks ds : List D), vs = [V.ref a] ∧ Rd H a u ∧ DCon g F a ks ds u ∧ Same F H ∧ ks.all okD = true ∧ alikeAllB (ks.map D.py) = true ∧ sortable (ks.map D.py) = true ∧
  ∀ us p, H p = Option.none → RepAll g F us (sortD ks) → Q (.ref p) (upd H p (.lst us))
theorem items_list {es : Array DictEntry} {acc : Array Value} {n : Nat} (h : ItemsOf (fun i v => ∃ hi : i < es.size, v = es[i].key) acc n) (hn : n = es.size) : acc.toList = es.toList.map (·.key) := by
  subst hn
  refine List.ext_getElem (by simp [h.1]) fun i h1 h2 => ?_
  simp only [Array.length_toList] at h1
  obtain ⟨hi, e⟩ := h.2 i acc[i] (by simp [h1])
  simp [e]
theorem cr_sortDict (hc : X.calm = true) (hK : X.K = g.K) (hu : X.A.units + 66 < cLine) : CallR X (.builtin "sorted") (rSortDict g) := by
  intro pins s σ H xs us Q I r q
  obtain ⟨a, u, F, ks, ds, ex, rd, c, sm, ok, al, so, q⟩ := q
  subst ex
  obtain ⟨u', eu, rx⟩ := vals1 r
  subst eu
  cases rx
  obtain ⟨lo, hz, es, ep, hr, hs, kv, vv, rk, rrk, _, _⟩ := dcon_raw I.hok rd c
  refine Calls.call_function_entry PyProof.Rows.kind_sorted PyProof.Rows.plain_sorted PyProof.Rows.entry_sorted (PyProof.Rows.args_sorted1 _) ?_
  unfold Builtin.«sorted»
  refine wpAny_bind (m := checkCount "sorted" 1 1 _) (wpAny_pure ?_)
  refine wpAny_bind (PySem.W.kdu_collect (A := X.A.in1) (KdlSrc.rawDict (es := es) (ep := ep) lo) (I.ok.hd hc) hr (by rw [hs]; exact hz) fun h' tk acc hk hacc => ?_)
  have hal : acc.toList = es.toList.map (·.key) := items_list hacc rfl
  have hlen : acc.toList.length = ks.length := by rw [hal]; simp [hs]
  have I1 : Inv X pins σ H { s with heap := h', toks := tk } := I.kept hk
  refine wpAny_bind (wpAny_newList ?_ (by rw [hlen]; exact hz))
  have hoL : (h'.push (seqObj "list" acc.toList.toArray 0)).get? h'.objs.size = some (seqObj "list" acc.toList.toArray 0) := Heap.get?_push_size _ rfl
  show wpAny _ _ _ _ _ { s with heap := h'.push (seqObj "list" acc.toList.toArray 0), toks := tk }
  have rv : Vals kv acc.toList := by rw [hal]; exact rk
  have reads : ∀ h2 : Heap, (∀ b o, h'.get? b = some o → h2.get? b = some o) → PySem.W.EachIs (fun u d => ∃ as, Reads h2 u d as) acc.toList (ks.map D.py) := fun h2 k2 => by
    refine PySem.W.each_map (R := fun v d => ∃ as, Reads h2 v d as) D.py ?_
    exact (each_reads hK I1 rv (rrk.mono sm) ok).mono fun v d ⟨as, r⟩ => ⟨as, PyProof.Rows.Reads.keeps k2 r⟩
  have lt_ne : ∀ b o, h'.get? b = some o → b ≠ h'.objs.size := fun b o e => Nat.ne_of_lt (Heap.lt_size e)
  have kp : ∀ b o, h'.get? b = some o → (PySem.W.sortingHeap (h'.push (seqObj "list" acc.toList.toArray 0)) h'.objs.size acc.toList).get? b = some o := fun b o e =>
    PySem.W.sortingHeap_old (lt_ne b o e) (Heap.get?_push_of_some _ e)
  have alike : PySem.W.AllAlike (ks.map D.py) := fun d hd d' hd' => by
    have := List.all_eq_true.mp al d hd
    exact List.all_eq_true.mp this d' hd'
  refine wpAny_bind (wpAny_holding (wpAny_call_entry PyProof.Rows.slot_list_sort ⟨_, hoL, rfl⟩ PyProof.Rows.entry_list_sort
    (PySem.W.list_sort_vals (s := { s with heap := h'.push (seqObj "list" acc.toList.toArray 0), toks := tk }) hoL (sorts_any (ds := ks.map D.py) (s := { s with heap := PySem.W.sortingHeap (h'.push (seqObj "list" acc.toList.toArray 0)) h'.objs.size acc.toList, toks := tk }) (reads _ kp) alike so ?_) (by rw [hlen]; exact hz) ⟨_, rfl, ?_⟩) (PyProof.Rows.args_list_sort _)))
  · intro d hd
    obtain ⟨d', hd', rfl⟩ := List.mem_map.mp hd
    have := (okD_depth (List.all_eq_true.mp ok d' hd')).2.2
    show X.A.units + 1 + 1 + d'.py.depth < cLine
    omega
  · have ee := PySem.W.sortVals_data (h' := PySem.W.sortingHeap (h'.push (seqObj "list" acc.toList.toArray 0)) h'.objs.size acc.toList) (enc := D.py) (R := fun u d => ∃ v, L2.RelV v u ∧ Rep g F v d) (vs := acc.toList) (bs := ks) false (each_vals_rep rv rrk fun _ _ r => r) (by
      exact (each_reads hK I1 rv (rrk.mono sm) ok).mono fun v d ⟨as, r⟩ => ⟨as, PyProof.Rows.Reads.keeps kp r⟩) alike
    obtain ⟨vs', h1, h2⟩ := each_vals ee
    obtain ⟨ep', he'⟩ := PyProof.Rows.sortedHeap_at (vs := acc.toList) (out := (PySem.W.sortVals (PySem.W.dataKind (PySem.W.sortingHeap (h'.push (seqObj "list" acc.toList.toArray 0)) h'.objs.size acc.toList) (ks.map D.py)) false acc.toList acc.toList).toArray) hoL
    have hlen' : vs'.length ≤ sizeLine := by rw [h1.length, PySem.W.sortVals_length false rfl, hlen]; exact hz
    refine wpAny_pure ⟨_, rfl, .ref h'.objs.size, upd H h'.objs.size (.lst vs'), I1.laid (t' := tk) (fun b u e => ?_) (Nat.le_refl _) ⟨hlen', _, ep', h1, he'⟩, rfl, q vs' _ (I1.hok.fresh (Nat.le_refl _)) (each_repAll h2)⟩
    have hb : b < h'.objs.size := Heap.lt_size e
    rw [PyProof.Rows.sortedHeap_old (Nat.ne_of_lt hb) (by rw [size_push']; exact Nat.lt_succ_of_lt hb)]
    exact Heap.get?_push_of_some _ e
/-- list(d) -/
def rListDict (g : Gh) : List V → Hp → VK → Prop := fun vs H Q => ∃ (a : Addr) (u : HO) (F : Hp) (ks ds : List D), vs = [V.ref a] ∧ Rd H a u ∧ DCon g F a ks ds u ∧ ∀ us p, H p = Option.none → RepAll g F us ks → Q (.ref p) (upd H p (.lst us))
theorem cr_listDict (hc : X.calm = true) : CallR X (.type "list") (rListDict g) := by
  intro pins s σ H xs us Q I r q
  obtain ⟨a, u, F, ks, ds, ex, rd, c, q⟩ := q
  subst ex
  obtain ⟨u', eu, rx⟩ := vals1 r
  subst eu
  cases rx
  obtain ⟨lo, hz, es, ep, hr, hs, kv, vv, rk, rrk, _, _⟩ := dcon_raw I.hok rd c
  refine PySem.W.kdl_call (KdlSrc.rawDict (es := es) (ep := ep) lo) (I.ok.hd hc) hr (by rw [hs]; exact hz) fun h' tk acc c' hk hg hacc => ?_
  have hal : acc.toList = es.toList.map (·.key) := items_list hacc rfl
  have rv : Vals kv acc.toList := by rw [hal]; exact rk
  have hl : kv.length ≤ sizeLine := by rw [rrk.length]; exact hz
  refine ⟨.ref s.heap.objs.size, upd H s.heap.objs.size (.lst kv), I.laid (t' := tk) hk (Nat.le_refl _) ⟨hl, acc.toList, c', rv, by simpa using hg⟩, rfl, q kv _ (I.hok.fresh (Nat.le_refl _)) rrk⟩
end
end Ev

set_option Elab.async false
set_option linter.all false
set_option autoImplicit false
set_option maxRecDepth 100000
set_option maxHeartbeats 2000000
/-! EvD2: dict comprehensions, keys of any kind. -/
namespace Ev
open PySem PySem.Spec PyProof.Rows L2
/-- what a turn stores -/
def StoreR (g : Gh) (a : Addr) (y z : V) (H : Hp) (Nx : Hp → Prop) : Prop := ∃ (F : Hp) (u : HO) (ks ds : List D) (k d : D), H a = some u ∧ DCon g F a ks ds u ∧ Same F H ∧ Rep g F y k ∧ kindOk ks k = true ∧ Rep g F z d ∧ ks.length < sizeLine ∧
  ∀ u', DCon g F a (dkeys ks k) (dvals ks ds k d) u' → Nx (upd H a u')
/-- {k: v for target in iter if ..} -/
def tDX (g : Gh) (wi : TI) (gt : TG) (tt : TT) (tk tv : TE) (vs : List Nat) : TE := fun σ H Q => wi σ H fun J H1 => ∀ D, H1 D = none → ∃ W : Nat → Nat → Hp → Prop, (∃ m, W 0 m (upd H1 D (.dK []))) ∧ ∀ i m H, W i m H →
  (J.stop i H ∧ Q (.ref D) H) ∨ (J.go i H ∧ ∃ Nx : Hp → Prop, (∀ H', Nx H' → ∃ m', m' < m ∧ W (i + 1) m' H') ∧ ∀ x H', J.yld i H x H' → gt x (wipe σ vs) H' fun σ2 H2 => wipe σ2 vs = wipe σ vs ∧ tt σ2 H2 fun b H3 =>
    if b = true then tk σ2 H3 fun y H4 => tv σ2 H4 fun z H5 => StoreR g D y z H5 Nx else Nx H3)
section
variable {X : Cx} {g : Gh}
theorem dx_comp {pins : List (Addr × Obj)} {s : Shared} {σ : L2.St} {H : Hp} {Q : VK} {kx vx tg iter : Expr} {ifs : List Expr} {scope : Scope} {own : List (Str × Nat)} {pos pos' : Pos} {wi : TI} {gt : TG} {tt : TT} {tk tv : TE} {use : Option (Value → Sem Unit)} {Qf : Value → Shared → Prop}
    (hu : X.A.units + 9 < cLine) (hK : X.K = g.K) (hw : g.w = X.w) (hc : X.calm = true) (hN : X.N.Nodup) (I : Inv X pins σ H s) (hi : PI X tg iter wi) (ok : BlkOk X.N X.env.scope scope own)
    (hg : ∀ (s : Shared) (H : Hp) (C : Addr) (cl : List (Str × Addr)) (fp : List Addr), PG (X.blk s H scope (compEnvC scope cl C X.env) fp) tg gt)
    (ht : ∀ (s : Shared) (H : Hp) (C : Addr) (cl : List (Str × Addr)) (fp : List Addr), PTs (X.blk s H scope (compEnvC scope cl C X.env) fp) ifs tt)
    (hk : ∀ (s : Shared) (H : Hp) (C : Addr) (cl : List (Str × Addr)) (fp : List Addr), PE (X.blk s H scope (compEnvC scope cl C X.env) fp) kx tk)
    (he : ∀ (s : Shared) (H : Hp) (C : Addr) (cl : List (Str × Addr)) (fp : List Addr), PE (X.blk s H scope (compEnvC scope cl C X.env) fp) vx tv)
    (hs : ∀ x, foldedSetIterable iter X.env x = pure x) (h : tDX g wi gt tt tk tv (own.map (·.2)) σ H Q)
    (fini : ∀ D C s' m H', Inv X pins σ H' s' → Q (.ref D) H' → s'.heap.Ns C m → FpOk X pins H' C → compPost (model X.prog X.w) X.A X.xe use Qf (.ref D) C (.ok .next) s') :
    wpAny (model X.prog X.w) X.A (comprehension (.DictComp kx vx [⟨tg, iter, ifs, 0⟩] scope pos) scope X.env pos' newDict false (eval iter X.env) use) Qf X.xe s := by
  have caught : ∀ y ∈ scope.names, y.2 = .free → ∃ c, X.env.cells.lookup y.1 = some c := fun y hy e => I.ok.has _ (ok.free y hy e)
  refine wpAny_comprehension_free rfl hs (closure_ok caught) ok.kind (fun y hy e => (ok.uniq y hy).trans (congrArg some e)) (thn (hi.run pins s σ H _ I h) fun _ s1 h1 => thn h1 fun _ s2 ⟨it, fp, tn, J, H2, ev, I2, T, t2, f2, q⟩ => ?_)
  cases ev
  refine wpAny_newObj_type (newEnv_comp ?_)
  obtain ⟨D, hD⟩ : ∃ D, D = s2.heap.objs.size := ⟨_, rfl⟩
  rw [← hD]
  obtain ⟨W, ⟨m0, w0⟩, turn⟩ := q D (I2.hok.fresh (Nat.le_of_eq hD.symm))
  obtain ⟨s3, hs3⟩ : ∃ s3 : Shared, s3 = { s2 with heap := s2.heap.push { cls := .type "dict", data := .dict #[] } } := ⟨_, rfl⟩
  have e3 : s3.heap = s2.heap.push { cls := .type "dict", data := .dict #[] } := by rw [hs3]
  have I3 : Inv X pins σ (upd H2 D (.dK [])) s3 := by
    subst hs3 hD
    exact I2.laid (t' := s2.toks) (fun _ _ e => Heap.get?_push_of_some _ e) (Nat.le_refl _) (dk_empty s2.heap I2.big)
  have below : ∀ b ∈ fp, b < s2.heap.objs.size := fun b hb => let ⟨_, e, _⟩ := T.obj _ _ t2 b hb; Heap.lt_size e
  have f3 : ∀ b ∈ fp, FpOk X pins (upd H2 D (.dK [])) b ∧ b < s3.heap.objs.size := fun b hb => by
    have lt := below b hb
    obtain ⟨z1, z2⟩ := f2 b hb
    exact ⟨⟨(upd_ne (by rw [hD]; exact Nat.ne_of_lt lt)).trans z1, z2⟩, by rw [e3, Heap.size_push]; exact Nat.lt_succ_of_lt lt⟩
  have t3 : tn 0 s3.heap := T.keep _ _ _ t2 fun b _ o e => e3 ▸ Heap.get?_push_of_some _ e
  obtain ⟨H3, hH3⟩ : ∃ H3, H3 = upd H2 D (.dK []) := ⟨_, rfl⟩
  rw [← hH3] at I3 f3 w0
  obtain ⟨ce, hce⟩ : ∃ ce, ce = compEnvC scope (cellsFrom (s3.heap.objs.size + 1) scope.names (cloFrom X.env.cells scope.names [])) s3.heap.objs.size X.env := ⟨_, rfl⟩
  have I4 := block_start I3 ok hN f3
  have pg := hg s3 H3 s3.heap.objs.size (cellsFrom (s3.heap.objs.size + 1) scope.names (cloFrom X.env.cells scope.names [])) fp
  have pt := ht s3 H3 s3.heap.objs.size (cellsFrom (s3.heap.objs.size + 1) scope.names (cloFrom X.env.cells scope.names [])) fp
  have pk := hk s3 H3 s3.heap.objs.size (cellsFrom (s3.heap.objs.size + 1) scope.names (cloFrom X.env.cells scope.names [])) fp
  have pv' := he s3 H3 s3.heap.objs.size (cellsFrom (s3.heap.objs.size + 1) scope.names (cloFrom X.env.cells scope.names [])) fp
  rw [← hce] at I4 pg pt pk pv'
  have locE : ce.locals = s3.heap.objs.size := by rw [hce]; rfl
  obtain ⟨s4, hs4⟩ : ∃ s4 : Shared, s4 = { s3 with heap := pushCells (s3.heap.push { cls := .type "dict", data := .dict #[] }) scope.names } := ⟨_, rfl⟩
  rw [← hs4] at I4
  have t4 : tn 0 s4.heap := T.keep _ _ _ t3 fun b _ o e => hs4 ▸ pushCells_keeps _ _ _ _ (Heap.get?_push_of_some _ e)
  let Y : Cx := X.blk s3 H3 scope ce fp
  have apart : ∀ {σ' : L2.St} {H' : Hp} {s' : Shared}, Inv Y [] σ' H' s' → (∀ b ∈ fp, H' b = none) → ∀ b ∈ fp, FpOk Y [] H' b := fun {σ' H' s'} J' hn b hb =>
    ⟨hn b hb, (J'.ok.exf b hb).1, J'.ok.exfs b hb, .inl hb, fun x c e => (J'.ok.exf b hb).2 x c e, fun p hp => (List.not_mem_nil hp).elim⟩
  have turns : codeAny (model X.prog X.w) X.A (.compLoop (.DictComp kx vx [⟨tg, iter, ifs, 0⟩] scope pos) 0 (.ref it) (.ref D) ce) (compPost (model X.prog X.w) X.A X.xe use Qf (.ref D) s3.heap.objs.size) s4 := by
    refine compLoop_anyD (fun n s' => ∃ i H', Inv Y [] (wipe σ (own.map (·.2))) H' s' ∧ tn i s'.heap ∧ (∀ b ∈ fp, H' b = none) ∧ W i n H') ?_ m0 ⟨0, H3, I4, t4, (fun b hb => (f3 b hb).1.1), w0⟩
    rintro n s5 ⟨i, H5, I5, t5, n5, w5⟩
    rcases turn i n H5 w5 with ⟨atEnd, q5⟩ | ⟨more, Nx, next, body⟩
    · refine thnF (T.done Y rfl rfl rfl hc i [] s5 _ H5 (fun _ _ => False) I5 (apart I5 n5) t5 atEnd) fun r s6 ⟨er, I6⟩ => ?_
      cases er
      have I7 : Inv X pins σ H5 s6 := I3.call' (ch := fp) I6.os I6.base I6.hok I6.bare fun b hb =>
        let z := (f3 b hb).1
        ⟨z.2.2.2.1, z.2.1, z.2.2.2.2.1, z.2.2.2.2.2⟩
      have free : H5 s3.heap.objs.size = none := locE ▸ I6.free
      obtain ⟨m, hm, _⟩ := I6.loc
      exact fini D _ s6 m H5 I7 q5 (locE ▸ hm) (I3.fpOk (Nat.le_refl _) free)
    · refine thnF (T.item Y rfl rfl rfl hc i [] s5 _ H5 (fun _ _ => False) I5 (apart I5 n5) t5 more) fun r s6 ⟨u, er, h6⟩ => ?_
      cases er
      refine thnF h6 fun _ s7 ⟨x, H7, I7, r7, y7, t7, n7⟩ => ?_
      have P7 := I7.pinned (apart I7 n7) (T.obj _ _ t7)
      refine thnF (pg.run _ s7 _ H7 x u _ P7 r7 (body x H7 y7)) fun _ s8 ⟨σ8, H8, I8, w8, q8⟩ => ?_
      refine thnF (pt.run _ s8 σ8 H8 _ I8 q8) fun b s9 ⟨H9, I9, q9⟩ => ?_
      have back : ∀ {s' : Shared} {H' : Hp}, Inv Y ([] ++ pinsAt fp s7.heap) σ8 H' s' → Nx H' → ∃ m, m < n ∧ ∃ i H', Inv Y [] (wipe σ (own.map (·.2))) H' s' ∧ tn i s'.heap ∧ (∀ b ∈ fp, H' b = none) ∧ W i m H' := fun {s' H'} J' nx => by
        obtain ⟨m', lt, w'⟩ := next H' nx
        have held : ∀ b ∈ fp, ∀ o, s7.heap.get? b = some o → s'.heap.get? b = some o ∧ H' b = none := fun b hb o e =>
          have z := J'.pin (b, o) (List.mem_append_right _ (List.mem_append_right _ (mem_pinsAt hb e)))
          ⟨z.1, z.2.1⟩
        refine ⟨m', lt, i + 1, H', (J'.unpinned (pins := [])).weak (by rw [← w8, wipe_length]) (fun j v e => (wipe_some (vs := own.map (·.2)) (by rw [w8]; exact e)).1), T.keep _ _ _ t7 fun b hb o e => (held b hb o e).1, fun b hb => ?_, w'⟩
        obtain ⟨o, e, _⟩ := T.obj _ _ t7 b hb
        exact (held b hb o e).2
      cases b with
      | false => exact back I9 q9
      | true =>
        refine thnF (pk.run _ s9 σ8 H9 _ I9 q9) fun z1 s10 ⟨y, H10, I10, r10, q10⟩ => ?_
        refine thnF (pv'.run _ s10 σ8 H10 _ I10 q10) fun z2 s11 ⟨z, H11, I11, r11, F, u', ks, ds, k, d, hD11, dc, sm, rk, ko, rd, lt, nx⟩ => ?_
        exact dx_put (X := Y) false hu I11 hK hw sm hD11 dc rk ko r10 rd r11 lt fun s12 u2 I12 dc2 => back I12 (nx u2 dc2)
  rw [← hs3]
  subst hce hs4
  exact codeAny_compStart_dict turns (T.self X.A 0 _ _ _ t4 turns)
end
end Ev

set_option Elab.async false
set_option linter.all false
set_option autoImplicit false
set_option maxRecDepth 100000
set_option maxHeartbeats 2000000
/-! EvD3: dicts walked, displayed, made by comprehensions, stored to. -/
namespace Ev
open PySem PySem.Spec PyProof.Rows L2

/-! ### walks -/
/-- the keys of the known dict at d -/
def ItR (d : Addr) (o : Obj) (kv : List V) : It :=
  ⟨fun i H => (∃ u, H d = some (.frz o u)) ∧ i < kv.length, fun i H x H' => H' = H ∧ kv[i]? = some x, fun i H => (∃ u, H d = some (.frz o u)) ∧ kv.length ≤ i⟩
section
variable {P : Program} {w : World} {K : PySem.W.Frag} {tg : Expr} {d : Addr} {o : Obj} {es : Array DictEntry} {ep : Nat}
theorem frz_get {X : Cx} {pins : List (Addr × Obj)} {σ : L2.St} {H : Hp} {s : Shared} {u : HO} (I : Inv X pins σ H s) (h : H d = some (.frz o u)) : s.heap.get? d = some o := (I.hok d _ h).1
theorem turn_raw {kv : List V} (it : Addr) (hod : o.data = .dict es ep) (hs : es.size = kv.length) (hv : Vals kv (es.toList.map (·.key))) : Turn P w K tg (ItR d o kv) [it] it (fun i h => h.IsKeyIter it d i kv.length ep) where
  mem := List.mem_singleton.mpr rfl
  obj := fun i h st b hb => by
    cases List.mem_singleton.mp hb
    obtain ⟨oi, e, c, dd⟩ := st
    exact ⟨oi, e, fun v z => nomatch dd.symm.trans z⟩
  keep := fun i h h' st k => st.at fun oi e => k it (List.mem_singleton.mpr rfl) oi e
  item := by
    rintro X rfl rfl rfl hc i pins s σ H E I hf st ⟨⟨u, hd⟩, hi⟩
    obtain ⟨f0, f1, f2, f3, f4, f5⟩ := hf it (List.mem_singleton.mpr rfl)
    obtain ⟨x, hx⟩ : ∃ x, kv[i]? = some x := ⟨_, List.getElem?_eq_getElem hi⟩
    obtain ⟨w', hw', rw'⟩ := hv.get hx
    rw [List.getElem?_map] at hw'
    obtain ⟨en, hen, rfl⟩ := Option.map_eq_some_iff.mp hw'
    refine next_key_item st (frz_get I hd) hod hs (by rw [← Array.getElem?_toList]; exact hen) fun h' st' sb => ?_
    obtain ⟨oi, e, c, dd⟩ := id st'
    exact ⟨en.key, rfl, go_of (s := { s with heap := h' }) e c dd (by decide) ⟨x, H, I.turned (t' := s.toks) (fun b ob hb e => (sb.2 b hb).trans e) f0 f1 f3 f4 f5, rw', ⟨rfl, hx⟩, st', fun b hb => (hf b hb).1⟩⟩
  done := by
    rintro X rfl rfl rfl hc i pins s σ H E I hf st ⟨⟨u, hd⟩, hi⟩
    obtain ⟨f0, f1, f2, f3, f4, f5⟩ := hf it (List.mem_singleton.mpr rfl)
    exact next_key_end (I.ok.hd hc) st (frz_get I hd) hod hs hi fun h' eb => ⟨rfl, I.turned (t' := s.toks) (fun b ob hb e => eb b ob hb e) f0 f1 f3 f4 f5⟩
  self := fun A i s Q E st h => by
    refine wpAny_pyIter_slot st.typeIs F.slot_dict_keyiterator_iter (wpAny_call_entry F.slot_dict_keyiterator_iter st.typeIs F.entry_dict_keyiterator_iter (wpAny_pure ⟨_, rfl, ?_⟩) (F.args_dict_keyiterator_iter_1 _))
    exact ⟨"dict_keyiterator", _, st.typeIs, F.slot_dict_keyiterator_next.lookup, h⟩
end
section
variable {X : Cx} {g : Gh} {tg : Expr}
theorem walks_raw {g : Gh} {F : Hp} {a : Addr} {od : Obj} {u : HO} {kv : List V} {ks : List D} (h : F a = some (.frz od u)) (r : RepAll g F kv ks) : Walks g (ItR a od kv) F ks := by
  have at_ : ∀ F1 H, Same F F1 → Same F1 (vis g H) → ∃ u, H a = some (.frz od u) := fun F1 H s1 s2 => ⟨u, (s1.trans s2).trans vis_same a _ h⟩
  have hl := r.length
  refine ⟨fun F1 H s1 s2 => ⟨at_ F1 H s1 s2, by omega⟩, fun i d F1 H n s1 s2 P e => ?_⟩
  have hi : i < ks.length := (List.getElem?_eq_some_iff.mp e).1
  obtain ⟨v, hv, rv⟩ := r.get e
  refine ⟨⟨at_ F1 H s1 s2, by omega⟩, fun x H' ⟨e1, y⟩ => ?_⟩
  subst e1
  rw [hv] at y
  cases y
  exact ⟨F1, Grow.refl, s2, P, rv.mono s1⟩
def itemsD : D → Option (List D)
  | .dict ks _ => some ks
  | .lst ds => some ds
  | .tup ds => some ds
  | _ => none
def evItems (fa : Rho → M D) : Rho → M (List D) := fun ρ => do let d ← fa ρ; M.opt (itemsD d)
theorem Rep.dictE {g : Gh} {F : Hp} {v : V} {ks ds : List D} (r : Rep g F v (.dict ks ds)) : ∃ a od u, v = .ref a ∧ F a = some (.frz od u) ∧ DCon g F a ks ds u := by
  cases r with
  | dictK h r => exact ⟨_, _, _, rfl, h, .k rfl r⟩
  | dictT h o r1 r2 => exact ⟨_, _, _, rfl, h, .t o r1 r2⟩
theorem di_seq {l : Expr} {fa : Rho → M D} (hK : X.K = g.K) (h : PE X l (RdV g fa)) : PI X tg l (RdI g (evItems fa)) := by
  refine ⟨fun pins s σ H R I ⟨F0, H0, F, ρ, n, ds, n', e, m, k⟩ => ?_⟩
  obtain ⟨d, n1, e1, e⟩ := M.bind_some e
  obtain ⟨e3, e4⟩ := M.opt_ok e
  simp only at e3 e4
  subst e4
  have seq : itemsS d = some ds → wpAny (model X.prog X.w) X.A (eval l X.env) (fun v s1 => wpAny (model X.prog X.w) X.A (pyIter v) (PIE X pins σ tg R) X.xe s1) X.xe s := fun q =>
    (di_seqS hK h).run pins s σ H R I ⟨F0, H0, F, ρ, n, ds, n', by unfold evItemsS; rw [M.bind_ap, e1]; show (M.opt (itemsS d)) n' = _; rw [q]; rfl, m, k⟩
  cases d with
  | dict ks vs =>
    have e3' : ks = ds := Option.some.inj e3
    refine thn (h.run pins s σ H (fun v H1 => ∃ F', Grow g F H F' H1 ∧ Same F' (vis g H1) ∧ PoolAt g n' H1 ∧ Rep g F' v (.dict ks vs)) I ⟨F0, H0, F, ρ, n, _, _, e1, m, fun v F' H' gr s P r => ⟨F', gr, s, P, r⟩⟩) fun u s1 ⟨v, H1, I1, r1, F', gr, sm, P, r⟩ => ?_
    obtain ⟨a, od, w, rfl, hF, c⟩ := r.dictE
    obtain rfl : u = Value.ref a := r1
    have hH : H1 a = some (.frz od w) := sm.trans vis_same a _ hF
    obtain ⟨lo, hz, es, ep, ⟨o', ho', hx, hd⟩, hs, kv, vv, rk, rrk, _, _⟩ := dcon_raw I1.hok (.inr ⟨od, hH⟩) c
    have ho := frz_get I1 hH
    rw [ho] at ho'
    cases ho'
    have hl := rrk.length
    refine iter_keys lo ho hx hd (pi_one (tk := s1.toks) I1 _ (turn_raw (K := X.K) _ hd (by omega) rk) ⟨_, Heap.get?_push_size _ rfl, rfl, ?_⟩ (k _ F' H1 gr sm P (e3' ▸ walks_raw hF rrk)))
    rw [hs, hl] <;> rfl
  | _ => exact seq e3
end
end Ev

set_option Elab.async false
set_option linter.all false
set_option autoImplicit false
set_option maxRecDepth 100000
set_option maxHeartbeats 2000000
/-! EvD4: dict comprehensions, displays, stores, get, pop, update as readings. -/
namespace Ev
open PySem PySem.Spec PyProof.Rows L2

theorem DCon.any {g : Gh} {F : Hp} {a : Addr} {ks ds : List D} {u : HO} (c : DCon g F a ks ds u) : (∀ b q, u ≠ LamX.CodeO b q) ∧ Mut (some u) := by
  cases c with
  | k _ _ => exact ⟨(fun _ _ z => nomatch z), trivial⟩
  | t _ _ _ => exact ⟨fun b q => dx_code, trivial⟩
theorem dkeys_le {ks : List D} {k : D} : (dkeys ks k).length ≤ ks.length + 1 := by
  unfold dkeys
  split <;> simp
/-! ### comprehensions -/
def dcBody (own : List Nat) (t : Tgt) (fc : Rho → M Bool) (fk fv : Rho → M D) (ρ : Rho) (d : D) : M (Option (D × D)) := do
  let ρ' ← M.opt (bindT t d (wipeR ρ own))
  let c ← fc ρ'
  if c then (do let k ← fk ρ'; let v ← fv ρ'; pure (some (k, v))) else pure none
def dcGo (body : D → M (Option (D × D))) : List D → List D → List D → M (List D × List D)
  | [], ks, vs => pure (ks, vs)
  | d :: ds, ks, vs => do
    let r ← body d
    match r with
    | none => dcGo body ds ks vs
    | some p => if kindOk ks p.1 then dcGo body ds (dkeys ks p.1) (dvals ks vs p.1 p.2) else M.fail
def evDc (own : List Nat) (t : Tgt) (fi : Rho → M (List D)) (fc : Rho → M Bool) (fk fv : Rho → M D) : Rho → M D := fun ρ => do
  let ds ← fi ρ
  if ds.length < 16777216 then (do let r ← dcGo (dcBody own t fc fk fv ρ) ds [] []; pure (.dict r.1 r.2)) else M.fail
section
variable {X : Cx} {g : Gh} {pos : Pos}
theorem tDX_of {t : Tgt} {own : List Nat} {fi : Rho → M (List D)} {fc : Rho → M Bool} {fk fv : Rho → M D} {σ : L2.St} {H : Hp} {Q : VK} (ho : ∀ i ∈ t.slots, i ∈ own) (h : RdF g (evDc own t fi fc fk fv) σ H Q) :
    tDX g (RdI g fi) (gRd g t) (RdT g fc) (RdV g fk) (RdV g fv) own σ H Q := by
  obtain ⟨F0, H0, F, ρ, n, d, n', e, m, k⟩ := h
  obtain ⟨ds, n1, e1, e⟩ := M.bind_some e
  split at e
  case isFalse => cases e
  rename_i hz
  obtain ⟨rs, n2, e2, e⟩ := M.bind_some e
  cases e
  refine ⟨F0, H0, F, ρ, n, ds, n1, e1, m, fun J F1 H1 g1 s1 P1 wk a ha => ?_⟩
  have ne := P1.fresh ha
  have nc := ne.nh
  have ha0 := sub_none s1 ha
  refine ⟨fun i mm H => mm + i = ds.length ∧ ∃ F2 nn ks vs u, dcGo (dcBody own t fc fk fv ρ) (ds.drop i) ks vs nn = some (rs, n') ∧ ks.length ≤ i ∧ Grow g F1 H1 F2 H ∧ H a = some u ∧ F2 a = none ∧ DCon g F2 a ks vs u ∧ Same F2 (vis g H) ∧ PoolAt g nn H,
    ⟨ds.length, by omega, F1, n1, [], [], .dK [], e2, Nat.zero_le _, Grow.refl.updN ha nc, upd_same, ha0, .k rfl .nil, sub_updN s1 ha0 nc, P1.upd ha⟩, ?_⟩
  rintro i mm H ⟨hm, F2, nn, ks, vs, u, e3, hl, g2, hd, hd2, dc, s2, P2⟩
  have gg := g1.trans g2
  by_cases hi : i < ds.length
  · refine .inr ?_
    obtain ⟨x0, hdi⟩ : ∃ d, ds[i]? = some d := ⟨ds[i], by simp [hi]⟩
    have hdrop : ds.drop i = x0 :: ds.drop (i + 1) := by
      rw [List.drop_eq_getElem_cons hi]
      congr 1
      rw [List.getElem?_eq_getElem hi] at hdi
      exact Option.some.inj hdi
    rw [hdrop] at e3
    obtain ⟨r, n3, e5, e3⟩ := M.bind_some e3
    obtain ⟨hgo, hy⟩ := wk.go i x0 F2 H nn g2.f s2 P2 hdi
    refine ⟨hgo, fun H' => ∃ F2 nn ks vs u, dcGo (dcBody own t fc fk fv ρ) (ds.drop (i + 1)) ks vs nn = some (rs, n') ∧ ks.length ≤ i + 1 ∧ Grow g F1 H1 F2 H' ∧ H' a = some u ∧ F2 a = none ∧ DCon g F2 a ks vs u ∧ Same F2 (vis g H') ∧ PoolAt g nn H', ?_, ?_⟩
    · rintro H' q
      exact ⟨mm - 1, by omega, by omega, q⟩
    · intro x H' hx
      obtain ⟨F3, g3, s3, P3, r3⟩ := hy x H' hx
      unfold dcBody at e5
      obtain ⟨ρ', n5, e7, e5a⟩ := M.bind_some e5
      obtain ⟨e8, e9⟩ := M.opt_ok e7
      simp only at e8 e9
      subst e9
      obtain ⟨c, n6, e10, e5b⟩ := M.bind_some e5a
      clear e5 e5a e7
      have m3 := ((m.grow g1 s1 P1).grow g2 s2 P2).grow g3 s3 P3
      refine ⟨F0, H0, F3, _, _, x0, ρ', e8, m3.wipe own, r3, fun σ' hb m4 => ⟨?_, ?_⟩⟩
      · rw [hb own ho]
        clear hb
        exact tLc_of.wipe_wipe own σ
      · refine ⟨F0, H0, F3, ρ', _, c, n6, e10, m4, fun F4 H4 g4 s4 P4 => ?_⟩
        have keep : ∀ {F' H'}, Grow g F2 H F' H' → H' a = some u ∧ F' a = none := fun {F' H'} gr => by
          have z := gr.h a _ (by rw [vis_ne nc]; exact hd)
          rw [vis_ne nc] at z
          exact ⟨z, by rw [gr.keepF nc hd dc.nc]; exact hd2⟩
        have k4 := keep (g3.trans g4)
        cases c with
        | false =>
          cases e5b
          exact iteF ⟨F4, n3, ks, vs, u, e3, by omega, (g2.trans g3).trans g4, k4.1, k4.2, dc.mono (g3.trans g4).f, s4, P4⟩
        | true =>
          obtain ⟨kd, n7, e11, e5c⟩ := M.bind_some e5b
          obtain ⟨vd, n8, e12, e5d⟩ := M.bind_some e5c
          cases e5d
          simp only at e3
          split at e3
          case isFalse => cases e3
          rename_i ko
          refine iteT ⟨F0, H0, F4, ρ', n6, kd, _, e11, m4.grow g4 s4 P4, fun y F5 H5 g5 s5 P5 r5 => ⟨F0, H0, F5, ρ', n7, vd, n3, e12, (m4.grow g4 s4 P4).grow g5 s5 P5, fun z F6 H6 g6 s6 P6 r6 => ?_⟩⟩
          have g26 := ((g3.trans g4).trans g5).trans g6
          have k6 := keep g26
          refine ⟨F6, u, ks, vs, kd, vd, k6.1, dc.mono g26.f, s6.trans vis_same, r5.mono g6.f, ko, r6, by rw [← sz]; omega, fun u' dc' => ?_⟩
          have hn := @dkeys_le ks kd
          exact ⟨F6, n3, _, _, u', e3, by omega, (g2.trans g26).updN ha nc, upd_same, k6.2, dc', sub_updN s6 k6.2 nc, P6.updN ne k6.1 dc.any.1⟩
  · refine .inl ?_
    have hi' : i = ds.length := by omega
    subst hi'
    rw [List.drop_length] at e3
    cases e3
    exact ⟨wk.stop F2 H g2.f s2, k a F2 H gg s2 P2 (g1.fresh ha) hd2 (dc.own hd)⟩
theorem df_dc {kx vx tg iter : Expr} {ifs : List Expr} {scope : Scope} {own : List (Str × Nat)} {t : Tgt} {fi : Rho → M (List D)} {fc : Rho → M Bool} {fk fv : Rho → M D} (hu : X.A.units + 9 < cLine) (hK : X.K = g.K) (hw : g.w = X.w) (hc : X.calm = true) (hN : X.N.Nodup) (hi : PI X tg iter (RdI g fi)) (ok : BlkOk X.N X.env.scope scope own)
    (hg : ∀ (s : Shared) (H : Hp) (C : Addr) (cl : List (Str × Addr)) (fp : List Addr), PG (X.blk s H scope (compEnvC scope cl C X.env) fp) tg (gRd g t)) (ht : ∀ (s : Shared) (H : Hp) (C : Addr) (cl : List (Str × Addr)) (fp : List Addr), PTs (X.blk s H scope (compEnvC scope cl C X.env) fp) ifs (RdT g fc))
    (hk : ∀ (s : Shared) (H : Hp) (C : Addr) (cl : List (Str × Addr)) (fp : List Addr), PE (X.blk s H scope (compEnvC scope cl C X.env) fp) kx (RdV g fk))
    (he : ∀ (s : Shared) (H : Hp) (C : Addr) (cl : List (Str × Addr)) (fp : List Addr), PE (X.blk s H scope (compEnvC scope cl C X.env) fp) vx (RdV g fv)) (hs : ∀ x, foldedSetIterable iter X.env x = pure x) (ho : ∀ i ∈ t.slots, i ∈ own.map (·.2)) :
    PE X (.DictComp kx vx [⟨tg, iter, ifs, 0⟩] scope pos) (RdF g (evDc (own.map (·.2)) t fi fc fk fv)) := by
  refine ⟨fun pins s σ H Q I h => ?_⟩
  rw [arm_eval_DictComp]
  refine dx_comp hu hK hw hc hN I hi ok hg ht hk he hs (tDX_of ho h) fun a C s' m H' I' q hn f => ⟨m, hn, fun h'' sb => ?_⟩
  obtain ⟨z0, z1, z2, z3, z4, z5⟩ := f
  exact ⟨.ref a, H', I'.turned (t' := s'.toks) (fun b o hb e => (sb.2 b hb).trans e) z0 z1 z3 z4 z5, rfl, q⟩
/-- name = {..}, a comprehension, on a line of its own -/
theorem x_setDc {i : Nat} {y : Str} {py : Pos} {kx vx tg iter : Expr} {ifs : List Expr} {scope : Scope} {own : List (Str × Nat)} {spos : Pos} {t : Tgt} {fi : Rho → M (List D)} {fc : Rho → M Bool} {fk fv : Rho → M D} (hu : X.A.units + 9 < cLine) (hK : X.K = g.K) (hw : g.w = X.w) (hc : X.calm = true) (hN : X.N.Nodup)
    (hy : X.N[i]? = some y) (hyl : X.env.scope.names.lookup y = some .local) (hsw : swapsWith (.DictComp kx vx [⟨tg, iter, ifs, 0⟩] scope pos) (some (.Name y py)) spos.line X.env = pure true) (hi : PI X tg iter (RdI g fi)) (ok : BlkOk X.N X.env.scope scope own)
    (hg : ∀ (s : Shared) (H : Hp) (C : Addr) (cl : List (Str × Addr)) (fp : List Addr), PG (X.blk s H scope (compEnvC scope cl C X.env) fp) tg (gRd g t)) (ht : ∀ (s : Shared) (H : Hp) (C : Addr) (cl : List (Str × Addr)) (fp : List Addr), PTs (X.blk s H scope (compEnvC scope cl C X.env) fp) ifs (RdT g fc))
    (hk : ∀ (s : Shared) (H : Hp) (C : Addr) (cl : List (Str × Addr)) (fp : List Addr), PE (X.blk s H scope (compEnvC scope cl C X.env) fp) kx (RdV g fk))
    (he : ∀ (s : Shared) (H : Hp) (C : Addr) (cl : List (Str × Addr)) (fp : List Addr), PE (X.blk s H scope (compEnvC scope cl C X.env) fp) vx (RdV g fv)) (hs : ∀ x, foldedSetIterable iter X.env x = pure x) (ho : ∀ i ∈ t.slots, i ∈ own.map (·.2)) :
    PS X (.Assign [.Name y py] (.DictComp kx vx [⟨tg, iter, ifs, 0⟩] scope pos) spos) (RdS g (xOwn i (evDc (own.map (·.2)) t fi fc fk fv))) := by
  refine ⟨fun pins s σ H E I h => ?_⟩
  have q : RdF g (evDc (own.map (·.2)) t fi fc fk fv) σ H (fun x H1 => gName i x σ H1 E.nx) := tOwn_of h
  rw [exec_Assign_Name_used _ _ _ _ hsw]
  refine wpAny_bind (wpAny_standAt (wpAny_bind ?_))
  show wpAny _ X.A (do let _ ← comprehension (.DictComp kx vx [⟨tg, iter, ifs, 0⟩] scope pos) scope X.env (firstIterPos [⟨tg, iter, ifs, 0⟩] pos) newDict false (eval iter X.env) (some (assign (.Name y py) X.env))) _ _ s
  refine wpAny_bind (thn (dx_comp (Qf := fun _ s' => SP X pins E .next s') hu hK hw hc hN I hi ok hg ht hk he hs (tDX_of ho q) fun a C s' m H' I' qa hn f => ?_) fun _ s' r => wpAny_pure (wpAny_pure r))
  show wpAny _ _ (assign (.Name y py) X.env (.ref a)) _ _ _
  obtain ⟨z0, z1, z2, z3, z4, z5⟩ := f
  refine wpAny_assign_Name (store_ok2 (v := V.ref a) I' hN hy (.inl hyl) rfl (fun s2 I2 ⟨b, sb, hb⟩ => ⟨m, hn.sameBut sb ?_, fun h3 sb3 => ⟨_, H', I2.turned (t' := s2.toks) (fun c o hc e => (sb3.2 c hc).trans e) z0 z1 z3 z4 z5, qa⟩⟩) (.inr hyl))
  rcases hb with z | z
  · rw [z]; exact z1
  · exact fun e => z4 y b z e.symm
/-! ### displays -/
def evD0 : Rho → M D := fun _ => pure (.dict [] [])
theorem df_d0 : PE X (.Dict [] [] pos) (RdF g evD0) := pe_wk pe_dnewK fun σ H Q ⟨F0, H0, F, ρ, n, d, n', e, m, k⟩ p hp => by
  cases e
  exact k p F _ (Grow.new m.pool hp) (sub_new m.sub m.pool hp) (m.pool.upd hp) hp (sub_none m.sub hp) (.dictK (kvs := []) upd_same .nil)
def evD1 (fk fv : Rho → M D) : Rho → M D := fun ρ => do
  let k ← fk ρ
  let v ← fv ρ
  if kindOk [] k then pure (.dict [k] [v]) else M.fail
theorem df_d1 {kx vx : Expr} {fk fv : Rho → M D} (hu : X.A.units + 9 < cLine) (hK : X.K = g.K) (hw : g.w = X.w) (hk : PE X kx (RdV g fk)) (hv : PE X vx (RdV g fv)) : PE X (.Dict [some kx] [vx] pos) (RdF g (evD1 fk fv)) := by
  refine ⟨fun pins s σ H Q I ⟨F0, H0, F, ρ, n, d, n', e, m, k⟩ => ?_⟩
  obtain ⟨kd, n1, e1, e⟩ := M.bind_some e
  obtain ⟨vd, n2, e2, e⟩ := M.bind_some e
  split at e
  case isFalse => cases e
  rename_i ko
  cases e
  have hsz : s.heap.objs.size ≤ s.heap.objs.size := Nat.le_refl _
  rcases kindOk_cases ko with ⟨key, rfl, _⟩ | ⟨h1, _⟩
  · refine (pe_disp (pps_cons hk hv pps_nil) rfl rfl (by simp) (show 1 ≤ 15 by decide) : PE X (.Dict [some kx] [vx] pos) _).run pins s σ H Q I fun p hp => ?_
    have ne := m.pool.fresh hp
    refine ⟨F0, H0, F, ρ, n, _, n1, e1, m.grow (Grow.new m.pool hp) (sub_new m.sub m.pool hp) (m.pool.upd hp), fun y F1 H1 g1 s1 P1 r1 => ⟨F0, H0, F1, ρ, n1, vd, _, e2, (m.grow (Grow.new m.pool hp) (sub_new m.sub m.pool hp) (m.pool.upd hp)).grow g1 s1 P1, fun z F2 H2 g2 s2 P2 r2 => ?_⟩⟩
    have g12 := g1.trans g2
    have hp2 : H2 p = some (.dK []) := by
      have z := g12.h p _ (by rw [vis_ne ne.nh, upd_same])
      rwa [vis_ne ne.nh] at z
    have hf2 : F2 p = none := by rw [g12.keepF ne.nh upd_same nofun]; exact sub_none m.sub hp
    obtain rfl := rep_key r1
    refine ⟨hp2, [(key, z)], rfl, by simp, ?_⟩
    refine k p F2 _ (((Grow.new m.pool hp).trans g12).updN hp ne.nh) (sub_updN s2 hf2 ne.nh) (P2.updN ne hp2) hp hf2 (.dictK (kvs := [(key, z)]) upd_same (.cons r2 .nil))
  · rw [arm_eval_Dict]
    have shape : (evalEachOpt [some kx] X.env).zip ((evalEach [vx] X.env).map fun v => do let x ← v; standAt pos; pure x) = (pairTrees [some kx] [vx] X.env pos).map fun p => (some p.1, p.2) := rfl
    rw [shape, dictDisplay_pairs (pairTrees [some kx] [vx] X.env pos) (fun z => nomatch z) (show 1 < 17 by decide)]
    have I0 : Inv X pins σ (upd H s.heap.objs.size (.dK [])) { s with heap := s.heap.push { cls := .type "dict", data := .dict #[] } } := I.laid (t' := s.toks) (fun _ _ e => Heap.get?_push_of_some _ e) (Nat.le_refl _) (dk_empty s.heap I.big)
    have hp : H s.heap.objs.size = none := I.hok.fresh (Nat.le_refl _)
    have ne := m.pool.fresh hp
    refine wpAny_bind (wpAny_standAt (wpAny_bind (wpAny_subDictH (knd := nestedKind X.prog X.w) (by show X.A.units + 8 < cLine; omega) (show 1 ≤ 15 by decide) ?_)))
    have m0 := m.grow (Grow.new (o := .dK []) m.pool hp) (sub_new m.sub m.pool hp) (m.pool.upd hp)
    refine pairTrees_cons_walk (thn (hk.run pins _ σ _ (fun y H1 => ∃ F1, Grow g F (upd H s.heap.objs.size (.dK [])) F1 H1 ∧ Same F1 (vis g H1) ∧ PoolAt g n1 H1 ∧ Rep g F1 y kd) I0 ⟨F0, H0, F, ρ, n, kd, n1, e1, m0, fun y F1 H1 g1 s1 P1 r1 => ⟨F1, g1, s1, P1, r1⟩⟩) fun ku s1 ⟨y, H1, I1, ry, F1, g1, sm1, P1, r1⟩ => ?_)
    refine thn (hv.run pins _ σ _ (fun z H2 => ∃ F2, Grow g F1 H1 F2 H2 ∧ Same F2 (vis g H2) ∧ PoolAt g n' H2 ∧ Rep g F2 z vd) I1 ⟨F0, H0, F1, ρ, n1, vd, n', e2, m0.grow g1 sm1 P1, fun z F2 H2 g2 s2 P2 r2 => ⟨F2, g2, s2, P2, r2⟩⟩) fun vu s2 ⟨z, H2, I2, rz, F2, g2, sm2, P2, r2⟩ => pairTrees_nil_walk ?_
    have g12 := g1.trans g2
    have hp2 : H2 s.heap.objs.size = some (.dK []) := by
      have q := g12.h s.heap.objs.size _ (by rw [vis_ne ne.nh, upd_same])
      rwa [vis_ne ne.nh] at q
    have hf2 : F2 s.heap.objs.size = none := by rw [g12.keepF ne.nh upd_same nofun]; exact sub_none m.sub hp
    obtain ⟨b, rfl⟩ := rep_tup r1 h1
    obtain rfl : ku = Value.ref b := ry
    have rk2 := r1.mono g2.f
    obtain ⟨lo, hz, xs, dd, ex, _⟩ := dcon_t (g := g) (F := F2) (ks := []) (ds := []) I2.hok (by rw [← hK]; exact I2.kIn) hw (sm2.trans vis_same) (.inl hp2) (.k rfl .nil) rfl
    obtain rfl : xs = [] := by simpa using ex
    refine ⟨[(keyOf kd, b, vu)], ⟨rfl, rfl, key_is I2.hok (by rw [← hK]; exact I2.kIn) (rk2.mono (sm2.trans vis_same)) h1, trivial⟩, dd, fun h' tk d' sb => wpAny_pure ?_⟩
    obtain ⟨o, es', ep, q1, q2, q3, q4, _, _⟩ := d'
    have nd : ([kd].map keyOf).Nodup := by simp
    refine ⟨.ref s.heap.objs.size, upd H2 s.heap.objs.size (DX s.heap.objs.size [((keyOf kd).hash X.w, b, z)]), d_write (t' := tk) I2 (by rw [hp2]; trivial) sb ⟨o, q1⟩ ⟨⟨lo, by rw [sizeLine_eq]; show 1 ≤ 16777216; decide, o, es', ep, q1, q2, q3, ?_⟩, ⟨o, q1⟩, fun h1 h2 ⟨p1, p2, o', e1', e2', p3, p4⟩ st => ⟨p1, p2, o', e1', e2', st _ p3, p4⟩⟩, rfl, ?_⟩
    · rw [q4]
      exact .cons ⟨rfl, rfl, rz⟩ .nil
    · exact k s.heap.objs.size F2 _ (((Grow.new m.pool hp).trans g12).updN hp ne.nh) (sub_updN sm2 hf2 ne.nh) (P2.updN ne hp2) hp hf2 (.dictT upd_same ⟨by simpa using h1, by rw [hw]; rfl, nd⟩ (.cons rk2 .nil) (.cons r2 .nil))
end
end Ev

set_option Elab.async false
set_option linter.all false
set_option autoImplicit false
set_option maxRecDepth 100000
set_option maxHeartbeats 2000000
/-! EvD5: dicts stored to. -/
namespace Ev
open PySem PySem.Spec PyProof.Rows L2
def setRA (ρ : Rho) (i : Nat) (k d : D) : Option Rho := match ρ[i]? with
  | some (.own (.dict ks vs)) => if (kindOk ks k && decide (ks.length < 16777216)) = true then some (ρ.set i (.own (.dict (dkeys ks k) (dvals ks vs k d)))) else none
  | _ => setR ρ i k d
def xSetA (i : Nat) (fi fe : Rho → M D) : Rho → M Out := fun ρ => do
  let d ← fe ρ
  let k ← fi ρ
  let ρ' ← M.opt (setRA ρ i k d)
  pure (.nx ρ')
section
variable {X : Cx} {g : Gh} {pos : Pos} {e : Expr} {fe fi : Rho → M D}
theorem rdP_dict {i : Nat} {F0 H0 F : Hp} {ρ : Rho} {n : Nat} {σ : L2.St} {H : Hp} {ks ds : List D} (m : Mdl g F0 H0 F ρ n σ H) (e : ρ[i]? = some (.own (.dict ks ds))) : ∃ a u, σ[i]? = some (some (.ref a)) ∧ H a = some u ∧ DCon g F a ks ds u ∧ F a = Option.none ∧ H0 a = Option.none := by
  obtain ⟨a, ha, o, hf, h0⟩ := m.slot i _ e
  obtain ⟨u, hu, c⟩ := o.dcon
  exact ⟨a, u, ha, hu, c, hf, h0⟩
theorem dict_after {H0 F F' H H' : Hp} {ks ds : List D} {a : Addr} {u : HO} (p0 : P0 g H0) (h0 : H0 a = Option.none) (hh : H a = some u) (c : DCon g F a ks ds u) (hf : F a = Option.none) (gr : Grow g F H F' H') : H' a = some u ∧ DCon g F' a ks ds u ∧ F' a = Option.none := by
  have ne := (H0_ne p0 h0).nh
  have q := gr.h a _ (by rw [vis_ne ne]; exact hh)
  rw [vis_ne ne] at q
  exact ⟨q, c.mono gr.f, by rw [gr.keepF ne hh c.nc]; exact hf⟩
theorem x_setA {i : Nat} {x : Str} {p p2 : Pos} {e1 : Expr} (hu : X.A.units + 9 < cLine) (hK : X.K = g.K) (hw : g.w = X.w) (hN : X.N[i]? = some x) (hv : Vis X.env.scope x) (hd : (x == ("__debug__" : Str)) = false) (hcd : (x == ("__classdict__" : Str)) = false) (he : PE X e (RdV g fe)) (hi : PE X e1 (RdV g fi))
    (ha : ∀ v, assign (.Subscript (.Name x p) e1 p2) X.env v = (do
      let ov ← holding [v] (eval (.Name x p) X.env)
      let iv ← holding [v, ov] (eval e1 X.env)
      standAt p2
      holding [v, ov, iv] (setItem ov iv v)
      release [v, ov, iv] []))
    (hs : swapsWithSole [.Subscript (.Name x p) e1 p2] e pos.line X.env = pure false) (hs2 : swapsWith e (some (.Subscript (.Name x p) e1 p2)) pos.line X.env = pure false) (hsw : swappedStores [.Subscript (.Name x p) e1 p2] e X.env = pure none) (h1 : (assignEach [.Subscript (.Name x p) e1 p2] X.env).map (·.2) = [assign (.Subscript (.Name x p) e1 p2) X.env]) :
    PS X (.Assign [.Subscript (.Name x p) e1 p2] e pos) (RdS g (xSetA i fi fe)) := by
  refine ⟨fun pins s σ H E I ⟨F0, H0, F, ρ, n, o, n', eo, m, k⟩ => ?_⟩
  obtain ⟨d, n1, e1', eo'⟩ := M.bind_some eo
  obtain ⟨kd, n2, e2, eo''⟩ := M.bind_some eo'
  obtain ⟨ρ', n3, e6, e7⟩ := M.bind_some eo''
  cases e7
  obtain ⟨e8, e9⟩ := M.opt_ok e6
  simp only at e8 e9
  subst e9
  have plain : setR ρ i kd d = some ρ' → wpAny (model X.prog X.w) X.A (exec (.Assign [.Subscript (.Name x p) e1 p2] e pos) X.env) (fun fl s' => SP X pins E fl s') X.xe s := fun q =>
    (x_set hN hv hd hcd he hi ha hs hsw h1).run pins s σ H E I ⟨F0, H0, F, ρ, n, .nx ρ', n', by unfold xSet; rw [M.bind_ap, e1']; show (fi ρ >>= _) n1 = _; rw [M.bind_ap, e2]; show (M.opt (setR ρ i kd d) >>= _) n' = _; rw [q]; rfl, m, k⟩
  unfold setRA at e8
  split at e8
  · rename_i ks vs hsl
    split at e8
    case isFalse => cases e8
    rename_i hc
    cases e8
    rw [Bool.and_eq_true, decide_eq_true_eq] at hc
    obtain ⟨a, u, hsa, hua, c, hf, h0⟩ := rdP_dict m hsl
    refine wpAny_Assign_Subscript (thn (he.run pins s σ H (fun v H1 => ∃ F1, Grow g F H F1 H1 ∧ Same F1 (vis g H1) ∧ PoolAt g n1 H1 ∧ Rep g F1 v d) I ⟨F0, H0, F, ρ, n, d, n1, e1', m, fun v F1 H1 g1 s1 P1 r1 => ⟨F1, g1, s1, P1, r1⟩⟩) fun r s1 ⟨v, H1, I1, rv, F1, g1, sm1, P1, r1⟩ => ?_) hs2
    refine thn ((pe_var (i := i) (pos := p) hN hv hd hcd).run pins s1 σ H1 (fun y H2 => y = .ref a ∧ H2 = H1) I1 ⟨.ref a, hsa, rfl, rfl⟩) fun u2 s2 ⟨y, H2, I2, ry, q2⟩ => ?_
    obtain ⟨rfl, rfl⟩ := q2
    obtain rfl : u2 = Value.ref a := ry
    have m1 := m.grow g1 sm1 P1
    refine thn (hi.run pins s2 σ H2 (fun y H3 => ∃ F3, Grow g F1 H2 F3 H3 ∧ Same F3 (vis g H3) ∧ PoolAt g n' H3 ∧ Rep g F3 y kd) I2 ⟨F0, H0, F1, ρ, n1, kd, n', e2, m1, fun y F3 H3 g3 s3 P3 r3 => ⟨F3, g3, s3, P3, r3⟩⟩) fun iv s3 ⟨y, H3, I3, ry3, F3, g3, sm3, P3, r3⟩ => ?_
    obtain ⟨q1, q2, q3⟩ := dict_after m.p0 h0 hua c hf (g1.trans g3)
    refine dx_put true hu I3 hK hw (sm3.trans vis_same) q1 q2 r3 hc.1 ry3 (r1.mono g3.f) rv (by rw [← sz]; exact hc.2) fun s4 u' I4 dc => ⟨σ, _, I4, ?_⟩
    exact k F3 σ _ (g1.trans g3).f ((m1.grow g3 sm3 P3).writeO hsl hsa q3 h0 q1 q2.any.1 (dc.own upd_same))
  · exact plain e8
end
end Ev

set_option Elab.async false
set_option linter.all false
set_option autoImplicit false
set_option maxRecDepth 100000
set_option maxHeartbeats 2000000
/-! EvE: enumerate of lists and tuples. -/
namespace Ev
open PySem PySem.Spec PyProof.Rows L2
theorem enum_new1 {v : Value} {o : Obj} {H : Heap → Prop} (B : Begins v o H) : Meets (Builtin.«enumerate.__new__» ⟨[.type "enumerate", v], []⟩) (fun _ R s => H s.heap ∧
    R (.ok (.ret (.ref (s.heap.push o).objs.size))) { s with heap := (s.heap.push o).push { cls := .type "enumerate", data := .fields #[.none, .bool false, .ref s.heap.objs.size, rawInt 0, .none, .none] } }) :=
  .of_wp fun P w A R ⟨hp, ge, dr, tk, os⟩ ⟨h1, h⟩ => by
    have sub := sub_enumerate
    have go : ∀ {A' : Around} {E : Value → Shared → Prop} {Q : Value → Shared → Prop}, Q (.ref hp.objs.size) ⟨hp.push o, ge, dr, tk, os⟩ → wpAny (model P w) A' (pyIter v) Q E ⟨hp, ge, dr, tk, os⟩ := fun q => B.iter P w _ _ ⟨hp, ge, dr, tk, os⟩ _ h1 q
    wp_walk using go
    refine wpAny_stack_any fun st => wpAny_pure ?_
    split
    · rename_i c _ _ _ _ _
      cases (c == Value.type "enumerate") <;> (wp_walk using go) <;> exact ⟨_, rfl, h⟩
    · wp_walk using go
      exact ⟨_, rfl, h⟩
section
variable {P : Program} {w : World} {A : Around} {E : Value → Shared → Prop} {s : Shared}
theorem enum_made {v : Value} {o : Obj} {H : Heap → Prop} {Q : Value → Shared → Prop} (B : Begins v o H) (h1 : H s.heap)
    (h : ∀ h', IsEnum h' (s.heap.objs.size + 1) s.heap.objs.size 0 .none → h'.get? s.heap.objs.size = some o → (∀ b o, s.heap.get? b = some o → h'.get? b = some o) → Q (.ref (s.heap.objs.size + 1)) { s with heap := h' }) :
    wpAny (model P w) A (call (.type "enumerate") [v]) Q E s := by
  refine callType_new F.called_enumerate (by decide) (F.typeCall_enumerate_1 _) (F.newCall_enumerate_1 _) (fun obj => F.args_object_init_2 obj _) F.entry_enumerate_new (enum_new1 B) ⟨h1, ?_⟩
  have z : (s.heap.push o).objs.size = s.heap.objs.size + 1 := Heap.size_push ..
  have he : IsEnum ((s.heap.push o).push { cls := .type "enumerate", data := .fields #[.none, .bool false, .ref s.heap.objs.size, rawInt 0, .none, .none] }) (s.heap.objs.size + 1) s.heap.objs.size 0 .none := by
    rw [← z]
    exact Heap.get?_push_size (s.heap.push o) rfl
  show _ ∧ _
  rw [z]
  exact ⟨⟨_, he, rfl⟩, h _ he (Heap.get?_push_of_some _ (Heap.get?_push_size _ B.free)) fun b o' x => Heap.get?_push_of_some _ (Heap.get?_push_of_some _ x)⟩
end
/-- the turns of enumerate over the tuple at a -/
def ItEn (K : PySem.W.Frag) (a : Addr) : It :=
  ⟨fun i H => ∃ (xs : List V) (x : V), SqT K H a xs ∧ xs[i]? = some x, fun i H v H' => ∃ T x, v = .ref T ∧ H T = none ∧ H' = upd H T (.tup [.int (i : Nat), x]) ∧ ∀ xs, SqT K H a xs → xs[i]? = some x, fun i H => ∃ xs : List V, SqT K H a xs ∧ xs.length = i⟩
theorem turn_en {P : Program} {w : World} {K : PySem.W.Frag} {elts : List Expr} {kk : Nat} {tpos : Pos} (a e it : Addr) :
    Turn P w K (.Tuple elts kk tpos) (ItEn K a) [e, it] e (fun i h => (∃ old, IsEnum h e it ((i : Nat) : Int) old) ∧ h.IsTupleIter it a i ∧ e ≠ it ∧ a ≠ it ∧ a ≠ e) where
  mem := List.mem_cons_self
  obj := fun i h ⟨⟨old, he⟩, ⟨o, ho, _, hd⟩, _⟩ b hb => by
    rcases List.mem_cons.mp hb with rfl | hb
    · exact ⟨_, he, fun v q => nomatch q⟩
    · cases List.mem_singleton.mp hb
      exact ⟨o, ho, fun v q => nomatch hd.symm.trans q⟩
  keep := fun i h h' ⟨⟨old, he⟩, hi, ne⟩ k => ⟨⟨old, k e List.mem_cons_self _ he⟩, hi.at fun o q => k it (List.mem_cons_of_mem _ List.mem_cons_self) o q, ne⟩
  item := by
    rintro X rfl rfl rfl hc i pins s σ H E I hf ⟨⟨old, he⟩, hit, ne, na, nae⟩ ⟨xs, x, hq, hx⟩
    obtain ⟨its, rv, p, hz⟩ := I.tuple hq
    obtain ⟨u, hu, ru⟩ := rv.get hx
    have hel : e < s.heap.objs.size := Heap.lt_size he
    have hil : it < s.heap.objs.size := by obtain ⟨_, q, _⟩ := hit; exact Heap.lt_size q
    have hi : i < its.toArray.size := by have := (List.getElem?_eq_some_iff.mp hu).1; simpa using this
    have D := Draws.tuple (prog := X.prog) (w := X.w) (A := X.A.in1) (I.ok.hd hc) it a na its.toArray
    refine wpAny_pyNext_enum_itemD D he ⟨hit, p⟩ hi ne (fun z => ?_) fun x' h' tk hP ho hs' hT hsz hk => ?_
    · rcases List.mem_cons.mp z with z | z
      · exact ne z
      · exact nae (List.mem_singleton.mp z).symm
    obtain ⟨hit', _⟩ := hs'
    obtain rfl : u = x' := by
      have : its.toArray[i]? = some u := by simpa using hu
      rw [this] at hP
      exact Option.some.inj hP
    refine ⟨_, rfl, wpAny_letOwnedTupleGo_enum (s := { s with heap := h', toks := tk + 1 }) ho fun h'' he' sb => ?_⟩
    have hT2 : h''.get? s.heap.objs.size = some { cls := .type "tuple", data := .seq #[.int i tk, u] } := (sb.2 _ (Nat.ne_of_gt hel)).trans hT
    have off : ∀ b ob, b ∉ [e, it] → s.heap.get? b = some ob → h''.get? b = some ob := fun b ob hb q => by
      simp only [List.mem_cons, List.not_mem_nil, or_false, not_or] at hb
      exact (sb.2 b hb.1).trans (hk b ob hb.1 hb.2 q)
    have new : ObjOk X.prog X.w (upd H s.heap.objs.size (.tup [.int (i : Nat), x])) h'' s.heap.objs.size (.tup [.int (i : Nat), x]) :=
      ⟨by show 2 ≤ sizeLine; decide, [.int i tk, u], .cons ⟨_, rfl⟩ (.cons ru .nil), ⟨_, hT2, rfl, _, rfl⟩⟩
    have I1 := I.turnedNew (t' := tk + 1) off hf (Nat.le_refl _) new
    refine ⟨.ref s.heap.objs.size, _, I1, rfl, ⟨_, x, rfl, I.hok.fresh (Nat.le_refl _), rfl, fun ys hy => by rw [I.tuple_inj hy hq]; exact hx⟩, ⟨⟨u, ?_⟩, hit'.at fun o q => (sb.2 it (Ne.symm ne)).trans q, ne, na, nae⟩, fun b hb => ?_⟩
    · have e1 : ((i + 1 : Nat) : Int) = (i : Int) + 1 := by omega
      rw [e1]; exact he'
    · have hb' : b < s.heap.objs.size := by
        rcases List.mem_cons.mp hb with rfl | hb
        · exact hel
        · cases List.mem_singleton.mp hb; exact hil
      rw [upd_ne (Nat.ne_of_lt hb')]
      exact (hf b hb).1
  done := by
    rintro X rfl rfl rfl hc i pins s σ H E I hf ⟨⟨old, he⟩, hit, ne, na, nae⟩ ⟨xs, hq, hx⟩
    obtain ⟨its, rv, p, hz⟩ := I.tuple hq
    obtain ⟨f0, f1, f2, f3, f4, f5⟩ := hf it (List.mem_cons_of_mem _ List.mem_cons_self)
    have hl := rv.length
    have D := Draws.tuple (prog := X.prog) (w := X.w) (A := X.A.in1) (I.ok.hd hc) it a na its.toArray
    have e : its.toArray.size = i := by simp; omega
    exact wpAny_pyNext_enum_endD D he ⟨e ▸ hit, p⟩ fun h' eb => ⟨rfl, I.turned (t' := s.toks) (fun b o hb q => eb b o hb q) f0 f1 f3 f4 f5⟩
  self := fun A i s Q E ⟨⟨old, he⟩, _⟩ h => wpAny_pyIter_enum he h
def enumGo : Nat → List D → List D
  | _, [] => []
  | i, d :: ds => .tup [.int i, d] :: enumGo (i + 1) ds
theorem enumGo_get : ∀ {ds : List D} {k i : Nat} {d : D}, (enumGo k ds)[i]? = some d → ∃ x, ds[i]? = some x ∧ d = .tup [.int ((k + i : Nat) : Int), x]
  | [], _, _, _, h => by simp [enumGo] at h
  | x :: ds, k, 0, d, h => by simp [enumGo] at h; exact ⟨x, rfl, h.symm⟩
  | x :: ds, k, i + 1, d, h => by
    obtain ⟨y, h1, h2⟩ := enumGo_get (ds := ds) (k := k + 1) (i := i) (by simpa [enumGo] using h)
    exact ⟨y, by simpa using h1, by rw [h2, show k + 1 + i = k + (i + 1) by omega]⟩
theorem enumGo_length : ∀ {ds : List D} {k : Nat}, (enumGo k ds).length = ds.length
  | [], _ => rfl
  | _ :: ds, k => by simp [enumGo, enumGo_length (ds := ds)]
def enumD : List D → Option (List D)
  | [.lst xs] => some (enumGo 0 xs)
  | [.tup xs] => some (enumGo 0 xs)
  | _ => none
section
variable {X : Cx} {g : Gh}
theorem walks_en {J : It} {F : Hp} {vs : List V} {ds : List D} (rv : RepAll g F vs ds) (hst : ∀ F1 H, Same F F1 → Same F1 (vis g H) → J.stop vs.length H)
    (hgo : ∀ F1 H, Same F F1 → Same F1 (vis g H) → ∀ (i : Nat) v, vs[i]? = some v → J.go i H)
    (hy : ∀ F1 H, Same F F1 → Same F1 (vis g H) → ∀ i x H' v, vs[i]? = some v → J.yld i H x H' → ∃ T, x = .ref T ∧ H T = Option.none ∧ H' = upd H T (.tup [.int (i : Nat), v])) : Walks g J F (enumGo 0 ds) := by
  refine ⟨fun F1 H s1 s2 => by rw [enumGo_length, ← rv.length]; exact hst F1 H s1 s2, fun i d F1 H n s1 s2 P e => ?_⟩
  obtain ⟨x, hx, rfl⟩ := enumGo_get e
  obtain ⟨v, hv, r1⟩ := rv.get hx
  refine ⟨hgo F1 H s1 s2 i v hv, fun y H' q => ?_⟩
  obtain ⟨T, rfl, hT, rfl⟩ := hy F1 H s1 s2 i y H' v hv q
  rw [Nat.zero_add]
  exact ⟨upd F1 T (.tup [.int i, v]), Grow.newF s2 P hT, sub_newF s2 P hT, P.upd hT, .tup (.of upd_same) (.cons (.int _) (.cons ((r1.mono s1).mono (same_upd (sub_none s2 hT))) .nil))⟩
theorem di_enum {a : Expr} {p pos tpos : Pos} {elts : List Expr} {kk : Nat} {fr : Rho → M (List D)} (hK : X.K = g.K) (hg : Gl X "enumerate") (hm : X.mg "enumerate" = none) (ha : PA X [a] (RdA g fr)) (hs : starEach [a] X.env = [(false, eval a X.env)]) :
    PI X (.Tuple elts kk tpos) (.Call (.Name "enumerate" p) [a] [] pos) (RdI g (evIt enumD fr)) := by
  refine ⟨fun pins s σ H R I ⟨F0, H0, F, ρ, n, ds, n', e, m, k⟩ => ?_⟩
  obtain ⟨xs, n1, e1, e⟩ := M.bind_some e
  obtain ⟨e3, e4⟩ := M.opt_ok e
  simp only at e3 e4
  subst e4
  unfold enumD at e3
  split at e3
  · rename_i xs
    cases e3
    refine (pi_enum hg hm ha hs).run pins s σ H R I ⟨F0, H0, F, ρ, n, _, _, e1, m, fun vs F' H' gr s P r => ?_⟩
    cases r with
    | cons r t =>
      cases t
      cases r with
      | @lst _ a' ws _ h1 q1 =>
      have at_ : ∀ F1 H1, Same F' F1 → Same F1 (vis g H1) → SqL X.K H1 a' ws := fun F1 H1 s1 s2 => .of ((s1.trans s2).trans vis_same a' _ h1)
      refine ⟨a', ws, rfl, at_ F' H' (Same.refl _) s, k _ F' H' gr s P (walks_en q1 (fun F1 H1 s1 s2 => ⟨ws, at_ F1 H1 s1 s2, Nat.le_refl _⟩) (fun F1 H1 s1 s2 i v hv => ⟨ws, v, at_ F1 H1 s1 s2, hv⟩) ?_)⟩
      rintro F1 H1 s1 s2 i x H2 v hv ⟨T, y, rfl, hT, rfl, hy⟩
      have := hy ws (at_ F1 H1 s1 s2)
      rw [hv] at this
      cases this
      exact ⟨T, rfl, hT, rfl⟩
  · rename_i xs
    cases e3
    refine Call_ (ld_blt I hg hm boot_enumerate (PyProof.Rows.callWith_type1 (thn (ha.run pos pins s σ H (fun vs H1 => ∃ F', Grow g F H F' H1 ∧ Same F' (vis g H1) ∧ PoolAt g n' H1 ∧ RepAll g F' vs [.tup xs]) I ⟨F0, H0, F, ρ, n, _, _, e1, m, fun vs F' H' gr s P r => ⟨F', gr, s, P, r⟩⟩) fun us s1 ⟨vs, H1, I1, r1, F', gr, sm, P, r⟩ => ?_) hs rfl))
    cases r with
    | cons r t =>
    cases t
    cases r with
    | @tup _ a' ws _ h1 q1 =>
    have at_ : ∀ F1 H1, Same F' F1 → Same F1 (vis g H1) → SqT g.K H1 a' ws := fun F1 H1 s1 s2 => seqT_mono ((s1.trans s2).trans vis_same) h1
    rw [Vals.ref1 r1]
    have hq : SqT X.K H1 a' ws := by rw [hK]; exact at_ F' H1 (Same.refl _) sm
    obtain ⟨its, rv, p', hz⟩ := I1.tuple hq
    have hlt : a' < s1.heap.objs.size := p'.lt
    refine enum_made (begins_tuple a' its.toArray) p' fun h' he hit hk => wpAny_pyIter_enum he ?_
    have I2 : Inv X pins σ H1 { s1 with heap := h' } := I1.kept (t' := s1.toks) hk
    refine ⟨s1.heap.objs.size + 1, [s1.heap.objs.size + 1, s1.heap.objs.size], _, _, H1, rfl, I2, turn_en a' (s1.heap.objs.size + 1) s1.heap.objs.size, ⟨⟨.none, he⟩, ⟨_, hit, rfl, rfl⟩, Nat.succ_ne_self _, Nat.ne_of_lt hlt, Nat.ne_of_lt (Nat.lt_succ_of_lt hlt)⟩, fun b hb => ?_,
      k _ F' H1 gr sm P (walks_en q1 (fun F1 H2 s1 s2 => ⟨ws, by rw [hK]; exact at_ F1 H2 s1 s2, rfl⟩) (fun F1 H2 s1 s2 i v hv => ⟨ws, v, by rw [hK]; exact at_ F1 H2 s1 s2, hv⟩) ?_)⟩
    · have hb' : s1.heap.objs.size ≤ b := by
        rcases List.mem_cons.mp hb with rfl | hb
        · exact Nat.le_succ _
        · cases List.mem_singleton.mp hb; exact Nat.le_refl _
      exact I1.fpOk hb' (I1.hok.fresh hb')
    · rintro F1 H2 s1 s2 i x H3 v hv ⟨T, y, rfl, hT, rfl, hy⟩
      have := hy ws (by rw [hK]; exact at_ F1 H2 s1 s2)
      rw [hv] at this
      cases this
      exact ⟨T, rfl, hT, rfl⟩
  · cases e3
end
end Ev

set_option Elab.async false
set_option linter.all false
set_option autoImplicit false
set_option maxRecDepth 100000
set_option maxHeartbeats 2000000
/-! EvF: list comprehensions of two clauses. -/
namespace Ev
open PySem PySem.Spec PyProof.Rows L2
def catGo (body : D → M (List D)) : List D → M (List D)
  | [] => pure []
  | x :: xs => do
    let r ← body x
    let rs ← catGo body xs
    pure (r ++ rs)
def lc2Body (own : List Nat) (t : Tgt) (fc : Rho → M Bool) (own1 : List Nat) (t1 : Tgt) (fi1 : Rho → M (List D)) (fc1 : Rho → M Bool) (fe : Rho → M D) (ρ : Rho) (d : D) : M (List D) := do
  let ρ' ← M.opt (bindT t d (wipeR ρ own))
  let c ← fc ρ'
  if c then (do let ds1 ← fi1 ρ'; lcGo (lcBody own1 t1 fc1 fe ρ') ds1) else pure []
def evLc2 (own : List Nat) (t : Tgt) (fi : Rho → M (List D)) (fc : Rho → M Bool) (own1 : List Nat) (t1 : Tgt) (fi1 : Rho → M (List D)) (fc1 : Rho → M Bool) (fe : Rho → M D) : Rho → M D := fun ρ => do
  let ds ← fi ρ
  let rs ← catGo (lc2Body own t fc own1 t1 fi1 fc1 fe ρ) ds
  if rs.length ≤ 16777216 then pure (.lst rs) else M.fail
theorem wipe_get {j : Nat} : ∀ {vs : List Nat} {σ : L2.St}, j ∉ vs → (L2.wipe σ vs)[j]? = σ[j]?
  | [], _, _ => rfl
  | v :: vs, σ, h => by
    simp only [List.mem_cons, not_or] at h
    show ((L2.wipe σ vs).set v none)[j]? = _
    rw [List.getElem?_set_ne (Ne.symm h.1), wipe_get h.2]
theorem wipeR_own {j : Nat} {x : D} : ∀ {vs : List Nat} {ρ : Rho}, (wipeR ρ vs)[j]? = some (.own x) → ρ[j]? = some (.own x) ∧ j ∉ vs
  | [], _, h => ⟨h, fun z => by cases z⟩
  | v :: vs, ρ, h => by
    have h : ((wipeR ρ vs).set v .un)[j]? = some (.own x) := h
    by_cases e : v = j
    · subst e
      rw [List.getElem?_set] at h
      simp at h
    · rw [List.getElem?_set_ne e] at h
      obtain ⟨h1, h2⟩ := wipeR_own h
      exact ⟨h1, fun z => by rcases List.mem_cons.mp z with z | z; exact e z.symm; exact h2 z⟩
theorem bindT_own {j : Nat} {x : D} : ∀ {t : Tgt} {d : D} {ρ ρ' : Rho}, bindT t d ρ = some ρ' → ρ'[j]? = some (.own x) → ρ[j]? = some (.own x) ∧ j ∉ t.slots
  | .nm i, d, ρ, ρ', h, e => by
    simp only [bindT, Option.some.injEq] at h
    subst h
    by_cases q : i = j
    · subst q
      rw [List.getElem?_set] at e
      simp at e
    · rw [List.getElem?_set_ne q] at e
      exact ⟨e, fun z => q (List.mem_singleton.mp z).symm⟩
  | .tp t u, d, ρ, ρ', h, e => by
    cases d with
    | tup xs =>
      match xs, h with
      | [a, b], h =>
        simp only [bindT] at h
        obtain ⟨ρ1, h1, h2⟩ := Option.bind_eq_some_iff.mp h
        obtain ⟨q1, q2⟩ := bindT_own h2 e
        obtain ⟨q3, q4⟩ := bindT_own h1 q1
        exact ⟨q3, fun z => (List.mem_append.mp z).elim q4 q2⟩
      | [], h => cases h
      | [_], h => cases h
      | _ :: _ :: _ :: _, h => cases h
    | _ => cases h
  | .tp3 t u v, d, ρ, ρ', h, e => by
    cases d with
    | tup xs =>
      match xs, h with
      | [a, b, c], h =>
        simp only [bindT] at h
        obtain ⟨ρ1, h1, h2⟩ := Option.bind_eq_some_iff.mp h
        obtain ⟨ρ2, h2, h3⟩ := Option.bind_eq_some_iff.mp h2
        obtain ⟨q1, q2⟩ := bindT_own h3 e
        obtain ⟨q3, q4⟩ := bindT_own h2 q1
        obtain ⟨q5, q6⟩ := bindT_own h1 q3
        exact ⟨q5, fun z => (List.mem_append.mp z).elim q6 fun z => (List.mem_append.mp z).elim q4 q2⟩
      | [], h => cases h
      | [_], h => cases h
      | [_, _], h => cases h
      | _ :: _ :: _ :: _ :: _, h => cases h
    | _ => cases h
  | .tn is, d, ρ, ρ', h, e => by
    cases d with
    | tup xs =>
      have h : bindNs is xs ρ = some ρ' := h
      have key : ∀ {is : List Nat} {xs : List D} {ρ : Rho}, bindNs is xs ρ = some ρ' → ρ[j]? = some (.own x) ∧ j ∉ is := by
        intro is
        induction is with
        | nil =>
          intro xs ρ h
          cases xs with
          | nil => cases h; exact ⟨e, by simp⟩
          | cons _ _ => cases h
        | cons i is ih =>
          intro xs ρ h
          cases xs with
          | nil => cases h
          | cons y ys =>
            obtain ⟨q1, q2⟩ := ih h
            by_cases q : i = j
            · subst q
              rw [List.getElem?_set] at q1
              simp at q1
            · rw [List.getElem?_set_ne q] at q1
              exact ⟨q1, fun z => by rcases List.mem_cons.mp z with z | z; exact q z.symm; exact q2 z⟩
      exact key h
    | _ => cases h
/-- what is open stands apart from what came later -/
theorem own_apart {g : Gh} {F0 H0 F H : Hp} {ρ ρ' : Rho} {n : Nat} {σ σ' : L2.St} {a : Addr} {t : Tgt} {d : D} {own : List Nat} (m : Mdl g F0 H0 F ρ n σ H) (ha : H a = Option.none) (hb : bindT t d (wipeR ρ own) = some ρ') (hs : ButAt t.slots (L2.wipe σ own) σ') :
    ∀ (j : Nat) (x : D) (b : Addr), ρ'[j]? = some (.own x) → σ'[j]? = some (some (.ref b)) → b ≠ a := fun j x b e1 e2 z => by
  obtain ⟨q1, q2⟩ := bindT_own hb e1
  obtain ⟨q3, q4⟩ := wipeR_own q1
  have e3 : σ'[j]? = σ[j]? := by
    rw [← wipe_get (σ := σ') q2, hs _ (fun _ h => h), wipe_get q2, wipe_get q4]
  obtain ⟨b', z1, o, _, _⟩ := m.slot j _ q3
  rw [e3, z1] at e2
  cases e2
  have := o.isSome
  rw [z, ha] at this
  cases this
theorem Mdl.side {g : Gh} {F0 H0 F H : Hp} {ρ : Rho} {n : Nat} {σ : L2.St} {a : Addr} {o w : HO} (m : Mdl g F0 H0 F ρ n σ H) (h0 : H0 a = Option.none) (hf : F a = Option.none) (hw : H a = some w) (hc : ∀ c q, w ≠ LamX.CodeO c q) (hi : ∀ C dx fs, w ≠ .ins C dx fs)
    (ap : ∀ (j : Nat) (x : D) (b : Addr), ρ[j]? = some (.own x) → σ[j]? = some (some (.ref b)) → b ≠ a) : Mdl g F0 H0 F ρ n σ (upd H a o) := by
  have ne := H0_ne m.p0 h0
  refine ⟨m.gr.updN h0 ne.nh, m.p0, sub_updN m.sub hf ne.nh, m.pool.updN ne hw hc, m.len, fun j sl e => ?_, m.dis⟩
  have q := m.slot j sl e
  cases sl with
  | un => trivial
  | val d => exact q
  | own d =>
    obtain ⟨b, e1, o', f, z⟩ := q
    exact ⟨b, e1, o'.at (upd_ne (ap j d b e e1)), f, z⟩
  | lam k => exact q
  | slf d =>
    obtain ⟨C, dx, c, ns, vs, ds, e0, e1, e2, e3, e4⟩ := q
    exact ⟨C, dx, c, ns, vs, ds, e0, e1, e2, by rw [upd_ne (fun z => by rw [z, hw] at e3; exact hi _ _ _ (Option.some.inj e3))]; exact e3, e4⟩
section
variable {X : Cx} {g : Gh} {pos : Pos}
theorem tLc2_of {t t1 : Tgt} {own own1 : List Nat} {fi fi1 : Rho → M (List D)} {fc fc1 : Rho → M Bool} {fe : Rho → M D} {σ : L2.St} {H : Hp} {Q : VK} (ho : ∀ i ∈ t.slots, i ∈ own) (ho1 : ∀ i ∈ t1.slots, i ∈ own1)
    (h : RdF g (evLc2 own t fi fc own1 t1 fi1 fc1 fe) σ H Q) : tLc2 (RdI g fi) (gRd g t) (RdT g fc) (RdI g fi1) (gRd g t1) (RdT g fc1) (RdV g fe) own own1 σ H Q := by
  obtain ⟨F0, H0, F, ρ, n, d, n', e, m, k⟩ := h
  obtain ⟨ds, n1, e1, e⟩ := M.bind_some e
  obtain ⟨rs, n2, e2, e⟩ := M.bind_some e
  split at e
  case isFalse => cases e
  rename_i hz
  cases e
  refine ⟨F0, H0, F, ρ, n, ds, n1, e1, m, fun J F1 H1 g1 s1 P1 wk a ha => ?_⟩
  have ne := P1.fresh ha
  have nc := ne.nh
  have ha0 := sub_none s1 ha
  refine ⟨fun i mm H => mm + i = ds.length ∧ ∃ F2 nn acc accD rest, catGo (lc2Body own t fc own1 t1 fi1 fc1 fe ρ) (ds.drop i) nn = some (rest, n') ∧ accD ++ rest = rs ∧ Grow g F1 H1 F2 H ∧ H a = some (.lst acc) ∧ F2 a = none ∧ RepAll g F2 acc accD ∧ Same F2 (vis g H) ∧ PoolAt g nn H,
    ⟨ds.length, by omega, F1, n1, [], [], rs, e2, rfl, Grow.refl.updN ha nc, upd_same, ha0, .nil, sub_updN s1 ha0 nc, P1.upd ha⟩, ?_⟩
  rintro i mm H ⟨hm, F2, nn, acc, accD, rest, e3, e4, g2, hd, hd2, ra, s2, P2⟩
  have gg := g1.trans g2
  by_cases hi : i < ds.length
  · refine .inr ?_
    obtain ⟨x0, hdi⟩ : ∃ d, ds[i]? = some d := ⟨ds[i], by simp [hi]⟩
    have hdrop : ds.drop i = x0 :: ds.drop (i + 1) := by
      rw [List.drop_eq_getElem_cons hi]
      congr 1
      rw [List.getElem?_eq_getElem hi] at hdi
      exact Option.some.inj hdi
    rw [hdrop] at e3
    obtain ⟨r, n3, e5, e3⟩ := M.bind_some e3
    obtain ⟨rs', n4, e6, e3⟩ := M.bind_some e3
    cases e3
    obtain ⟨hgo, hy⟩ := wk.go i x0 F2 H nn g2.f s2 P2 hdi
    refine ⟨hgo, fun H' => ∃ F2 acc accD, accD ++ rs' = rs ∧ Grow g F1 H1 F2 H' ∧ H' a = some (.lst acc) ∧ F2 a = none ∧ RepAll g F2 acc accD ∧ Same F2 (vis g H') ∧ PoolAt g n3 H', ?_, ?_⟩
    · rintro H' ⟨F3, acc', accD', q1, q3, q4, q5, q6, q7, q8⟩
      exact ⟨mm - 1, by omega, by omega, F3, n3, acc', accD', rs', e6, q1, q3, q4, q5, q6, q7, q8⟩
    · intro x H' hx
      obtain ⟨F3, g3, s3, P3, r3⟩ := hy x H' hx
      unfold lc2Body at e5
      obtain ⟨ρ', n5, e7, e5a⟩ := M.bind_some e5
      obtain ⟨e8, e9⟩ := M.opt_ok e7
      simp only at e8 e9
      subst e9
      obtain ⟨c, n6, e10, e5b⟩ := M.bind_some e5a
      clear e5 e5a e7
      have m3 := ((m.grow g1 s1 P1).grow g2 s2 P2).grow g3 s3 P3
      have keep : ∀ {F' H'}, Grow g F2 H F' H' → H' a = some (.lst acc) ∧ F' a = none := fun {F' H'} gr => by
        have z := gr.h a _ (by rw [vis_ne nc]; exact hd)
        rw [vis_ne nc] at z
        exact ⟨z, by rw [gr.keepF nc hd nofun]; exact hd2⟩
      refine ⟨F0, H0, F3, _, _, x0, ρ', e8, m3.wipe own, r3, fun σ' hb m4 => ?_⟩
      have ap := own_apart (m.grow g1 s1 P1) ha e8 hb
      refine ⟨?_, ?_⟩
      · rw [hb own ho]
        clear hb
        exact tLc_of.wipe_wipe own σ
      · refine ⟨F0, H0, F3, ρ', _, c, n6, e10, m4, fun F4 H4 g4 s4 P4 => ?_⟩
        have g34 := g3.trans g4
        have k4 := keep g34
        cases c with
        | false =>
          cases e5b
          refine iteF ⟨F4, acc, accD, by simpa using e4, g2.trans g34, k4.1, k4.2, ra.mono g34.f, s4, P4⟩
        | true =>
          obtain ⟨ds1, n7, e11, e5c⟩ := M.bind_some e5b
          refine iteT ⟨F0, H0, F4, ρ', n6, ds1, n7, e11, m4.grow g4 s4 P4, fun J1 F5 H5 g5 s5 P5 wk1 => ?_⟩
          have g25 := g34.trans g5
          have k5 := keep g25
          have m5 := (m4.grow g4 s4 P4).grow g5 s5 P5
          refine ⟨fun j kk H => kk + j = ds1.length ∧ ∃ F6 nn acc6 accD6 rin, lcGo (lcBody own1 t1 fc1 fe ρ') (ds1.drop j) nn = some (rin, n3) ∧ accD6 ++ (rin ++ rs') = rs ∧ Grow g F1 H1 F6 H ∧ H a = some (.lst acc6) ∧ F6 a = none ∧ RepAll g F6 acc6 accD6 ∧ Same F6 (vis g H) ∧ PoolAt g nn H ∧ Same F5 F6 ∧ Mdl g F0 H0 F6 ρ' nn σ' H,
            ⟨ds1.length, by omega, F5, n7, acc, accD, r, e5c, by simpa using e4, g2.trans g25, k5.1, k5.2, ra.mono g25.f, s5, P5, Same.refl _, m5⟩, ?_⟩
          rintro j kk H ⟨hk, F6, n8, acc6, accD6, rin, e12, e13, g6, hd6, hf6, ra6, s6, P6, sm6, m6⟩
          by_cases hj : j < ds1.length
          · refine .inr ?_
            obtain ⟨y0, hdj⟩ : ∃ d, ds1[j]? = some d := ⟨ds1[j], by simp [hj]⟩
            have hdrop1 : ds1.drop j = y0 :: ds1.drop (j + 1) := by
              rw [List.drop_eq_getElem_cons hj]
              congr 1
              rw [List.getElem?_eq_getElem hj] at hdj
              exact Option.some.inj hdj
            rw [hdrop1] at e12
            obtain ⟨r1, n9, e14, e12⟩ := M.bind_some e12
            obtain ⟨rin', n10, e15, e12⟩ := M.bind_some e12
            cases e12
            obtain ⟨hgo1, hy1⟩ := wk1.go j y0 F6 H n8 sm6 s6 P6 hdj
            have hdN := m6.len
            refine ⟨hgo1, fun H' => ∃ F7 acc7 accD7, accD7 ++ (rin' ++ rs') = rs ∧ Grow g F1 H1 F7 H' ∧ H' a = some (.lst acc7) ∧ F7 a = none ∧ RepAll g F7 acc7 accD7 ∧ Same F7 (vis g H') ∧ PoolAt g n9 H' ∧ Same F5 F7 ∧ Mdl g F0 H0 F7 ρ' n9 σ' H', ?_, ?_⟩
            · rintro H' ⟨F7, acc7, accD7, q1, q3, q4, q5, q6, q7, q8, q9, q10⟩
              exact ⟨kk - 1, by omega, by omega, F7, n9, acc7, accD7, rin', e15, q1, q3, q4, q5, q6, q7, q8, q9, q10⟩
            · intro z H' hz1
              obtain ⟨F7, g7, s7, P7, r7⟩ := hy1 z H' hz1
              unfold lcBody at e14
              obtain ⟨ρ2, n11, e16, e14a⟩ := M.bind_some e14
              obtain ⟨e17, e18⟩ := M.opt_ok e16
              simp only at e17 e18
              subst e18
              obtain ⟨c1, n12, e19, e14b⟩ := M.bind_some e14a
              clear e14 e14a e16
              have keep6 : ∀ {F' H'}, Grow g F6 H F' H' → H' a = some (.lst acc6) ∧ F' a = none := fun {F' H'} gr => by
                have z := gr.h a _ (by rw [vis_ne nc]; exact hd6)
                rw [vis_ne nc] at z
                exact ⟨z, by rw [gr.keepF nc hd6 nofun]; exact hf6⟩
              refine ⟨F0, H0, F7, _, _, y0, ρ2, e17, (m6.grow g7 s7 P7).wipe own1, r7, fun σ3 hb1 m8 => ⟨?_, ?_⟩⟩
              · rw [hb1 own1 ho1]
                clear hb1
                exact tLc_of.wipe_wipe own1 σ'
              · refine ⟨F0, H0, F7, ρ2, _, c1, n12, e19, m8, fun F8 H8 g8 s8 P8 => ?_⟩
                have g78 := g7.trans g8
                have k8 := keep6 g78
                cases c1 with
                | false =>
                  cases e14b
                  exact iteF ⟨F8, acc6, accD6, by simpa using e13, g6.trans g78, k8.1, k8.2, ra6.mono g78.f, s8, P8, sm6.trans g78.f, m6.grow g78 s8 P8⟩
                | true =>
                  obtain ⟨y, n13, e20, e14c⟩ := M.bind_some e14b
                  cases e14c
                  refine iteT ⟨F0, H0, F8, ρ2, n12, y, _, e20, m8.grow g8 s8 P8, fun v F9 H9 g9 s9 P9 r9 => ?_⟩
                  have g69 := g78.trans g9
                  have k9 := keep6 g69
                  have hal := ra6.length
                  have hlen : accD6.length < rs.length := by rw [← e13]; simp
                  have m9 := m6.grow g69 s9 P9
                  refine ⟨acc6, k9.1, by rw [← sz]; omega, F9, acc6 ++ [v], accD6 ++ [y], by rw [← e13]; simp, (g6.trans g69).updN ha nc, upd_same, k9.2, (ra6.mono g69.f).snoc r9, sub_updN s9 k9.2 nc, P9.updN ne k9.1, sm6.trans g69.f, m9.side (m.gr.fresh (g1.fresh ha)) k9.2 k9.1 (fun _ _ z => nomatch z) (fun _ _ _ z => nomatch z) ap⟩
          · refine .inl ?_
            have hj' : j = ds1.length := by omega
            subst hj'
            rw [List.drop_length] at e12
            cases e12
            exact ⟨wk1.stop F6 H sm6 s6, F6, acc6, accD6, by simpa using e13, g6, hd6, hf6, ra6, s6, P6⟩
  · refine .inl ?_
    have hi' : i = ds.length := by omega
    subst hi'
    rw [List.drop_length] at e3
    cases e3
    rw [List.append_nil] at e4
    subst e4
    exact ⟨wk.stop F2 H g2.f s2, k a F2 H gg s2 P2 (g1.fresh ha) hd2 (.lst hd ra)⟩
theorem df_lc2 {elt tg iter tg1 iter1 : Expr} {ifs ifs1 : List Expr} {scope : Scope} {own : List (Str × Nat)} {own1 : List Nat} {t t1 : Tgt} {fi fi1 : Rho → M (List D)} {fc fc1 : Rho → M Bool} {fe : Rho → M D} (hc : X.calm = true) (hN : X.N.Nodup) (hi : PI X tg iter (RdI g fi)) (ok : BlkOk X.N X.env.scope scope own) (hv : ∀ i ∈ own1, i ∈ own.map (·.2))
    (hg : ∀ (s : Shared) (H : Hp) (C : Addr) (cl : List (Str × Addr)) (fp : List Addr), PG (X.blk s H scope (compEnvC scope cl C X.env) fp) tg (gRd g t)) (ht : ∀ (s : Shared) (H : Hp) (C : Addr) (cl : List (Str × Addr)) (fp : List Addr), PTs (X.blk s H scope (compEnvC scope cl C X.env) fp) ifs (RdT g fc))
    (hi1 : ∀ (s : Shared) (H : Hp) (C : Addr) (cl : List (Str × Addr)) (fp : List Addr), PI (X.blk s H scope (compEnvC scope cl C X.env) fp) tg1 iter1 (RdI g fi1))
    (hg1 : ∀ (s : Shared) (H : Hp) (C : Addr) (cl : List (Str × Addr)) (fp : List Addr), PG (X.blk s H scope (compEnvC scope cl C X.env) fp) tg1 (gRd g t1)) (ht1 : ∀ (s : Shared) (H : Hp) (C : Addr) (cl : List (Str × Addr)) (fp : List Addr), PTs (X.blk s H scope (compEnvC scope cl C X.env) fp) ifs1 (RdT g fc1))
    (he : ∀ (s : Shared) (H : Hp) (C : Addr) (cl : List (Str × Addr)) (fp : List Addr), PE (X.blk s H scope (compEnvC scope cl C X.env) fp) elt (RdV g fe)) (hs : ∀ x, foldedSetIterable iter X.env x = pure x) (hs1 : ∀ env x, foldedSetIterable iter1 env x = pure x)
    (ho : ∀ i ∈ t.slots, i ∈ own.map (·.2)) (ho1 : ∀ i ∈ t1.slots, i ∈ own1) : PE X (.ListComp elt [⟨tg, iter, ifs, 0⟩, ⟨tg1, iter1, ifs1, 0⟩] scope pos) (RdF g (evLc2 (own.map (·.2)) t fi fc own1 t1 fi1 fc1 fe)) :=
  pe_wk (pe_lc2 hc hN hi ok hv hg ht hi1 hg1 ht1 he hs hs1) fun σ H Q h => tLc2_of ho ho1 h
theorem x_setLc2 {i : Nat} {y : Str} {py spos : Pos} {elt tg iter tg1 iter1 : Expr} {ifs ifs1 : List Expr} {scope : Scope} {own : List (Str × Nat)} {own1 : List Nat} {t t1 : Tgt} {fi fi1 : Rho → M (List D)} {fc fc1 : Rho → M Bool} {fe : Rho → M D} (hc : X.calm = true) (hN : X.N.Nodup) (hy : X.N[i]? = some y) (hyl : X.env.scope.names.lookup y = some .local)
    (hsw : swapsWith (.ListComp elt [⟨tg, iter, ifs, 0⟩, ⟨tg1, iter1, ifs1, 0⟩] scope pos) (some (.Name y py)) spos.line X.env = pure true) (hi : PI X tg iter (RdI g fi)) (ok : BlkOk X.N X.env.scope scope own) (hv : ∀ i ∈ own1, i ∈ own.map (·.2))
    (hg : ∀ (s : Shared) (H : Hp) (C : Addr) (cl : List (Str × Addr)) (fp : List Addr), PG (X.blk s H scope (compEnvC scope cl C X.env) fp) tg (gRd g t)) (ht : ∀ (s : Shared) (H : Hp) (C : Addr) (cl : List (Str × Addr)) (fp : List Addr), PTs (X.blk s H scope (compEnvC scope cl C X.env) fp) ifs (RdT g fc))
    (hi1 : ∀ (s : Shared) (H : Hp) (C : Addr) (cl : List (Str × Addr)) (fp : List Addr), PI (X.blk s H scope (compEnvC scope cl C X.env) fp) tg1 iter1 (RdI g fi1))
    (hg1 : ∀ (s : Shared) (H : Hp) (C : Addr) (cl : List (Str × Addr)) (fp : List Addr), PG (X.blk s H scope (compEnvC scope cl C X.env) fp) tg1 (gRd g t1)) (ht1 : ∀ (s : Shared) (H : Hp) (C : Addr) (cl : List (Str × Addr)) (fp : List Addr), PTs (X.blk s H scope (compEnvC scope cl C X.env) fp) ifs1 (RdT g fc1))
    (he : ∀ (s : Shared) (H : Hp) (C : Addr) (cl : List (Str × Addr)) (fp : List Addr), PE (X.blk s H scope (compEnvC scope cl C X.env) fp) elt (RdV g fe)) (hs : ∀ x, foldedSetIterable iter X.env x = pure x) (hs1 : ∀ env x, foldedSetIterable iter1 env x = pure x)
    (ho : ∀ i ∈ t.slots, i ∈ own.map (·.2)) (ho1 : ∀ i ∈ t1.slots, i ∈ own1) : PS X (.Assign [.Name y py] (.ListComp elt [⟨tg, iter, ifs, 0⟩, ⟨tg1, iter1, ifs1, 0⟩] scope pos) spos) (RdS g (xOwn i (evLc2 (own.map (·.2)) t fi fc own1 t1 fi1 fc1 fe))) :=
  ps_wk (ps_setLc2 hc hN hy hyl hsw hi ok hv hg ht hi1 hg1 ht1 he hs hs1) fun E σ H h => tLc2_of ho ho1 (tOwn_of h)
end
end Ev

set_option Elab.async false
set_option linter.all false
set_option autoImplicit false
set_option maxRecDepth 100000
/-! EvG: len, list, sorted over dicts too; min, max with a default; a list's item counted up. -/
namespace Ev
open PySem PySem.Spec PyProof.Rows L2

def lenA : List D → Option D
  | [.dict ks _] => some (.int ks.length)
  | xs => lenD xs
def listA : List D → Option (List D)
  | [.dict ks _] => some ks
  | xs => listD xs
def sortedA : List D → Option (List D)
  | [.dict ks _] => if ks.all okD && alikeAllB (ks.map D.py) && sortable (ks.map D.py) then some (sortD ks) else none
  | xs => sortedD xs

section
variable {X : Cx} {g : Gh}
def rLenDict (g : Gh) : List V → Hp → VK → Prop := fun vs H Q => ∃ (a : Addr) (u : HO) (F : Hp) (ks ds : List D), vs = [V.ref a] ∧ Rd H a u ∧ DCon g F a ks ds u ∧ Q (.int ks.length) H
theorem cr_lenDict (hw : g.w = X.w) : CallR X (.builtin "len") (rLenDict g) := by
  intro pins s σ H xs us Q I r q
  obtain ⟨a, u, F, ks, ds, ex, rd, c, q⟩ := q
  subst ex
  rw [Vals.ref1 r]
  exact dx_len I hw rd c fun t s1 I1 => ⟨.int ks.length, H, I1, ⟨t, rfl⟩, q⟩
theorem okc_lenA (hK : X.K = g.K) : COk g (fun xs H Q => (∃ x n, xs = [x] ∧ LenV X.K x H n ∧ Q (.int n) H) ∨ rLenDict g xs H Q) lenA := by
  intro F H n vs ds d Q s P rs e k
  unfold lenA at e
  split at e
  · rename_i ks es
    cases e
    obtain ⟨v, rfl, r⟩ := rs.one
    obtain ⟨a, u, rfl, rd, c⟩ := r.dictE s
    exact .inr ⟨a, u, F, ks, es, rfl, rd, c, OpOk.same s P k (.int _)⟩
  · exact .inl (okc_len hK F H n vs ds d Q s P rs e k)
theorem okc_listA (hK : X.K = g.K) : COkF g (fun xs H Q => (∃ p ys, xs = [.ref p] ∧ (SqL X.K H p ys ∨ SqT X.K H p ys) ∧ ∀ l, H l = none → Q (.ref l) (upd H l (.lst ys))) ∨ rListDict g xs H Q) listA := by
  intro F H n vs ds d Q s P rs e k
  unfold listA at e
  split at e
  · rename_i ks es
    cases e
    obtain ⟨v, rfl, r⟩ := rs.one
    obtain ⟨a, u, rfl, rd, c⟩ := r.dictE s
    exact .inr ⟨a, u, F, d, es, rfl, rd, c, fun us p hp ru => k p us _ (Grow.new P hp) (sub_new s P hp) (P.upd hp) hp upd_same ru⟩
  · exact .inl (okc_list hK F H n vs ds d Q s P rs e k)
theorem okc_sortedA : COkF g (fun xs H Q => rSortD g xs H Q ∨ rSortDict g xs H Q) sortedA := by
  intro F H n vs ds d Q s P rs e k
  unfold sortedA at e
  split at e
  · rename_i ks es
    split at e
    case isFalse => cases e
    rename_i h
    simp only [Bool.and_eq_true] at h
    cases e
    obtain ⟨v, rfl, r⟩ := rs.one
    obtain ⟨a, u, rfl, rd, c⟩ := r.dictE s
    exact .inr ⟨a, u, F, ks, es, rfl, rd, c, s.trans vis_same, h.1.1, h.1.2, h.2, fun us p hp ru => k p us _ (Grow.new P hp) (sub_new s P hp) (P.upd hp) hp upd_same ru⟩
  · exact .inl (okc_sorted F H n vs ds d Q s P rs e k)

/-! ### min, max with a default -/
theorem foldl_min (n : Int) : ∀ ns : List Int, ns.foldl min n = minI (n :: ns) := by
  intro ns
  induction ns generalizing n with
  | nil => rfl
  | cons a r ih =>
    rw [List.foldl_cons, ih]
    show _ = min n (minI (a :: r))
    cases r with
    | nil => rfl
    | cons b r => show min (min n a) (minI (b :: r)) = min n (min a (minI (b :: r))); omega
theorem foldl_max (n : Int) : ∀ ns : List Int, ns.foldl max n = maxI (n :: ns) := by
  intro ns
  induction ns generalizing n with
  | nil => rfl
  | cons a r ih =>
    rw [List.foldl_cons, ih]
    show _ = max n (maxI (a :: r))
    cases r with
    | nil => rfl
    | cons b r => show max (max n a) (maxI (b :: r)) = max n (max a (maxI (b :: r))); omega
theorem reads_ints {h : Heap} : ∀ {ns : List Int} {us : List Value}, Vals (ns.map V.int) us → ∃ as, PySem.ReadsAll h us (ns.map PyData.int) as
  | [], _, .nil => ⟨_, .nil⟩
  | n :: ns, _, .cons h t => by
    obtain ⟨as, r⟩ := reads_ints t
    obtain ⟨tk, rfl⟩ := h
    exact ⟨_, .cons (.int n tk) r⟩
theorem alike_ints (ns : List Int) : PySem.W.AlikeAll (ns.map PyData.int) := by
  refine ⟨fun x hx y hy => ?_, fun x hx => ?_⟩
  · obtain ⟨i, _, rfl⟩ := List.mem_map.mp hx
    obtain ⟨j, _, rfl⟩ := List.mem_map.mp hy
    rfl
  · obtain ⟨i, _, rfl⟩ := List.mem_map.mp hx
    exact fun z => nomatch z
theorem depth_ints : ∀ ns : List Int, PyData.depthAll (ns.map PyData.int) ≤ 1
  | [] => by simp [PyData.depthAll]
  | n :: ns => by
    have := depth_ints ns
    simp only [List.map_cons, PyData.depthAll, PyData.depth]
    omega
def rMinK (K : PySem.W.Frag) : List V → List V → Hp → VK → Prop := fun vs zs H Q => ∃ (a : Addr) (ns : List Int) (z : V), vs = [V.ref a] ∧ zs = [z] ∧ SqL K H a (ns.map V.int) ∧ (ns = [] → Q z H) ∧ (ns ≠ [] → Q (.int (minI ns)) H)
def rMaxK (K : PySem.W.Frag) : List V → List V → Hp → VK → Prop := fun vs zs H Q => ∃ (a : Addr) (ns : List Int) (z : V), vs = [V.ref a] ∧ zs = [z] ∧ SqL K H a (ns.map V.int) ∧ (ns = [] → Q z H) ∧ (ns ≠ [] → Q (.int (maxI ns)) H)
theorem reads_int {h : Heap} {v : Value} {m : Int} {bs : List Addr} (r : PySem.Reads h v (.int m) bs) : L2.RelV (.int m) v := by
  cases r with
  | int i t => exact ⟨t, rfl⟩
theorem ck_min (hc : X.calm = true) (hu : X.A.units + 66 < cLine) : CallRK X (.builtin "min") ["default"] (rMinK X.K) := by
  intro pins s σ H vs zs us ws Q I r r2 h
  obtain ⟨a, ns, z, rfl, rfl, hs, q0, q1⟩ := h
  obtain ⟨its, rv, hl, _⟩ := I.list hs
  obtain ⟨w, rfl, rz⟩ := vals1 r2
  rw [Vals.ref1 r]
  obtain ⟨as, ra⟩ := reads_ints (h := s.heap) rv
  have hd := depth_ints ns
  refine PySem.W.min_list_default (I.ok.hd hc) hl.isList ra (alike_ints ns) (by omega) (fun e h' tk hk => ⟨z, H, I.kept hk, rz, q0 (by simpa using e)⟩) fun y ys i v h' tk bs e hv rd hk => ?_
  cases ns with
  | nil => cases e
  | cons n ns =>
    cases e
    rw [PySem.W.minD_ints, foldl_min] at rd
    exact ⟨_, H, I.kept hk, reads_int rd, q1 (by simp)⟩
theorem ck_max (hc : X.calm = true) (hu : X.A.units + 66 < cLine) : CallRK X (.builtin "max") ["default"] (rMaxK X.K) := by
  intro pins s σ H vs zs us ws Q I r r2 h
  obtain ⟨a, ns, z, rfl, rfl, hs, q0, q1⟩ := h
  obtain ⟨its, rv, hl, _⟩ := I.list hs
  obtain ⟨w, rfl, rz⟩ := vals1 r2
  rw [Vals.ref1 r]
  obtain ⟨as, ra⟩ := reads_ints (h := s.heap) rv
  have hd := depth_ints ns
  refine PySem.W.max_list_default (I.ok.hd hc) hl.isList ra (alike_ints ns) (by omega) (fun e h' tk hk => ⟨z, H, I.kept hk, rz, q0 (by simpa using e)⟩) fun y ys i v h' tk bs e hv rd hk => ?_
  cases ns with
  | nil => cases e
  | cons n ns =>
    cases e
    rw [PySem.W.maxD_ints, foldl_max] at rd
    exact ⟨_, H, I.kept hk, reads_int rd, q1 (by simp)⟩
inductive Mk where
  | min | max
  deriving DecidableEq
def Mk.nm : Mk → String
  | .min => "min" | .max => "max"
def Mk.pick : Mk → List Int → Int
  | .min, ns => minI ns
  | .max, ns => maxI ns
def Mk.op : Mk → List D → D → Option D
  | b, [.lst xs], d => match intsD xs with
    | some [] => some d
    | some (n :: ns) => some (.int (b.pick (n :: ns)))
    | none => none
  | _, _, _ => none
def evMk (b : Mk) (fr : Rho → M (List D)) (fd : Rho → M D) : Rho → M D := fun ρ => do
  let xs ← fr ρ
  let d ← fd ρ
  M.opt (b.op xs d)
theorem tMk_of (b : Mk) {fr : Rho → M (List D)} {fd : Rho → M D} {σ : L2.St} {H : Hp} {Q : VK} (h : RdV g (evMk b fr fd) σ H Q) :
    RdAP g fr σ H fun vs H1 => (tCons (RdV g fd) tNil) σ H1 fun zs H2 => ∃ (a : Addr) (ns : List Int) (z : V), vs = [V.ref a] ∧ zs = [z] ∧ SqL g.K H2 a (ns.map V.int) ∧ (ns = [] → Q z H2) ∧ (ns ≠ [] → Q (.int (b.pick ns)) H2) := by
  obtain ⟨F0, H0, F, ρ, n, d, n', e, m, k⟩ := h
  obtain ⟨xs, n1, e1, e⟩ := M.bind_some e
  obtain ⟨d0, n2, e2, e⟩ := M.bind_some e
  obtain ⟨e3, e4⟩ := M.opt_ok e
  simp only at e3 e4
  subst e4
  refine ⟨F0, H0, F, ρ, n, xs, n1, e1, m, fun vs F1 H1 g1 s1 P1 r1 => ⟨F0, H0, F1, ρ, n1, d0, _, e2, m.grow g1 s1 P1, fun z F2 H2 g2 s2 P2 r2 => ?_⟩⟩
  have r1' := r1.grow g2
  unfold Mk.op at e3
  split at e3
  · rename_i xs' d'
    obtain ⟨v, rfl, r⟩ := r1'.one
    obtain ⟨a, ws, rfl, ha, ra⟩ := r.lstE s2
    split at e3
    · rename_i h
      cases e3
      rw [intsD_map h] at ra
      rw [repAll_ints ra] at ha
      exact ⟨a, [], z, rfl, rfl, .of ha, fun _ => k _ _ _ (g1.trans g2) s2 P2 r2, fun z => absurd rfl z⟩
    · rename_i n0 ns h
      cases e3
      rw [intsD_map h] at ra
      rw [repAll_ints ra] at ha
      exact ⟨a, n0 :: ns, z, rfl, rfl, .of ha, fun z => (by cases z), fun _ => k _ _ _ (g1.trans g2) s2 P2 (.int _)⟩
    · cases e3
  · cases e3
theorem de_mk (b : Mk) {x : Str} {a c : Expr} {p pos kp : Pos} {fr : Rho → M (List D)} {fd : Rho → M D} (hK : X.K = g.K) (hc : X.calm = true) (hu : X.A.units + 66 < cLine) (hx : x = Str.ofString b.nm) (hg : Gl X x) (hm : X.mg x = none) (ha : PA X [a] (RdAP g fr)) (hd : PE X c (RdV g fd)) (hs : starEach [a] X.env = [(false, eval a X.env)]) :
    PE X (.Call (.Name x p) [a] [⟨some "default", c, kp⟩] pos) (RdV g (evMk b fr fd)) := by
  subst hx
  have he : backTo pos (starEach [a] X.env) = (false, eval a X.env) :: backTo pos (starEach [] X.env) := by rw [hs]; rfl
  cases b with
  | min =>
    refine pe_wk (pe_callBK (id := "min") (ck_min hc hu) hg hm (by decide +kernel) ha (pk_cons hd pk_nil) (by decide +kernel) (by decide +kernel) he (by rw [he]; rfl)) fun σ H Q h => ?_
    have q := tMk_of .min h
    rw [← hK] at q
    exact q
  | max =>
    refine pe_wk (pe_callBK (id := "max") (ck_max hc hu) hg hm (by decide +kernel) ha (pk_cons hd pk_nil) (by decide +kernel) (by decide +kernel) he (by rw [he]; rfl)) fun σ H Q h => ?_
    have q := tMk_of .max h
    rw [← hK] at q
    exact q
/-! ### xs[i] op= e, of an open list -/
def augIx (o : BinO) (ρ : Rho) (i : Nat) (k d : D) : Option Rho := match ρ[i]?, k with
  | some (.own (.lst ds)), .int k => if 0 ≤ k then match ds[k.toNat]? with
    | some x => (augD o x d).map fun y => ρ.set i (.own (.lst (ds.set k.toNat y)))
    | none => none
    else none
  | _, _ => none
def xAugIx (i : Nat) (o : BinO) (fi fe : Rho → M D) : Rho → M Out := fun ρ => do
  let k ← fi ρ
  let d ← fe ρ
  let ρ' ← M.opt (augIx o ρ i k d)
  pure (.nx ρ')
theorem x_augIx {i : Nat} {x : Str} {o : BinO} {p p2 pos : Pos} {e1 e : Expr} {ti : TIp} {fi fe : Rho → M D} (hN : X.N[i]? = some x) (hv : Vis X.env.scope x) (hd : (x == ("__debug__" : Str)) = false) (hcd : (x == ("__classdict__" : Str)) = false) (he : PE X e (RdV g fe)) (hi : PE X e1 (RdV g fi))
    (ho : PIp X o.py ti) (hti : ∀ i j z H Q, augD o (.int i) (.int j) = some (.int z) → Q (.int z) H → ti (.int i) (.int j) H Q)
    (ha : ∀ ov iv new, augStore e1 ov iv new = (do holding [new, ov, iv] (setItem ov iv new); release [new, ov, iv] []; pure .next)) :
    PS X (.AugAssign (.Subscript (.Name x p) e1 p2) o.py e pos) (RdS g (xAugIx i o fi fe)) := by
  refine ⟨fun pins s σ H E I ⟨F0, H0, F, ρ, n, out, n', eo, m, k⟩ => ?_⟩
  obtain ⟨kd, n1, e1', eo1⟩ := M.bind_some eo
  obtain ⟨d, n2, e2, eo2⟩ := M.bind_some eo1
  obtain ⟨ρ', n3, e6, e7⟩ := M.bind_some eo2
  cases e7
  obtain ⟨e8, e9⟩ := M.opt_ok e6
  simp only at e8 e9
  subst e9
  unfold augIx at e8
  split at e8
  case h_2 => cases e8
  rename_i ds kk hsl
  split at e8
  case isFalse => cases e8
  rename_i h0k
  split at e8
  case h_2 => cases e8
  rename_i x0 hx0
  rw [Option.map_eq_some_iff] at e8
  obtain ⟨y0, e8, rfl⟩ := e8
  obtain ⟨i', j', z, rfl, rfl, rfl⟩ : ∃ i' j' z, x0 = .int i' ∧ d = .int j' ∧ y0 = .int z := by
    cases o <;> cases x0 <;> cases d <;> simp only [augD, reduceCtorEq, Option.some.injEq] at e8 <;> exact ⟨_, _, _, rfl, rfl, e8.symm⟩
  obtain ⟨a, vs, ha', hh, r, hf, h0⟩ := rdP_name m hsl
  refine wpAny_AugAssign_Subscript_any ?_ ha
  refine thn ((pe_var (i := i) (pos := p) hN hv hd hcd).run pins s σ H (fun y H2 => y = .ref a ∧ H2 = H) I ⟨.ref a, ha', rfl, rfl⟩) fun u2 s1 ⟨y, H1, I1, ry, q2⟩ => ?_
  obtain ⟨rfl, rfl⟩ := q2
  obtain rfl : u2 = Value.ref a := ry
  refine thn (hi.run pins s1 σ H1 (fun y H3 => ∃ F3, Grow g F H1 F3 H3 ∧ Same F3 (vis g H3) ∧ PoolAt g n1 H3 ∧ Rep g F3 y (.int kk)) I1 ⟨F0, H0, F, ρ, n, _, n1, e1', m, fun y F3 H3 g3 s3 P3 r3 => ⟨F3, g3, s3, P3, r3⟩⟩) fun iv s2 ⟨y, H2, I2, ry3, F2, g2, sm2, P2, r2⟩ => ?_
  cases r2
  obtain ⟨tk, rfl⟩ := ry3
  have m2 := m.grow g2 sm2 P2
  obtain ⟨q1, q2, q3⟩ := own_after m.p0 h0 hh r hf g2
  obtain ⟨its, nn, rv, hob, hz⟩ := I2.lst q1
  obtain ⟨vx, hvx, rx⟩ := q2.get hx0
  cases rx
  obtain ⟨wv, ew, rw'⟩ := rv.get hvx
  have hlen : kk.toNat < ds.length := by
    rcases Nat.lt_or_ge kk.toNat ds.length with h | h
    · exact h
    · rw [List.getElem?_eq_none h] at hx0; cases hx0
  have hvl : vs.length = ds.length := q2.length
  have hn := line63
  refine wpAny_getItem_list (items := its.toArray) (x := wv) ⟨_, hob, rfl, nn, rfl⟩ h0k (by omega) (by simpa using ew) ?_
  refine thn (he.run pins s2 σ H2 (fun y H3 => ∃ F3, Grow g F2 H2 F3 H3 ∧ Same F3 (vis g H3) ∧ PoolAt g n' H3 ∧ Rep g F3 y (.int j')) I2 ⟨F0, H0, F2, ρ, n1, _, n', e2, m2, fun y F3 H3 g3 s3 P3 r3 => ⟨F3, g3, s3, P3, r3⟩⟩) fun jv s3 ⟨y, H3, I3, ry4, F3, g3, sm3, P3, r3⟩ => ?_
  cases r3
  obtain ⟨q4, q5, q6⟩ := own_after m.p0 h0 hh r hf (g2.trans g3)
  refine thn (ho pins s3 σ H3 (.int i') (.int j') wv jv (fun v H4 => v = .int z ∧ H4 = H3) I3 rw' ry4 (hti _ _ _ _ _ e8 ⟨rfl, rfl⟩)) fun nv s4 ⟨v4, H4, I4, r4, q7, q8⟩ => ?_
  subst q7; subst q8
  refine thn (set_list pins s4 σ H4 (.ref a) (.int kk) (.int z) _ _ nv (fun H5 => H5 = upd H4 a (.lst (vs.set kk.toNat (.int z)))) I4 rfl ⟨tk, rfl⟩ r4 ⟨a, vs, kk, kk.toNat, rfl, rfl, q4, ?_, rfl⟩) fun _ s5 ⟨H5, I5, q9⟩ => ?_
  · unfold ixN
    rw [if_pos h0k, if_pos (by omega)]
  · subst q9
    refine ⟨σ, _, I5, ?_⟩
    exact k F3 σ _ (g2.trans g3).f ((m2.grow g3 sm3 P3).write hsl ha' q6 h0 q4 (RepAll.set (.int z) kk.toNat q5))
/-! ### tuple(range(n)), list(range(n)) -/
theorem rg_rep {F : Hp} (a b : Int) : RepAll g F (rgV a b) (rangeD a (b - a).toNat) := by
  unfold rgV rangeD
  induction List.range (b - a).toNat with
  | nil => exact .nil
  | cons i r ih => exact .cons (.int _) ih
def rgD (a b : D) : Option (Int × Int) := match a, b with
  | .int a, .int b => if -(2 ^ 62) ≤ a ∧ a < 2 ^ 62 ∧ -(2 ^ 62) ≤ b ∧ b < 2 ^ 62 ∧ (b - a).toNat ≤ 16777216 then some (a, b) else none
  | _, _ => none
theorem rgD_some {a b : D} {p : Int × Int} (h : rgD a b = some p) : a = .int p.1 ∧ b = .int p.2 ∧ RgOk p.1 p.2 := by
  unfold rgD at h
  split at h
  · split at h
    · rename_i hh
      cases h
      exact ⟨rfl, rfl, hh.1, hh.2.1, hh.2.2.1, hh.2.2.2.1, by have := hh.2.2.2.2; omega⟩
    · cases h
  · cases h
def evTupRg (fa fb : Rho → M D) : Rho → M D := fun ρ => do
  let a ← fa ρ
  let b ← fb ρ
  let p ← M.opt (rgD a b)
  pure (.tup (rangeD p.1 (p.2 - p.1).toNat))
def evLstRg (fa fb : Rho → M D) : Rho → M D := fun ρ => do
  let a ← fa ρ
  let b ← fb ρ
  let p ← M.opt (rgD a b)
  pure (.lst (rangeD p.1 (p.2 - p.1).toNat))
def ev0 : Rho → M D := fun _ => pure (.int 0)
section
variable {a b : Expr} {fa fb : Rho → M D} {p pos p2 pos2 : Pos}
theorem de_tupRg1 (hc : X.calm = true) (ht : Gl X "tuple") (hmt : X.mg "tuple" = none) (hg : Gl X "range") (hm : X.mg "range" = none) (ha : PE X a (RdV g fa)) (na : starEach [a] X.env = (false, eval a X.env) :: starEach [] X.env) :
    PE X (.Call (.Name "tuple" p2) [.Call (.Name "range" p) [a] [] pos] [] pos2) (RdV g (evTupRg ev0 fa)) := by
  refine pe_wk (pe_tupRg hc ht hmt (prg_1 hg hm ha na)) fun σ H Q ⟨F0, H0, F, ρ, n, d, n', e, m, k⟩ => ?_
  obtain ⟨x0, n0, e0, e1⟩ := M.bind_some e
  cases e0
  obtain ⟨x1, n1, e2, e3⟩ := M.bind_some e1
  obtain ⟨q, n2, e4, e5⟩ := M.bind_some e3
  cases e5
  obtain ⟨e6, e7⟩ := M.opt_ok e4
  simp only at e6 e7
  subst e7
  obtain ⟨h1, h2, h3⟩ := rgD_some e6
  obtain ⟨q1, q2⟩ := q
  cases h1
  refine ⟨F0, H0, F, ρ, n, x1, _, e2, m, fun v F' H' g1 s1 P1 r1 => ?_⟩
  subst h2
  cases r1
  refine ⟨_, rfl, h3, fun l hl => ?_⟩
  have ne := P1.fresh hl
  exact k _ _ _ (g1.trans (Grow.newF s1 P1 hl)) (sub_newF s1 P1 hl) (P1.upd hl) (.tup (.inl (.inl upd_same)) ((rg_rep _ _)))
theorem de_tupRg2 (hc : X.calm = true) (ht : Gl X "tuple") (hmt : X.mg "tuple" = none) (hg : Gl X "range") (hm : X.mg "range" = none) (ha : PE X a (RdV g fa)) (hb : PE X b (RdV g fb)) (na : starEach [a, b] X.env = (false, eval a X.env) :: starEach [b] X.env)
    (nb : starEach [b] X.env = (false, eval b X.env) :: starEach [] X.env) (hp : (backTo pos (starEach [b] X.env)).any (·.1) = false) :
    PE X (.Call (.Name "tuple" p2) [.Call (.Name "range" p) [a, b] [] pos] [] pos2) (RdV g (evTupRg fa fb)) := by
  refine pe_wk (pe_tupRg hc ht hmt (prg_2 hg hm ha hb na nb hp)) fun σ H Q ⟨F0, H0, F, ρ, n, d, n', e, m, k⟩ => ?_
  obtain ⟨x0, n0, e0, e1⟩ := M.bind_some e
  obtain ⟨x1, n1, e2, e3⟩ := M.bind_some e1
  obtain ⟨q, n2, e4, e5⟩ := M.bind_some e3
  cases e5
  obtain ⟨e6, e7⟩ := M.opt_ok e4
  simp only at e6 e7
  subst e7
  obtain ⟨h1, h2, h3⟩ := rgD_some e6
  refine ⟨F0, H0, F, ρ, n, x0, _, e0, m, fun v F' H' g1 s1 P1 r1 => ⟨F0, H0, F', ρ, n0, x1, _, e2, m.grow g1 s1 P1, fun v2 F2 H2 g2 s2 P2 r2 => ?_⟩⟩
  subst h1
  subst h2
  cases r1
  cases r2
  refine ⟨_, _, rfl, rfl, h3, fun l hl => ?_⟩
  exact k _ _ _ ((g1.trans g2).trans (Grow.newF s2 P2 hl)) (sub_newF s2 P2 hl) (P2.upd hl) (.tup (.inl (.inl upd_same)) ((rg_rep _ _)))
theorem df_lstRg1 (hc : X.calm = true) (ht : Gl X "list") (hmt : X.mg "list" = none) (hg : Gl X "range") (hm : X.mg "range" = none) (ha : PE X a (RdV g fa)) (na : starEach [a] X.env = (false, eval a X.env) :: starEach [] X.env) :
    PE X (.Call (.Name "list" p2) [.Call (.Name "range" p) [a] [] pos] [] pos2) (RdF g (evLstRg ev0 fa)) := by
  refine pe_wk (pe_listRg hc ht hmt (prg_1 hg hm ha na)) fun σ H Q ⟨F0, H0, F, ρ, n, d, n', e, m, k⟩ => ?_
  obtain ⟨x0, n0, e0, e1⟩ := M.bind_some e
  cases e0
  obtain ⟨x1, n1, e2, e3⟩ := M.bind_some e1
  obtain ⟨q, n2, e4, e5⟩ := M.bind_some e3
  cases e5
  obtain ⟨e6, e7⟩ := M.opt_ok e4
  simp only at e6 e7
  subst e7
  obtain ⟨h1, h2, h3⟩ := rgD_some e6
  obtain ⟨q1, q2⟩ := q
  cases h1
  refine ⟨F0, H0, F, ρ, n, x1, _, e2, m, fun v F' H' g1 s1 P1 r1 => ?_⟩
  subst h2
  cases r1
  refine ⟨_, rfl, h3, fun l hl => ?_⟩
  exact k l F' _ (g1.trans (Grow.new P1 hl)) (sub_new s1 P1 hl) (P1.upd hl) (g1.fresh hl) (sub_none s1 hl) (.lst upd_same (rg_rep _ _))
theorem df_lstRg2 (hc : X.calm = true) (ht : Gl X "list") (hmt : X.mg "list" = none) (hg : Gl X "range") (hm : X.mg "range" = none) (ha : PE X a (RdV g fa)) (hb : PE X b (RdV g fb)) (na : starEach [a, b] X.env = (false, eval a X.env) :: starEach [b] X.env)
    (nb : starEach [b] X.env = (false, eval b X.env) :: starEach [] X.env) (hp : (backTo pos (starEach [b] X.env)).any (·.1) = false) :
    PE X (.Call (.Name "list" p2) [.Call (.Name "range" p) [a, b] [] pos] [] pos2) (RdF g (evLstRg fa fb)) := by
  refine pe_wk (pe_listRg hc ht hmt (prg_2 hg hm ha hb na nb hp)) fun σ H Q ⟨F0, H0, F, ρ, n, d, n', e, m, k⟩ => ?_
  obtain ⟨x0, n0, e0, e1⟩ := M.bind_some e
  obtain ⟨x1, n1, e2, e3⟩ := M.bind_some e1
  obtain ⟨q, n2, e4, e5⟩ := M.bind_some e3
  cases e5
  obtain ⟨e6, e7⟩ := M.opt_ok e4
  simp only at e6 e7
  subst e7
  obtain ⟨h1, h2, h3⟩ := rgD_some e6
  refine ⟨F0, H0, F, ρ, n, x0, _, e0, m, fun v F' H' g1 s1 P1 r1 => ⟨F0, H0, F', ρ, n0, x1, _, e2, m.grow g1 s1 P1, fun v2 F2 H2 g2 s2 P2 r2 => ?_⟩⟩
  subst h1
  subst h2
  cases r1
  cases r2
  refine ⟨_, _, rfl, rfl, h3, fun l hl => ?_⟩
  exact k l F2 _ ((g1.trans g2).trans (Grow.new P2 hl)) (sub_new s2 P2 hl) (P2.upd hl) ((g1.trans g2).fresh hl) (sub_none s2 hl) (.lst upd_same (rg_rep _ _))
end
/-! ### new lists by * and + -/
def repLD : D → D → Option (List D)
  | .lst xs, .int k => if decide (0 ≤ k) && decide (k ≤ 1000) && decide (xs.length ≤ 1000) then some (List.replicate k.toNat xs).flatten else none
  | _, _ => none
def catLD : D → D → Option (List D)
  | .lst xs, .lst ys => if xs.length + ys.length ≤ 16777216 then some (xs ++ ys) else none
  | _, _ => none
def evL2 (op : D → D → Option (List D)) (fa fb : Rho → M D) : Rho → M D := fun ρ => do
  let x ← fa ρ
  let y ← fb ρ
  let r ← M.opt (op x y)
  pure (.lst r)
def OpOkF (g : Gh) (r : R2) (op : D → D → Option (List D)) : Prop := ∀ (F H : Hp) (n : Nat) (x y : V) (dx dy : D) (d : List D) (Q : VK), Same F (vis g H) → PoolAt g n H → PRep g F H x dx → PRep g F H y dy → op dx dy = some d →
  (∀ (p : Addr) (ws : List V), H p = Option.none → RepAll g F ws d → Q (.ref p) (upd H p (.lst ws))) → r x y H Q
theorem df_op {a b : Expr} {pos : Pos} {fa fb : Rho → M D} {o : Operator} {r : R2} {op : D → D → Option (List D)} (ho : OpR X (binaryOp o) r) (hk : OpOkF g r op) (ha : PE X a (RdP g fa)) (hb : PE X b (RdP g fb)) : PE X (.BinOp a o b pos) (RdF g (evL2 op fa fb)) := by
  refine pe_wk (pe_op ho ha hb) fun σ H Q ⟨F0, H0, F, ρ, n, d, n', e, m, k⟩ => ?_
  obtain ⟨x0, n0, e0, e1⟩ := M.bind_some e
  obtain ⟨x1, n1, e2, e3⟩ := M.bind_some e1
  obtain ⟨l, n2, e4, e5⟩ := M.bind_some e3
  cases e5
  obtain ⟨e6, e7⟩ := M.opt_ok e4
  simp only at e6 e7
  subst e7
  refine ⟨F0, H0, F, ρ, n, x0, _, e0, m, fun v F' H' g1 s1 P1 r1 => ⟨F0, H0, F', ρ, n0, x1, _, e2, m.grow g1 s1 P1, fun v2 F2 H2 g2 s2 P2 r2 => ?_⟩⟩
  refine hk F2 H2 _ v v2 x0 x1 l Q s2 P2 (r1.grow g2) r2 e6 fun p ws hp rw' => ?_
  exact k p F2 _ ((g1.trans g2).trans (Grow.new P2 hp)) (sub_new s2 P2 hp) (P2.upd hp) ((g1.trans g2).fresh hp) (sub_none s2 hp) (.lst upd_same rw')
theorem okf_rep : OpOkF g rRep repLD := by
  intro F H n x y dx dy d Q s P rx ry e k
  unfold repLD at e
  split at e
  · rename_i xs j
    split at e <;> cases e
    rename_i h
    simp only [Bool.and_eq_true, decide_eq_true_eq] at h
    obtain ⟨a, vs, rfl, ha, ra⟩ := rx.lstE s
    have l1 := ra.length
    refine ⟨a, _, vs, rfl, ry.intE, ha, by omega, by omega, ?_, fun p hp => k p _ hp (ra.rep _)⟩
    rw [sizeLine_eq]
    have : vs.length * j.toNat ≤ 1000 * 1000 := Nat.mul_le_mul (by omega) (by omega)
    omega
  · cases e
theorem okf_cat : OpOkF g rCat catLD := by
  intro F H n x y dx dy d Q s P rx ry e k
  unfold catLD at e
  split at e
  · rename_i xs ys
    split at e <;> cases e
    rename_i h
    obtain ⟨a, vs, rfl, ha, ra⟩ := rx.lstE s
    obtain ⟨b, ws, rfl, hb, rb⟩ := ry.lstE s
    have l1 := ra.length
    have l2 := rb.length
    exact ⟨a, b, vs, ws, rfl, rfl, ha, hb, by rw [sizeLine_eq]; omega, fun p hp => k p _ hp (ra.append rb)⟩
  · cases e
end
end Ev

set_option Elab.async false
set_option linter.all false
set_option autoImplicit false
set_option maxRecDepth 100000
/-! EvH: d.pop(k) of an open dict with plain keys, as a statement. -/
namespace Ev
open PySem PySem.Spec PyProof.Rows L2
/-- the keys and values but k's -/
def cutKs : List D → List D → D → List D
  | k' :: ks, _ :: vs, k => if kEq k k' then cutKs ks vs k else k' :: cutKs ks vs k
  | _, _, _ => []
def cutVs : List D → List D → D → List D
  | k' :: ks, v :: vs, k => if kEq k k' then cutVs ks vs k else v :: cutVs ks vs k
  | _, _, _ => []
def popR (ρ : Rho) (i : Nat) (k : D) : Option Rho := match ρ[i]? with
  | some (.own (.dict ks vs)) => if (isK k && ks.all isK && (didx ks k).isSome) = true then some (ρ.set i (.own (.dict (cutKs ks vs k) (cutVs ks vs k)))) else none
  | _ => none
def xPop (i : Nat) (fe : Rho → M D) : Rho → M Out := fun ρ => do
  let d ← fe ρ
  let ρ' ← M.opt (popR ρ i d)
  pure (.nx ρ')
def rDPop : V → List V → Hp → VK → Prop := fun x vs H Q => ∃ (a : Addr) (k : Key) (v : V) (kvs : List (Key × V)), x = .ref a ∧ vs = [kV k] ∧ H a = some (.dK kvs) ∧ valV kvs k = some v ∧ Q v (upd H a (.dK (dropK kvs k)))
section
variable {X : Cx} {g : Gh}
theorem mt_dpop : MtR X "dict.pop" rDPop := by
  intro pins s σ H x xs v us Q I rx rxs h
  obtain ⟨a, k, w, kvs, rfl, rfl, ha, hw, q⟩ := h
  cases rx
  obtain ⟨u, rfl, ru⟩ := vals1 rxs
  exact d_pop I ha ru hw (.inl rfl) fun w' s' I' r => ⟨w, _, I', r, q⟩
theorem kEq_key {a b : Key} : kEq (keyD a) (keyD b) = decide (a = b) := by
  cases a <;> cases b <;> simp [kEq, keyD, keyOf]
theorem cut_rep {F : Hp} {k : Key} : ∀ {kvs : List (Key × V)} {ds : List D}, RepAll g F (kvs.map (·.2)) ds →
    cutKs (kvs.map fun p => keyD p.1) ds (keyD k) = ((dropK kvs k).map fun p => keyD p.1) ∧ RepAll g F ((dropK kvs k).map (·.2)) (cutVs (kvs.map fun p => keyD p.1) ds (keyD k))
  | [], _, .nil => ⟨rfl, .nil⟩
  | p :: kvs, _, .cons (d := d) (ds := ds) r t => by
    obtain ⟨h1, h2⟩ := cut_rep (k := k) t
    simp only [List.map_cons, cutKs, cutVs, kEq_key]
    unfold dropK at h1 h2 ⊢
    rw [List.filter_cons]
    by_cases e : k = p.1
    · have e2 : decide (p.1 ≠ k) = false := by simp [e]
      rw [e2]
      simp only [e, decide_true, if_true, Bool.false_eq_true, if_false]
      rw [← e]
      exact ⟨h1, h2⟩
    · have e2 : decide (p.1 ≠ k) = true := by simp; exact fun z => e z.symm
      rw [e2]
      simp only [e, decide_false, Bool.false_eq_true, if_false, if_true, List.map_cons]
      exact ⟨by rw [h1], .cons r h2⟩
theorem val_some {kvs : List (Key × V)} {k : Key} (h : (didx (kvs.map fun p => keyD p.1) (keyD k)).isSome = true) : ∃ v, valV kvs k = some v := by
  induction kvs with
  | nil => cases h
  | cons p r ih =>
    by_cases e : p.1 = k
    · exact ⟨p.2, valV_pos e⟩
    · rw [valV_neg e]
      refine ih ?_
      unfold didx at h ⊢
      rw [List.map_cons, List.findIdx?_cons, kEq_key] at h
      have e2 : decide (p.1 = k) = false := by simp; exact e
      rw [e2] at h
      simpa using h
theorem isK_key {d : D} (h : isK d = true) : ∃ k : Key, d = keyD k := by
  cases d with
  | int i => exact ⟨.inl i, rfl⟩
  | str s => exact ⟨.inr s, rfl⟩
  | _ => cases h
theorem rep_keyD {F : Hp} {v : V} {k : Key} (r : Rep g F v (keyD k)) : v = kV k := by
  cases k with
  | inl i => cases r; rfl
  | inr x => cases r; rfl
theorem x_pop {i : Nat} {x : Str} {p apos epos pos : Pos} {e : Expr} {fe : Rho → M D} (hN : X.N[i]? = some x) (hv : Vis X.env.scope x) (hd : (x == ("__debug__" : Str)) = false) (hcd : (x == ("__classdict__" : Str)) = false) (he : PE X e (RdV g fe)) (hst : starEach [e] X.env = (false, eval e X.env) :: starEach [] X.env)
    (hs : swapsWith (.Call (.Attribute (.Name x p) "pop" apos) [e] [] epos) none pos.line X.env = pure false)
    (hpe : ∀ (to : TE) (t : TA), PE X (.Name x p) to → PA X [e] t → PE X (.Call (.Attribute (.Name x p) "pop" apos) [e] [] epos) (tBM X.K "dict" rDPop to t)) :
    PS X (.Expr (.Call (.Attribute (.Name x p) "pop" apos) [e] [] epos) pos) (RdS g (xPop i fe)) := by
  refine ps_wk (ps_expr (hpe _ _ (pe_var (i := i) hN hv hd hcd) (pa_cons he pa_nil hst)) hs) fun E σ H ⟨F0, H0, F, ρ, n, o, n', e, m, k⟩ => ?_
  obtain ⟨d, n1, e1, e2⟩ := M.bind_some e
  obtain ⟨ρ', n2, e6, e3⟩ := M.bind_some e2
  cases e3
  obtain ⟨e7, e8⟩ := M.opt_ok e6
  simp only at e7 e8
  subst e8
  unfold popR at e7
  split at e7
  case h_2 => cases e7
  rename_i ks vs hsl
  split at e7
  case isFalse => cases e7
  rename_i hc
  cases e7
  simp only [Bool.and_eq_true] at hc
  obtain ⟨a, u, hsa, hua, c, hf, h0⟩ := rdP_dict m hsl
  cases c with
  | @k kvs ek r =>
    subst ek
    obtain ⟨kk, rfl⟩ := isK_key hc.1.1
    obtain ⟨w, hw⟩ := val_some hc.2
    refine ⟨_, hsa, ?_, F0, H0, F, ρ, n, _, _, e1, m, fun v F' H' gr s P rv => ?_⟩
    · exact .inr (.inr (.inl ⟨rfl, .inl ⟨_, hua⟩⟩))
    · obtain ⟨q1, q2, q3⟩ := dict_after m.p0 h0 hua (.k rfl r) hf gr
      obtain rfl := rep_keyD rv
      obtain ⟨h1, h2⟩ := cut_rep (k := kk) (r.mono gr.f)
      refine ⟨a, kk, w, kvs, rfl, rfl, q1, hw, ?_⟩
      have dc : DCon g F' a (cutKs (kvs.map fun p => keyD p.1) vs (keyD kk)) (cutVs (kvs.map fun p => keyD p.1) vs (keyD kk)) (.dK (dropK kvs kk)) := .k h1 h2
      exact k F' σ _ gr.f ((m.grow gr s P).writeO hsl hsa q3 h0 q1 q2.any.1 (dc.own upd_same))
  | t o r1 r2 =>
    exfalso
    cases ks with
    | nil => cases hc.2
    | cons k0 ks =>
      have h1 := o.key k0 List.mem_cons_self
      have h2 := List.all_eq_true.mp hc.1.2 k0 List.mem_cons_self
      have h3 : isTup k0 = true := (Bool.and_eq_true_iff.mp h1).1
      cases k0 <;> first | (cases h3; done) | (cases h2; done)
end
end Ev

set_option Elab.async false
set_option linter.all false
set_option autoImplicit false
set_option maxRecDepth 100000
set_option maxHeartbeats 2000000
/-! EvL1: a lambda's call, over the hand layer: captured cells by value. -/
namespace Ev
open PySem PySem.Spec PyProof.Rows L2

/-- a lambda's names: first the captured ones, then the parameters, then those of its comprehensions -/
structure LScope (N caps ps : List Str) (sc : Scope) : Prop where
  kind : sc.kind = .function
  co : sc.isCoroutine = false
  gen : sc.isGenerator = false
  nd : N.Nodup
  pre : N.take (caps.length + ps.length) = caps ++ ps
  par : ∀ x ∈ ps, sc.names.lookup x = some .local ∨ sc.names.lookup x = some .cell
  nn : (sc.names.map (·.1)).Nodup
  cap : ∀ x ∈ caps, sc.names.lookup x = some .free
  free : ∀ y ∈ sc.names, y.2 = .free → y.1 ∈ caps
/-- the context of a lambda's body -/
def lcx (CX : CXT) (P : Program) (w : World) (K : PySem.W.Frag) (mg : Str → Option Value) (base : Heap) (N : List Str) (qual : Str) (sc : Scope) (cl : List (Str × Addr)) (f c' : Addr) (A : Around) (outer : List Env) (s : Shared) (H : Hp) (E : XK) : Cx where
  prog := P
  w := w
  K := K
  mg := mg
  base := base
  A := A.deeper (PySem.W.envX qual sc s.heap.objs.size f (.ref c') cl)
  N := N
  s_0 := s
  H_0 := H
  env := PySem.W.envX qual sc s.heap.objs.size f (.ref c') cl
  outer := outer
  stack := PySem.W.envX qual sc s.heap.objs.size f (.ref c') cl :: outer
  ex := []
  fn := fun x => decide (sc.names.lookup x = some .cell)
  calm := true
  pn := []
  xe := fun e s' => wpAny (model P w) (A.deeper (PySem.W.envX qual sc s.heap.objs.size f (.ref c') cl)) (leaving (PySem.W.envX qual sc s.heap.objs.size f (.ref c') cl) e) (fun _ s'' => CX outer H s E e s'') (fun e' s'' => CX outer H s E e' s'') s'

theorem lookup_mem {α : Type} : ∀ {l : List (Str × α)} {x : Str} {u : α}, (l.map (·.1)).Nodup → (x, u) ∈ l → l.lookup x = some u
  | (y, v) :: l, x, u, nd, h => by
    rw [List.map_cons, List.nodup_cons] at nd
    rcases List.mem_cons.mp h with e | h2
    · obtain ⟨rfl, rfl⟩ := Prod.mk.inj e
      simp [List.lookup_cons]
    · have ne : (x == y) = false := by
        rw [beq_eq_false_iff_ne]
        rintro rfl
        exact nd.1 (List.mem_map.mpr ⟨_, h2, rfl⟩)
      rw [List.lookup_cons, ne]
      exact lookup_mem nd.2 h2
theorem zip_rev_lookup {ps : List Str} {us : List Value} {i : Nat} {x : Str} {u : Value} (nd : ps.Nodup) (h1 : ps[i]? = some x) (h2 : us[i]? = some u) : (ps.zip us).reverse.lookup x = some u := by
  refine lookup_mem ?_ (List.mem_reverse.mpr (List.mem_of_getElem? (i := i) (by rw [List.getElem?_zip_eq_some]; exact ⟨h1, h2⟩)))
  rw [List.map_reverse]
  refine (List.reverse_perm _).nodup_iff.mpr ?_
  have e : (ps.zip us).map (·.1) = ps.take us.length := by
    clear nd h1 h2
    induction ps generalizing us with
    | nil => simp
    | cons p ps ih =>
      cases us with
      | nil => simp
      | cons v us => simp [ih]
  rw [e]
  exact nd.sublist (List.take_sublist _ _)

/-! ### a new frame with captured and own cells -/
theorem cellsFrom_app : ∀ (names : List (Str × NameKind)) (n : Nat) (acc : List (Str × Addr)), cellsFrom n names acc = cellsFrom n names [] ++ acc
  | [], _, _ => rfl
  | (x, k) :: r, n, acc => by
    unfold cellsFrom
    split
    · rw [cellsFrom_app r (n + 1) ((x, n) :: acc), cellsFrom_app r (n + 1) [(x, n)], List.append_assoc]
      rfl
    · exact cellsFrom_app r n acc
theorem cellsFrom_kind {x : Str} {c : Addr} : ∀ {names : List (Str × NameKind)} {n : Nat}, (x, c) ∈ cellsFrom n names [] → (x, NameKind.cell) ∈ names
  | [], _, h => by cases h
  | (y, k) :: r, n, h => by
    unfold cellsFrom at h
    split at h
    · rename_i hk
      rw [cellsFrom_app] at h
      rcases List.mem_append.mp h with h | h
      · exact List.mem_cons_of_mem _ (cellsFrom_kind h)
      · simp at h
        obtain ⟨rfl, _⟩ := h
        have : k = .cell := by simpa using hk
        rw [this]
        exact List.mem_cons_self
    · exact List.mem_cons_of_mem _ (cellsFrom_kind h)
theorem lookup_app {α : Type} {x : Str} : ∀ {l r : List (Str × α)}, (l ++ r).lookup x = (l.lookup x).or (r.lookup x)
  | [], r => rfl
  | (y, v) :: l, r => by
    rw [List.cons_append, List.lookup_cons, List.lookup_cons]
    cases x == y
    · exact lookup_app
    · rfl
theorem storeName_cells {env : Env} {cs : List (Str × Addr)} {n : Str} {v : Value} (h : env.cells.lookup n = cs.lookup n) : storeName env n v = storeName { env with cells := cs } n v := by
  have e : PySem.cellOf env n = PySem.cellOf { env with cells := cs } n := by
    unfold PySem.cellOf
    rw [h]
  unfold storeName
  rw [e]
  rfl
theorem forIn_same {γ : Type} {f f' : γ → PUnit → Sem (ForInStep PUnit)} : ∀ {l : List γ}, (∀ x ∈ l, ∀ u, f x u = f' x u) → forIn l PUnit.unit f = forIn l PUnit.unit f'
  | [], _ => rfl
  | a :: l, h => by
    rw [List.forIn_cons, List.forIn_cons, h a List.mem_cons_self]
    congr 1
    funext r
    cases r with
    | done b => rfl
    | yield b => exact forIn_same fun x hx => h x (List.mem_cons_of_mem _ hx)
theorem newEnv_lam {M : Model} {A : Around} {E : Value → Shared → Prop} {s : Shared} {scope : Scope} {globals : Addr} {cl : List (Str × Addr)} {binds : List (Str × Value)} {qual : Str} {func : Option Addr} {code : Value} {builtins : Addr} {Q : Env → Shared → Prop}
    (hk : scope.kind = .function)
    (hkind : ∀ x ∈ binds, scope.names.lookup x.1 = some .local ∨ (scope.names.lookup x.1 = some .cell ∧ ((cellsFrom (s.heap.objs.size + 1) scope.names []).lookup x.1).isSome = true))
    (hQ : ∀ s', InCallC s s.heap.objs.size (bindL (fun x => scope.names.lookup x) binds fun _ => none) (cellsFrom (s.heap.objs.size + 1) scope.names []) (bindC (fun x => scope.names.lookup x) binds fun _ => none) s' →
      Q (newEnv scope s.heap.objs.size globals (cellsFrom (s.heap.objs.size + 1) scope.names cl) qual func code none builtins) s') :
    wpAny M A (newFunctionEnv scope globals cl binds qual func code none builtins) Q E s := by
  simp only [newFunctionEnv, Option.isSome_none, Bool.false_eq_true, if_false]
  refine wpAny_bind (wpAny_alloc ?_)
  refine wpAny_bind (wpAny_layCells _ (fun name kind cells => by cases hkc : kind == NameKind.cell <;> simp [hkc]) _ _ _ _ ?_)
  have ok := cellsFrom_ok scope.names (s.heap.push { cls := .type "frame", data := .dict #[] }) (s.heap.objs.size + 1) [] ⟨fun _ _ hm => (nomatch hm), List.Pairwise.nil⟩ (by rw [Heap.size_push]; exact Nat.le_refl _)
  rw [Heap.size_push] at ok
  rw [show ({ s with heap := s.heap.push { cls := .type "frame", data := .dict #[] } } : Shared).heap.objs.size = s.heap.objs.size + 1 from Heap.size_push ..]
  have key := wpAny_bindParams (M := M) (A := A) (E := E) (s₀ := s) (env := newEnv scope s.heap.objs.size globals (cellsFrom (s.heap.objs.size + 1) scope.names []) qual func code none builtins)
    (fun p u => do storeName (newEnv scope s.heap.objs.size globals (cellsFrom (s.heap.objs.size + 1) scope.names []) qual func code none builtins) p.1 p.2; pure (.yield ⟨⟩)) (fun _ _ _ => rfl) hk binds (fun _ => none) (fun _ => none) _
    (fun _ s' => Q (newEnv scope s.heap.objs.size globals (cellsFrom (s.heap.objs.size + 1) scope.names cl) qual func code none builtins) s')
    (⟨⟨⟨_, _, rfl⟩, (Heap.Ns.new s.heap (.type "frame")).keeps (pushCells_keeps _ _), fun b o e => pushCells_keeps _ _ b o (Heap.get?_push_of_some _ e), Nat.le_refl _⟩,
      fun n c hc => (ok.empty n c (mem_of_lookup hc)).1, ok.apart, fun n c hm => (ok.empty n c hm).2⟩ : InCallC s s.heap.objs.size (fun _ => none) (cellsFrom (s.heap.objs.size + 1) scope.names []) (fun _ => none) { s with heap := pushCells (s.heap.push { cls := .type "frame", data := .dict #[] }) scope.names })
    hkind fun s' x => hQ s' x
  refine wpAny_bind ?_
  have same : (forIn binds PUnit.unit fun (p : Str × Value) (u : PUnit) => (do storeName (newEnv scope s.heap.objs.size globals (cellsFrom (s.heap.objs.size + 1) scope.names cl) qual func code none builtins) p.1 p.2; pure (ForInStep.yield PUnit.unit) : Sem (ForInStep PUnit))) =
      forIn binds PUnit.unit fun (p : Str × Value) (u : PUnit) => (do storeName (newEnv scope s.heap.objs.size globals (cellsFrom (s.heap.objs.size + 1) scope.names []) qual func code none builtins) p.1 p.2; pure (ForInStep.yield PUnit.unit) : Sem (ForInStep PUnit)) := by
    refine forIn_same fun p hp u => ?_
    rcases hkind p hp with h | ⟨h, h2⟩
    · have e : storeName (newEnv scope s.heap.objs.size globals (cellsFrom (s.heap.objs.size + 1) scope.names cl) qual func code none builtins) p.1 p.2 = storeName (newEnv scope s.heap.objs.size globals (cellsFrom (s.heap.objs.size + 1) scope.names []) qual func code none builtins) p.1 p.2 := by
        unfold storeName
        have k1 : (newEnv scope s.heap.objs.size globals (cellsFrom (s.heap.objs.size + 1) scope.names cl) qual func code none builtins).kindOf p.1 = some .local := h
        have k2 : (newEnv scope s.heap.objs.size globals (cellsFrom (s.heap.objs.size + 1) scope.names []) qual func code none builtins).kindOf p.1 = some .local := h
        simp only [k1, k2]
        rfl
      rw [e]
    · rw [storeName_cells (cs := cellsFrom (s.heap.objs.size + 1) scope.names []) (env := newEnv scope s.heap.objs.size globals (cellsFrom (s.heap.objs.size + 1) scope.names cl) qual func code none builtins) (by
        show (cellsFrom (s.heap.objs.size + 1) scope.names cl).lookup p.1 = _
        rw [cellsFrom_app, lookup_app]
        obtain ⟨c, hc⟩ := Option.isSome_iff_exists.mp h2
        rw [hc]
        rfl)]
      rfl
  refine wpAny_mono (Q := fun _ s' => Q (newEnv scope s.heap.objs.size globals (cellsFrom (s.heap.objs.size + 1) scope.names cl) qual func code none builtins) s') (E := E) ?_ (fun _ s' h => wpAny_pure h) fun _ _ h => h
  exact same ▸ key
section
variable {CX : CXT} {P : Program} {w : World} {K : PySem.W.Frag} {mg : Str → Option Value} {base : Heap} {N caps ps : List Str} {qual : Str} {sc : Scope} {cl : List (Str × Addr)} {f c' : Addr} {A : Around} {outer : List Env} {s : Shared} {H : Hp} {E : XK} {vs ws : List V} {us : List Value}
/-- the cells hold the captured values -/
def CapsAre (h : Heap) (H : Hp) (cl : List (Str × Addr)) (caps : List Str) (vs : List V) : Prop :=
  caps.length = vs.length ∧ ∀ (j : Nat) (x : Str) (v : V), caps[j]? = some x → vs[j]? = some v → ∃ c u, cl.lookup x = some c ∧ RelV v u ∧ h.IsCell c (some u) ∧ H c = none
theorem linv (S : LScope N caps ps sc) (cok : ClOk caps cl) (hd : A.handled = none) (e0 : Env0 P w K mg base A outer s H) (hc : CapsAre s.heap H cl caps vs) (hl : ws.length = ps.length) (r : Vals ws us) {s1 : Shared}
    (x : InCallC s s.heap.objs.size (bindL (fun x => sc.names.lookup x) (ps.zip us) fun _ => none) (cellsFrom (s.heap.objs.size + 1) sc.names []) (bindC (fun x => sc.names.lookup x) (ps.zip us) fun _ => none) s1) :
    Inv (lcx CX P w K mg base N qual sc (cellsFrom (s.heap.objs.size + 1) sc.names cl) f c' A outer s H E) [] (L2.start N (vs ++ ws)) H s1 := by
  obtain ⟨h₁, t, rfl, kp⟩ := x.done
  have noA : ∀ b : Addr, b ∉ (lcx CX P w K mg base N qual sc (cellsFrom (s.heap.objs.size + 1) sc.names cl) f c' A outer s H E).ex := fun b z => absurd (show b ∈ ([] : List Addr) from z) (by simp)
  have hNl : caps.length + ps.length ≤ N.length := by
    have := congrArg List.length S.pre
    rw [List.length_take, List.length_append] at this
    omega
  have fr : ∀ {x : Str}, sc.names.lookup x = some .free → ∃ (j : Nat) (v : V) (c : Addr) (u : Value), caps[j]? = some x ∧ vs[j]? = some v ∧ cl.lookup x = some c ∧ RelV v u ∧ s.heap.IsCell c (some u) ∧ H c = none := fun {x} hx => by
    obtain ⟨j, hj, ej⟩ := List.getElem_of_mem (S.free _ (PySem.mem_of_lookup hx) rfl)
    have hj2 : j < vs.length := by rw [← hc.1]; exact hj
    have q1 : caps[j]? = some x := by rw [List.getElem?_eq_getElem hj, ej]
    have q2 : vs[j]? = some vs[j] := List.getElem?_eq_getElem hj2
    obtain ⟨c, u, a1, a2, a3, a4⟩ := hc.2 j x _ q1 q2
    exact ⟨j, _, c, u, q1, q2, a1, a2, a3, a4⟩
  have cl_in : ∀ {x c}, cl.lookup x = some c → ∃ u, s.heap.IsCell c (some u) ∧ H c = none := fun {x c} e => by
    obtain ⟨_, _, c2, u, _, _, e2, _, a3, a4⟩ := fr (S.cap x (cok.dom x c e))
    rw [e] at e2
    cases e2
    exact ⟨u, a3, a4⟩
  have keepC : ∀ {c u}, s.heap.IsCell c u → h₁.IsCell c u := fun {c u} ⟨o, ho, hd⟩ => ⟨o, kp _ _ ho, hd⟩
  have split : ∀ {y c}, (cellsFrom (s.heap.objs.size + 1) sc.names cl).lookup y = some c → ((cellsFrom (s.heap.objs.size + 1) sc.names []).lookup y = some c) ∨ cl.lookup y = some c := fun {y c} e => by
    rw [cellsFrom_app, lookup_app] at e
    cases q : (cellsFrom (s.heap.objs.size + 1) sc.names []).lookup y with
    | some c2 => rw [q] at e; cases e; exact .inl rfl
    | none => rw [q] at e; exact .inr e
  have up : ∀ {y c}, (cellsFrom (s.heap.objs.size + 1) sc.names []).lookup y = some c → s.heap.objs.size < c := fun {y c} e => x.above y c (PySem.mem_of_lookup e)
  have low : ∀ {y c}, cl.lookup y = some c → c < s.heap.objs.size := fun {y c} e => by
    obtain ⟨u, a, _⟩ := cl_in e
    exact a.lt
  have nonew : ∀ {y}, sc.names.lookup y = some .free → (cellsFrom (s.heap.objs.size + 1) sc.names []).lookup y = none := fun {y} hy => by
    cases q : (cellsFrom (s.heap.objs.size + 1) sc.names []).lookup y with
    | none => rfl
    | some c =>
      have := lookup_mem S.nn (cellsFrom_kind (PySem.mem_of_lookup q))
      rw [hy] at this
      cases this
  have free_at : ∀ {y c}, sc.names.lookup y = some .free → cl.lookup y = some c → (cellsFrom (s.heap.objs.size + 1) sc.names cl).lookup y = some c := fun {y c} hy e => by
    rw [cellsFrom_app, lookup_app, nonew hy]
    exact e
  have cell_at : ∀ {y}, sc.names.lookup y = some .cell → ∃ c, (cellsFrom (s.heap.objs.size + 1) sc.names []).lookup y = some c ∧ (cellsFrom (s.heap.objs.size + 1) sc.names cl).lookup y = some c := fun {y} hy => by
    obtain ⟨c, e⟩ := cell_has (n := s.heap.objs.size + 1) hy
    refine ⟨c, e, ?_⟩
    rw [cellsFrom_app, lookup_app, e]
    rfl
  refine ⟨⟨e0.mod, S.kind, rfl, rfl, Nat.le_refl _, fun y z c h1 h2 => ?_, fun y hy => ?_, fun y c z h => ?_, fun _ => hd, Around.frames_deeper e0.frames, .inr ⟨rfl, rfl⟩, fun b z => absurd z (noA b), e0.bs, e0.bsz, fun b _ _ => noA b, fun b z => absurd z (noA b), e0.funs, e0.frf⟩,
    rfl, e0.bare, Un.kept kp, ⟨_, x.toInCall.ns, fun i y v e1 e2 e3 => ?_⟩, fun y c e => ?_, e0.hok.fresh (Nat.le_refl _), fun y c e => ?_, fun q hq => absurd (show q ∈ ([] : List (Addr × Obj)) ++ [] from hq) (by simp), e0.hok.kept kp, ?_⟩
  · rcases split h1 with a | a <;> rcases split h2 with b | b
    · exact name_of_addr x.apart (PySem.mem_of_lookup a) (PySem.mem_of_lookup b)
    · exact absurd (Nat.lt_trans (up a) (low b)) (Nat.lt_irrefl _)
    · exact absurd (Nat.lt_trans (up b) (low a)) (Nat.lt_irrefl _)
    · exact cok.inj y z c a b
  · have hy : sc.names.lookup y = some .cell ∨ sc.names.lookup y = some .free := hy
    rcases hy with hy | hy
    · obtain ⟨c, _, e⟩ := cell_at hy
      exact ⟨c, e⟩
    · obtain ⟨_, _, c, _, _, _, e, _⟩ := fr hy
      exact ⟨c, free_at hy e⟩
  · have z : decide (sc.names.lookup y = some .cell) = true := z
    obtain ⟨c2, e1, e2⟩ := cell_at (of_decide_eq_true z)
    have h : (cellsFrom (s.heap.objs.size + 1) sc.names cl).lookup y = some c := h
    rw [e2] at h
    cases h
    exact Nat.le_of_lt (up e1)
  · -- the names
    have e1 : N[i]? = some y := e1
    have e3 : Vis sc y := e3
    have hi : i < (vs ++ ws).length := by
      unfold L2.start at e2
      by_cases hi : i < (vs ++ ws).length
      · exact hi
      · rw [List.getElem?_append_right (by simp at hi ⊢; omega), List.getElem?_replicate] at e2
        split at e2 <;> cases e2
    have ha : (vs ++ ws)[i]? = some v := by
      unfold L2.start at e2
      rw [List.getElem?_append_left (by simpa using hi), List.getElem?_map] at e2
      cases e : (vs ++ ws)[i]? with
      | none => rw [e] at e2; cases e2
      | some a => rw [e] at e2; cases e2; rfl
    have hi2 : i < caps.length + ps.length := by
      rw [List.length_append] at hi
      rw [hc.1, ← hl]
      exact hi
    have hy : (caps ++ ps)[i]? = some y := by rw [← S.pre, List.getElem?_take_of_lt hi2]; exact e1
    by_cases hic : i < caps.length
    · rw [List.getElem?_append_left hic] at hy
      rw [List.getElem?_append_left (by rw [← hc.1]; exact hic)] at ha
      obtain ⟨c, u, a1, a2, a3, a4⟩ := hc.2 i y v hy ha
      have hf := S.cap y (List.mem_of_getElem? hy)
      exact ⟨u, a2, .inr ⟨.inr hf, c, free_at hf a1, keepC a3⟩⟩
    · rw [List.getElem?_append_right (by omega)] at hy
      rw [List.getElem?_append_right (by rw [← hc.1]; omega), ← hc.1] at ha
      obtain ⟨u, hu, rv⟩ := r.get ha
      have ndp : ps.Nodup := by
        have := S.nd.sublist (List.take_sublist (caps.length + ps.length) N)
        rw [S.pre] at this
        exact (List.nodup_append.mp this).2.1
      refine ⟨u, rv, ?_⟩
      rcases S.par y (List.mem_of_getElem? hy) with k | k
      · exact .inl ⟨k, bindL_get (kindOf := fun x => sc.names.lookup x) ndp hy hu k⟩
      · obtain ⟨c, e1, e2⟩ := cell_at k
        refine .inr ⟨.inl k, c, e2, ?_⟩
        have q := x.cell y c e1
        rw [bindC_get (kindOf := fun x => sc.names.lookup x) ndp hy hu (by show sc.names.lookup y ≠ _; rw [k]; decide)] at q
        exact q
  · rcases split e with a | a
    · exact ⟨_, x.cell y c a⟩
    · obtain ⟨u, a, _⟩ := cl_in a
      exact ⟨_, keepC a⟩
  · rcases split e with a | a
    · exact e0.hok.fresh (Nat.le_of_lt (up a))
    · exact (cl_in a).choose_spec.2
  · unfold L2.start
    show _ = N.length
    have := hc.1
    simp only [List.length_append, List.length_map, List.length_replicate]
    omega
/-- the lambda at f is called -/
theorem lam_run {params : Arguments} {body : Expr} {pm ctv : Value} {k : Nat} {args : Args} {Q : VK} (ho : s.heap.get? f = some (PySem.W.kla_obj "<lambda>" qual params body sc cl pm c' ctv)) (hcd : s.heap.CodeRec (.ref c') qual) (S : LScope N caps ps sc) (cok : ClOk caps cl)
    (hc : CapsAre s.heap H cl caps vs) (hr : Room (k + 1) A) (e0 : Env0 P w K mg base A outer s H) (hbind : bindArgs (PySem.W.kla_fn "<lambda>" qual params body sc cl pm (.ref c') ctv) args = pure (ps.zip us)) (hl : ws.length = ps.length) (r : Vals ws us)
    (hbody : Room k (A.deeper (PySem.W.envX qual sc s.heap.objs.size f (.ref c') (cellsFrom (s.heap.objs.size + 1) sc.names cl))) → ∃ t, PE (lcx CX P w K mg base N qual sc (cellsFrom (s.heap.objs.size + 1) sc.names cl) f c' A outer s H E) body t ∧ t (L2.start N (vs ++ ws)) H Q) :
    codeAny (model P w) A (.call (.ref f) args) (CR CX outer P w H s Q E) s := by
  have lim : s.heap.NoLimit := e0.mod.nolimit.keeps fun b o e => (e0.bs b o e).1
  refine PySem.W.kla_callFunE hr.depth ho rfl S.co S.gen rfl hcd ?_
  rw [hbind]
  have hkind : ∀ y ∈ ps.zip us, sc.names.lookup y.1 = some .local ∨ (sc.names.lookup y.1 = some .cell ∧ ((cellsFrom (s.heap.objs.size + 1) sc.names []).lookup y.1).isSome = true) := fun ⟨n, v⟩ hy => by
    rcases S.par n (List.of_mem_zip hy).1 with q | q
    · exact .inl q
    · exact .inr ⟨q, PySem.W.cellsFrom_some _ _ _ (.inl q)⟩
  refine wpAny_pure (newEnv_lam S.kind hkind fun s1 x => ⟨lim.keeps x.toInCall.keep, ?_⟩)
  show codeAny _ _ (.expr body (PySem.W.envX qual sc s.heap.objs.size f (.ref c') (cellsFrom (s.heap.objs.size + 1) sc.names cl))) _ _
  obtain ⟨t, ht, hq⟩ := hbody (hr.deeper _)
  have J := linv (CX := CX) (P := P) (w := w) (K := K) (mg := mg) (base := base) (qual := qual) (f := f) (c' := c') (E := E) S cok hr.hd e0 hc hl r x
  refine PySem.W.kla_codeExpr (wpAny_mono (ht.run [] _ _ H Q J hq) (fun v s' hq => ?_) fun e s' hq => hq)
  obtain ⟨w', H', J', rv, q⟩ := hq
  exact ⟨w', H', J'.os, J'.bare, J'.base, J'.hok, rv, q⟩
end
end Ev

set_option Elab.async false
set_option linter.all false
set_option autoImplicit false
set_option maxRecDepth 100000
set_option maxHeartbeats 2000000
/-! EvL2: a lambda's call by data: its cells are put out of sight while it runs. -/
namespace Ev
open PySem PySem.Spec PyProof.Rows L2

mutual
/-- no lambda within -/
def noClo : D → Bool
  | .tup xs => noClos xs
  | .lst xs => noClos xs
  | .dict ks vs => noClos ks && noClos vs
  | .clo _ _ => false
  | .obj _ _ vs => noClos vs
  | _ => true
def noClos : List D → Bool
  | [] => true
  | x :: xs => noClo x && noClos xs
end
def AllCell (F : Hp) (cs : List Addr) : Prop := ∀ c ∈ cs, ∃ o, F c = some (CellP o)
theorem cellP_dx {o od : Obj} {a : Addr} {es : List (Int × Addr × V)} : HO.frz od (DX a es) ≠ CellP o := fun z => by
  unfold CellP DX at z
  injection z with _ z
  injection z with z
  have t : True := trivial
  rw [← congrFun z ⟨#[], {}⟩] at t
  obtain ⟨_, _, o', _, _, ho, _⟩ := t
  have ho : (none : Option Obj) = some o' := ho
  cases ho
theorem cellP_frz {o od : Obj} {u : HO} (h : ∀ φ, u ≠ .ext φ) : HO.frz od u ≠ CellP o := fun z => by
  unfold CellP at z
  injection z with _ z
  exact h _ z
theorem eraseL_keep {F : Hp} {cs : List Addr} (hc : AllCell F cs) {a : Addr} {o : HO} (h : F a = some o) (ne : ∀ o', o ≠ CellP o') : eraseL F cs a = some o := by
  unfold eraseL
  rw [if_neg]
  · exact h
  · intro z
    obtain ⟨o', e⟩ := hc a z
    rw [h] at e
    exact ne o' (Option.some.inj e)
theorem sqT_erase {K : PySem.W.Frag} {F : Hp} {cs : List Addr} {a : Addr} {vs : List V} (hc : AllCell F cs) (h : SqT K F a vs) : SqT K (eraseL F cs) a vs := by
  rcases h with (h | ⟨o, h⟩) | h
  · exact .inl (.inl (eraseL_keep hc h fun _ z => nomatch z))
  · exact .inl (.inr ⟨o, eraseL_keep hc h fun _ => cellP_frz fun _ z => nomatch z⟩)
  · exact .inr h
theorem sqL_erase {K : PySem.W.Frag} {F : Hp} {cs : List Addr} {a : Addr} {vs : List V} (hc : AllCell F cs) (h : SqL K F a vs) : SqL K (eraseL F cs) a vs := by
  rcases h with (h | ⟨o, h⟩) | h
  · exact .inl (.inl (eraseL_keep hc h fun _ z => nomatch z))
  · exact .inl (.inr ⟨o, eraseL_keep hc h fun _ => cellP_frz fun _ z => nomatch z⟩)
  · exact .inr h
section
variable {g : Gh} {F : Hp} {cs : List Addr}
mutual
theorem Rep.erase (hc : AllCell F cs) : ∀ {v : V} {d : D}, Rep g F v d → noClo d = true → Rep g (eraseL F cs) v d
  | _, _, .non, _ => .non
  | _, _, .bl b, _ => .bl b
  | _, _, .int i, _ => .int i
  | _, _, .str x, _ => .str x
  | _, _, .tup h r, n => .tup (sqT_erase hc h) (RepAll.erase hc r (by simpa only [noClo] using n))
  | _, _, .lst h r, n => .lst (eraseL_keep hc h fun _ z => nomatch z) (RepAll.erase hc r (by simpa only [noClo] using n))
  | _, _, .pool, _ => .pool
  | _, _, .scr h, _ => .scr (sqL_erase hc h)
  | _, _, .dictK h r, n => by
    simp only [noClo, Bool.and_eq_true] at n
    exact .dictK (eraseL_keep hc h fun _ => cellP_frz fun _ z => nomatch z) (RepAll.erase hc r n.2)
  | _, _, .dictT h o r1 r2, n => by
    simp only [noClo, Bool.and_eq_true] at n
    exact .dictT (eraseL_keep hc h fun _ => cellP_dx) o (RepAll.erase hc r1 n.1) (RepAll.erase hc r2 n.2)
  | _, _, .clo _ _ _ _ _ _, n => by simp only [noClo] at n; cases n
  | _, _, .obj h1 h2 h3 r, n => .obj h1 (eraseL_keep hc h2 fun _ z => nomatch z) h3 (RepAll.erase hc r (by simpa only [noClo] using n))
theorem RepAll.erase (hc : AllCell F cs) : ∀ {vs : List V} {ds : List D}, RepAll g F vs ds → noClos ds = true → RepAll g (eraseL F cs) vs ds
  | _, _, .nil, _ => .nil
  | _, _, .cons h r, n => by
    simp only [noClos, Bool.and_eq_true] at n
    exact .cons (Rep.erase hc h n.1) (RepAll.erase hc r n.2)
end
end
theorem CellsF.all {F : Hp} {cl : List (Str × Addr)} : ∀ {xs : List Str} {cs : List Addr} {vs : List V}, CellsF F cl xs cs vs → AllCell F cs
  | _, _, _, .nil => fun _ z => nomatch z
  | _, _, _, .cons _ h2 _ _ t => fun c z => by
    rcases List.mem_cons.mp z with rfl | z
    · exact ⟨_, h2⟩
    · exact CellsF.all t c z
theorem CellsF.len {F : Hp} {cl : List (Str × Addr)} : ∀ {xs : List Str} {cs : List Addr} {vs : List V}, CellsF F cl xs cs vs → xs.length = vs.length
  | _, _, _, .nil => rfl
  | _, _, _, .cons _ _ _ _ t => by simp [CellsF.len t]
theorem CellsF.at {F : Hp} {cl : List (Str × Addr)} : ∀ {xs : List Str} {cs : List Addr} {vs : List V}, CellsF F cl xs cs vs → ∀ {j : Nat} {x : Str} {v : V}, xs[j]? = some x → vs[j]? = some v → ∃ c o u, cl.lookup x = some c ∧ F c = some (CellP o) ∧ o.data = .cell (some u) ∧ RelV v u ∧ c ∈ cs
  | _, _, _, .nil, j, x, v, h, _ => by simp at h
  | _, _, _, .cons h1 h2 h3 h4 t, 0, x, v, e1, e2 => by
    simp at e1 e2
    subst e1 e2
    exact ⟨_, _, _, h1, h2, h3, h4, List.mem_cons_self⟩
  | _, _, _, .cons h1 h2 h3 h4 t, j + 1, x, v, e1, e2 => by
    obtain ⟨c, o, u, a1, a2, a3, a4, a5⟩ := CellsF.at t (j := j) (by simpa using e1) (by simpa using e2)
    exact ⟨c, o, u, a1, a2, a3, a4, List.mem_cons_of_mem _ a5⟩

/-! ### heaps with the cells away and back -/
/-- the cells as they stood -/
def pinL (H H' : Hp) (cs : List Addr) : Hp := fun a => if a ∈ cs then H a else H' a
theorem pin_in {H H' : Hp} {cs : List Addr} {a : Addr} (h : a ∈ cs) : pinL H H' cs a = H a := by unfold pinL; rw [if_pos h]
theorem pin_out {H H' : Hp} {cs : List Addr} {a : Addr} (h : a ∉ cs) : pinL H H' cs a = H' a := by unfold pinL; rw [if_neg h]
theorem er_in {H : Hp} {cs : List Addr} {a : Addr} (h : a ∈ cs) : eraseL H cs a = none := by unfold eraseL; rw [if_pos h]
theorem er_out {H : Hp} {cs : List Addr} {a : Addr} (h : a ∉ cs) : eraseL H cs a = H a := by unfold eraseL; rw [if_neg h]
section
variable {P : Program} {w : World} {K : PySem.W.Frag} {mg : Str → Option Value} {base : Heap} {A : Around} {outer : List Env} {s s' : Shared} {H H' : Hp} {cs : List Addr}
theorem hok_erase {h : Heap} (hc : AllCell H cs) (ok : HOk P w H h) : HOk P w (eraseL H cs) h := fun a o e => by
  obtain ⟨e1, e2⟩ := eraseL_some e
  exact (ok a o e2).stay (fun _ _ _ q => q) (fun b q => eraseL_keep hc q fun _ z => nomatch z) fun b xs q => eraseL_keep hc q fun _ z => nomatch z
theorem Env0.erase (hc : AllCell H cs) (e0 : Env0 P w K mg base A outer s H) : Env0 P w K mg base A outer s (eraseL H cs) := by
  have no : ∀ b, H b = none → eraseL H cs b = none := fun b h => by
    by_cases z : b ∈ cs
    · exact er_in z
    · rw [er_out z]; exact h
  exact ⟨e0.frames, e0.mod, fun b o h => ⟨(e0.bs b o h).1, no b (e0.bs b o h).2⟩, e0.bsz, e0.funs, fun b hb => no b (e0.frf b hb), hok_erase hc e0.hok, e0.bare⟩
/-- the cells are back -/
theorem un_pin {fs : List Addr} (hc : AllCell H cs) (ok : HOk P w H s.heap) (nf : ∀ c ∈ cs, c ∉ fs) (un : Un fs [] (eraseL H cs) H' s.heap s'.heap) (ok' : HOk P w H' s'.heap) :
    Un fs [] H (pinL H H' cs) s.heap s'.heap ∧ HOk P w (pinL H H' cs) s'.heap ∧ ∀ c ∈ cs, H' c = none := by
  have cellS : ∀ c ∈ cs, ∃ o, H c = some (CellP o) ∧ s.heap.get? c = some o := fun c h => by
    obtain ⟨o, e⟩ := hc c h
    exact ⟨o, e, (ok c _ e).1⟩
  have out : ∀ b, H b = none → b ∉ cs := fun b n z => by
    obtain ⟨o, e⟩ := hc b z
    rw [n] at e
    cases e
  have no : ∀ b, H b = none → eraseL H cs b = none := fun b n => by rw [er_out (out b n)]; exact n
  have keep : ∀ b u, H b = some u → (∀ o, u ≠ CellP o) → b ∉ cs := fun b u e ne z => by
    obtain ⟨o, e'⟩ := hc b z
    rw [e] at e'
    exact ne o (Option.some.inj e')
  have gone : ∀ c ∈ cs, H' c = none := fun c h => by
    obtain ⟨o, _, q⟩ := cellS c h
    exact un.free c o q (er_in h) (by simp)
  refine ⟨⟨fun b o q n hb hx => un.keep b o q (no b n) hb hx, fun b o q n hb hx => un.slot b o q (no b n) hb hx, fun b o q n hx => ?_, un.there, fun b xs e => ?_, fun b o u e => ?_, fun b ps e => ?_⟩, fun a u e => ?_, gone⟩
  · rw [pin_out (out b n)]
    exact un.free b o q (no b n) hx
  · have z := keep b _ e fun _ z => nomatch z
    rw [pin_out z]
    exact un.tups b xs (by rw [er_out z]; exact e)
  · by_cases z : b ∈ cs
    · rw [pin_in z]; exact e
    · rw [pin_out z]
      exact un.frzs b o u (by rw [er_out z]; exact e)
  · have z := keep b _ e fun _ z => nomatch z
    obtain ⟨more, q⟩ := un.tbls b ps (by rw [er_out z]; exact e)
    exact ⟨more, by rw [pin_out z]; exact q⟩
  · have mono : ∀ b v, H' b = some v → pinL H H' cs b = some v := fun b v q => by
      rw [pin_out]
      · exact q
      · intro z
        rw [gone b z] at q
        cases q
    by_cases z : a ∈ cs
    · obtain ⟨o, e1, e2⟩ := cellS a z
      rw [pin_in z, e1] at e
      cases e
      have k := un.keep a o e2 (er_in z) (nf a z) (by simp)
      exact ⟨k, trivial, ⟨o, k⟩, fun _ _ _ _ => trivial⟩
    · rw [pin_out z] at e
      exact (ok' a u e).stay (fun _ _ _ q => q) (fun b q => mono b _ q) fun b xs q => mono b _ q
end
section
variable {g : Gh} {F H F' H' : Hp} {cs : List Addr} {n n' : Nat} {v : V} {d : D}
theorem poolL_erase (hc : AllCell H cs) (P : PoolL g n H) : PoolL g n (eraseL H cs) :=
  ⟨eraseL_keep hc P.p (fun _ z => nomatch z), eraseL_keep hc P.r (fun _ z => nomatch z), eraseL_keep hc P.c (fun _ z => nomatch z), P.np, P.nr⟩
theorem codeO_cell {c : Addr} {q : Str} {o : Obj} : LamX.CodeO c q ≠ CellP o := fun z => nomatch z
theorem poolAt_erase (hc : AllCell H cs) (P : PoolAt g n H) : PoolAt g n (eraseL H cs) := ⟨fun hl => poolL_erase hc (P.pool hl), fun p hp => by
  obtain ⟨ps, h1, h2, h3⟩ := P.tabs p hp
  refine ⟨ps, eraseL_keep hc h1 (fun _ z => nomatch z), h2, fun pos cv hcv => ?_⟩
  obtain ⟨c, e1, e2⟩ := h3 pos cv hcv
  exact ⟨c, e1, eraseL_keep hc e2 fun _ => codeO_cell⟩⟩
theorem sub_erase (s : Same F (vis g H)) : Same (eraseL F cs) (vis g (eraseL H cs)) := fun a o h => by
  obtain ⟨h1, h2⟩ := eraseL_some h
  obtain ⟨h3, h4⟩ := vis_some (s a o h2)
  rw [vis_ne h3, er_out h1]
  exact h4
/-- with the cells back -/
theorem pool_pin (gone : ∀ c ∈ cs, H' c = none) (P : PoolAt g n' H') : PoolAt g n' (pinL H H' cs) := by
  have mono : ∀ b u, H' b = some u → pinL H H' cs b = some u := fun b u q => by
    rw [pin_out]
    · exact q
    · intro z
      rw [gone b z] at q
      cases q
  exact ⟨fun hl => have Q := P.pool hl; ⟨mono _ _ Q.p, mono _ _ Q.r, mono _ _ Q.c, Q.np, Q.nr⟩, P.tabs.ext mono⟩
theorem grow_pin (hF : ∀ c ∈ cs, F c = H c) (hh : ∀ c ∈ cs, ¬ hid g c) (s : Same F (vis g H)) (gone : ∀ c ∈ cs, H' c = none) (gr : Grow g (eraseL F cs) (eraseL H cs) F' H') (s' : Same F' (vis g H')) :
    Grow g F H (pinL F F' cs) (pinL H H' cs) ∧ Same (pinL F F' cs) (vis g (pinL H H' cs)) ∧ Same F' (pinL F F' cs) := by
  have goneF : ∀ c ∈ cs, F' c = none := fun c h => by
    cases q : F' c with
    | none => rfl
    | some u =>
      have := (vis_some (s' c u q)).2
      rw [gone c h] at this
      cases this
  refine ⟨⟨fun a o h => ?_, fun a o h => ?_, fun a h1 h2 => ?_, fun a h1 h2 h3 => ?_⟩, fun a o h => ?_, fun a o h => ?_⟩
  · by_cases z : a ∈ cs
    · rw [pin_in z]; exact h
    · rw [pin_out z]; exact gr.f a o (by rw [er_out z]; exact h)
  · obtain ⟨h1, h2⟩ := vis_some h
    rw [vis_ne h1]
    by_cases z : a ∈ cs
    · rw [pin_in z]; exact h2
    · rw [pin_out z]
      have := gr.h a o (by rw [vis_ne h1, er_out z]; exact h2)
      rwa [vis_ne h1] at this
  · have z : a ∉ cs := fun z => hh a z h1
    rw [pin_out z]
    exact gr.c a h1 (by rw [er_out z]; exact h2)
  · by_cases z : a ∈ cs
    · rw [pin_in z]
    · rw [pin_out z]
      have := gr.nw a h1 (by rw [er_out z]; exact h2) (by rw [er_out z]; exact h3)
      rwa [er_out z] at this
  · by_cases z : a ∈ cs
    · rw [pin_in z] at h
      rw [vis_ne (hh a z), pin_in z, ← hF a z]
      exact h
    · rw [pin_out z] at h
      obtain ⟨h1, h2⟩ := vis_some (s' a o h)
      rw [vis_ne h1, pin_out z]
      exact h2
  · rw [pin_out]
    · exact h
    · intro z
      rw [goneF a z] at h
      cases h
end
end Ev

set_option Elab.async false
set_option linter.all false
set_option autoImplicit false
set_option maxRecDepth 100000
set_option maxHeartbeats 2000000
/-! EvL3: a call of what is a lambda. -/
namespace Ev
open PySem PySem.Spec PyProof.Rows L2

/-- the lambdas, called -/
def LamOk (P : Program) (w : World) (K : PySem.W.Frag) (mg : Str → Option Value) (base : Heap) (g : Gh) (k : Nat) (C : Nat → List D → M D) : Prop :=
  ∀ (n : Nat) (A : Around) (outer : List Env) (s : Shared) (H F : Hp) (f : Addr) (caps args : List D) (us : List Value) (ws : List V) (nn : Nat) (d : D) (n' : Nat) (Q : VK) (E : XK), Room k A → Env0 P w K mg base A outer s H → Same F (vis g H) → PoolAt g nn H →
    Rep g F (.ref f) (.clo n caps) → RepAll g F ws args → noClos args = true → Vals ws us → C n (caps ++ args) nn = some (d, n') →
    (∀ v F' H', Grow g F H F' H' → Same F' (vis g H') → PoolAt g n' H' → Rep g F' v d → Q v H') → codeAny (model P w) A (.call (.ref f) ⟨us, []⟩) (CR CX0 outer P w H s Q E) s
def evCV (C : Nat → List D → M D) (ff : Rho → M D) (fr : Rho → M (List D)) : Rho → M D := fun ρ => do
  let c ← ff ρ
  let xs ← fr ρ
  match c with
  | .clo n caps => if noClos xs = true then C n (caps ++ xs) else M.fail
  | _ => M.fail
theorem rep_clo {g : Gh} {F : Hp} {v : V} {n : Nat} {ds : List D} (r : Rep g F v (.clo n ds)) : ∃ (f c' : Addr) (L : LamT) (cl : List (Str × Addr)) (pm ctv : Value) (cs : List Addr) (vs : List V), v = .ref f ∧ g.lam n L ∧ F f = some (LamO f L cl pm ctv c') ∧ F c' = some (LamX.CodeO c' L.qual) ∧ ClOk L.caps cl ∧ CellsF F cl L.caps cs vs ∧ RepAll g (eraseL F cs) vs ds := by
  cases r with
  | clo h1 h2 h3 h0 h4 r => exact ⟨_, _, _, _, _, _, _, _, rfl, h1, h2, h3, h0, h4, r⟩
theorem de_callv {X : Cx} {g : Gh} {C : Nat → List D → M D} {ff : Rho → M D} {fr : Rho → M (List D)} {k : Nat} {fe e : Expr} {es : List Expr} {pos : Pos} (L : LamOk X.prog X.w X.K X.mg X.base g k C) (hr : Room k X.A) (hf : PE X fe (RdV g ff)) (ha : PA X (e :: es) (RdA g fr))
    (hev : eval (.Call fe (e :: es) [] pos) X.env = (do
      let f ← eval fe X.env
      callWith pos f [] (backTo pos (starEach (e :: es) X.env)) []))
    (he : starEach (e :: es) X.env = (false, eval e X.env) :: starEach es X.env) (hpl : (backTo pos (starEach es X.env)).any (·.1) = false) :
    PE X (.Call fe (e :: es) [] pos) (RdV g (evCV C ff fr)) := by
  refine ⟨fun pins s σ H Q I ⟨F0, H0, F, ρ, n, d, n', e1, m, kk⟩ => ?_⟩
  rw [hev]
  obtain ⟨c, n1, e2, e3⟩ := M.bind_some e1
  obtain ⟨xs, n2, e4, e5⟩ := M.bind_some e3
  cases c with
  | clo j caps =>
    simp only at e5
    split at e5
    case isFalse => cases e5
    rename_i hno
    refine wpAny_bind (thn (hf.run pins s σ H (fun v H1 => ∃ F1, Grow g F H F1 H1 ∧ Same F1 (vis g H1) ∧ PoolAt g n1 H1 ∧ Rep g F1 v (.clo j caps)) I ⟨F0, H0, F, ρ, n, _, n1, e2, m, fun v F' H' g1 s1 P1 r1 => ⟨F', g1, s1, P1, r1⟩⟩) fun u s1 ⟨v, H1, I1, rv, F1, g1, sm1, P1, r1⟩ => ?_)
    obtain ⟨f, c', LT, cl, pm, ctv, cs, vs, rfl, _, hF, _⟩ := rep_clo r1
    obtain rfl : u = Value.ref f := rv
    have at1 : ∀ {F2 H2 : Hp} {s2 : Shared} {σ2 : L2.St} {pins2}, Inv X pins2 σ2 H2 s2 → Same F1 F2 → Same F2 (vis g H2) → PySem.W.FnAt f s2.heap := fun {F2 H2 s2 σ2 pins2} J a b => by
      obtain ⟨q, _⟩ := J.hok f _ (vis_some (b _ _ (a _ _ hF))).2
      exact ⟨_, _, _, _, q⟩
    refine PySem.W.callWith_F (at1 I1 (Same.refl _) sm1) (thn (ha.run pos pins s1 σ H1 (fun ws H2 => ∃ F2, Grow g F1 H1 F2 H2 ∧ Same F2 (vis g H2) ∧ PoolAt g n2 H2 ∧ RepAll g F2 ws xs) I1 ⟨F0, H0, F1, ρ, n1, xs, n2, e4, m.grow g1 sm1 P1, fun ws F2 H2 g2 s2 P2 r2 => ⟨F2, g2, s2, P2, r2⟩⟩) fun us s2 ⟨ws, H2, I2, rw, F2, g2, sm2, P2, r2⟩ => ⟨at1 I2 g2.f sm2, ?_⟩) he hpl
    have run := L j X.A X.stack s2 H2 F2 f caps xs us ws n2 d n' Q (fun _ _ _ => False) hr I2.env0 sm2 P2 (r1.mono g2.f) r2 hno rw e5 fun v F' H' g3 s3 P3 r3 => kk v F' H' ((g1.trans g2).trans g3) s3 P3 r3
    refine wpAny_call (codeAny_mono run fun r s' hq => ?_)
    cases r with
    | error e => exact (show False from hq).elim
    | ok fl =>
      cases fl with
      | ret u => exact I2.after hq
      | next => exact False.elim hq
      | brk => exact False.elim hq
      | cont => exact False.elim hq
  | _ => cases e5
end Ev

set_option Elab.async false
set_option linter.all false
set_option autoImplicit false
set_option maxRecDepth 100000
set_option maxHeartbeats 2000000
/-! EvL4: the making of a lambda. -/
namespace Ev
open PySem PySem.Spec PyProof.Rows L2

/-- what a def that makes lambdas has: its code object, its table -/
structure MkOk (g : Gh) (X : Cx) : Prop where
  ex : ∃ c T : Addr, LamX.TabB X.base X.mg c T ∧ X.env.code = .ref c ∧ (T, X.env.qual ++ "<lambda>") ∈ g.tabs ∧ ∀ p ∈ g.tabs, p.1 = T → p.2 = X.env.qual ++ "<lambda>"
section
variable {X : Cx} {pins : List (Addr × Obj)} {σ : L2.St} {H : Hp} {s : Shared}
theorem lam_new {T : List (Addr × Str)} {c tb : Addr} {L : LamT} {lp : Pos} {Z : Value → Shared → Prop} {R : Value → Shared → Prop} (J : Inv X pins σ H s) (B : LamX.TabB X.base X.mg c tb) (ec : X.env.code = .ref c) (hq : L.qual = X.env.qual ++ "<lambda>")
    (inT : (tb, L.qual) ∈ T) (one : ∀ p ∈ T, p.1 = tb → p.2 = L.qual) (tt : LamX.Tabs T H) (nod : defaultsOf L.params X.env = ([], [])) (fr : ∀ y ∈ L.scope.names, y.2 = .free → ∃ c, X.env.cells.lookup y.1 = some c)
    (go : ∀ (f k : Addr) (pm ctv : Value) (H1 : Hp) (s1 : Shared), Inv X pins σ H1 s1 → LamX.Tabs T H1 → H f = none → H1 f = some (LamO f L (cloFrom X.env.cells L.scope.names []) pm ctv k) → H1 k = some (LamX.CodeO k L.qual) → k ≠ f →
      (H k = none ∨ H k = some (LamX.CodeO k L.qual)) → (∀ b, b ≠ tb → b ≠ f → b ≠ k → H1 b = H b) → (H1 tb).isSome = true → R (.ref f) s1) :
    wpAny (model X.prog X.w) X.A (eval (.Lambda L.params L.body L.scope lp) X.env) R Z s := by
  obtain ⟨q, prm, bdy, sc, cps⟩ := L
  simp only at hq inT one nod fr go ⊢
  subst hq
  refine PySem.W.kla_eval nod ?_
  obtain ⟨ps, t1, t2, t3⟩ := tt _ inT
  have bT := B.bm.keeps J.bk
  have oT : s.heap.get? tb = some { cls := .none, data := .fields ps } := J.hok tb _ t1
  cases am : codeAmong lp ps.toList with
  | some cv =>
    obtain ⟨k, rfl, hk⟩ := t3 lp cv am
    refine PySem.W.kla_makeFunctionHit (P := tb) (ps := ps) (c := c) (mg := X.mg) (closure_ok fr) J.ok.glob (J.mod.glob.keeps J.bk) ec (B.code.keeps J.bk) oT t2 am bT fun ctv h1 tk old sz => ?_
    have J1 : Inv X pins σ H { s with heap := h1, toks := tk } := J.kept old
    have nf : H h1.objs.size = none := J.hok.fresh sz
    have new : (h1.push (PySem.W.kla_obj "<lambda>" (X.env.qual ++ "<lambda>") prm bdy sc (cloFrom X.env.cells sc.names []) ((X.mg "__name__").getD .none) k ctv)).get? h1.objs.size = some _ := Heap.get?_push_size _ rfl
    have J2 := J1.laid (a := h1.objs.size) (o := LamO h1.objs.size ⟨X.env.qual ++ "<lambda>", prm, bdy, sc, cps⟩ (cloFrom X.env.cells sc.names []) ((X.mg "__name__").getD .none) ctv k) (t' := tk) (fun b o e => Heap.get?_push_of_some _ e) (Nat.le_refl _) ⟨new, ⟨_, new⟩, fun h1 h2 a st => st _ a⟩
    have kf : k ≠ h1.objs.size := ne_of_none hk nf
    have tf : tb ≠ h1.objs.size := ne_of_none t1 nf
    refine go h1.objs.size k ((X.mg "__name__").getD .none) ctv _ _ J2 (tt.ext fun b o e => ?_) nf upd_same ?_ kf (.inr hk) (fun b _ h2 _ => upd_ne h2) ?_
    · rw [upd_ne (ne_of_none e nf)]; exact e
    · rw [upd_ne kf]; exact hk
    · rw [upd_ne tf, t1]; rfl
  | none =>
    refine PySem.W.kla_makeFunction (P := tb) (ps := ps) (c := c) (mg := X.mg) (closure_ok fr) J.ok.glob (J.mod.glob.keeps J.bk) ec (B.code.keeps J.bk) oT t2 am B.gP bT fun k ctv h1 tk old low up rec otb => ?_
    obtain ⟨k2, ok, flds, tq, ek, gk, dk, vk⟩ := rec
    cases ek
    have nk : H k = none := J.hok.fresh low
    have sz : s.heap.objs.size ≤ h1.objs.size := Nat.le_trans low (Nat.le_of_lt up)
    have nf : H h1.objs.size = none := J.hok.fresh sz
    have J1 := LamX.inv_table (more := #[rawInt lp.line, rawInt lp.col, .ref k]) (q := X.env.qual ++ "<lambda>") (c := k) (t' := tk) (h' := h1) J t1 (fun b o ne e => old b o ne e) otb low ⟨ok, flds, tq, gk, dk, vk⟩
    have new : (h1.push (PySem.W.kla_obj "<lambda>" (X.env.qual ++ "<lambda>") prm bdy sc (cloFrom X.env.cells sc.names []) ((X.mg "__name__").getD .none) k ctv)).get? h1.objs.size = some _ := Heap.get?_push_size _ rfl
    have J2 := J1.laid (a := h1.objs.size) (o := LamO h1.objs.size ⟨X.env.qual ++ "<lambda>", prm, bdy, sc, cps⟩ (cloFrom X.env.cells sc.names []) ((X.mg "__name__").getD .none) ctv k) (t' := tk) (fun b o e => Heap.get?_push_of_some _ e) (Nat.le_refl _) ⟨new, ⟨_, new⟩, fun h1 h2 a st => st _ a⟩
    have kf : k ≠ h1.objs.size := Nat.ne_of_lt up
    have tf : tb ≠ h1.objs.size := ne_of_none t1 nf
    have tk' : tb ≠ k := ne_of_none t1 nk
    refine go h1.objs.size k ((X.mg "__name__").getD .none) ctv _ _ J2 (fun p hp => ?_) nf upd_same ?_ kf (.inl nk) (fun b h1 h2 h3 => ?_) ?_
    · have far : ∀ b o, H b = some o → b ≠ tb → upd (upd (upd H tb (.tbl (ps ++ #[rawInt lp.line, rawInt lp.col, .ref k]))) k (LamX.CodeO k (X.env.qual ++ "<lambda>"))) h1.objs.size (LamO h1.objs.size ⟨X.env.qual ++ "<lambda>", prm, bdy, sc, cps⟩ (cloFrom X.env.cells sc.names []) ((X.mg "__name__").getD .none) ctv k) b = some o := fun b o e ne => by
        rw [upd_ne (ne_of_none e nf), upd_ne (ne_of_none e nk), upd_ne ne]; exact e
      have farC : ∀ b q, H b = some (LamX.CodeO b q) → b ≠ tb := fun b q e z => by
        rw [z, t1] at e
        exact LamX.codeO_ne ps (Option.some.inj e).symm
      by_cases hb : p.1 = tb
      · rw [one p hp hb, hb]
        refine ⟨ps ++ #[rawInt lp.line, rawInt lp.col, .ref k], by rw [upd_ne tf, upd_ne tk', upd_same], ?_, fun at' cv hcv => ?_⟩
        · rw [Array.toList_append]
          exact PySem.TriplesOk_snoc _ _ _ _ t2
        · rw [Array.toList_append] at hcv
          rcases LamX.among_app _ t2 hcv with z | z
          · obtain ⟨c0, e1, e2⟩ := t3 at' cv z
            exact ⟨c0, e1, far _ _ e2 (farC _ _ e2)⟩
          · exact ⟨k, z, by rw [upd_ne kf, upd_same]⟩
      · obtain ⟨ps2, a1, a2, a3⟩ := tt p hp
        refine ⟨ps2, far _ _ a1 hb, a2, fun at' cv hcv => ?_⟩
        obtain ⟨c0, e1, e2⟩ := a3 at' cv hcv
        exact ⟨c0, e1, far _ _ e2 (farC _ _ e2)⟩
    · rw [upd_ne kf, upd_same]
    · rw [upd_ne h2, upd_ne h3, upd_ne h1]
    · rw [upd_ne tf, upd_ne tk', upd_same]; rfl
end
/-- a lambda of the frame -/
def RdL (g : Gh) (L : LamT) (cl : List (Str × Addr)) : TE := fun σ H Q => ∃ F0 H0 F ρ n, Mdl g F0 H0 F ρ n σ H ∧
  ∀ f F' H', Grow g F H F' H' → Same F' (vis g H') → PoolAt g n H' → (∃ (c' : Addr) (pm ctv : Value), F' f = some (LamO f L cl pm ctv c') ∧ F' c' = some (LamX.CodeO c' L.qual)) → Q (.ref f) H'
theorem lamO_ne {f c' c : Addr} {L : LamT} {cl : List (Str × Addr)} {pm ctv : Value} {q : Str} : LamO f L cl pm ctv c' ≠ LamX.CodeO c q ∨ True := .inr trivial
theorem de_lam {X : Cx} {g : Gh} {L : LamT} {lp : Pos} (M : MkOk g X) (hq : L.qual = X.env.qual ++ "<lambda>") (nod : defaultsOf L.params X.env = ([], [])) (fr : ∀ y ∈ L.scope.names, y.2 = .free → X.env.kindOf y.1 = some .cell ∨ X.env.kindOf y.1 = some .free) :
    PE X (.Lambda L.params L.body L.scope lp) (RdL g L (cloFrom X.env.cells L.scope.names [])) := by
  refine ⟨fun pins s σ H Q I ⟨F0, H0, F, ρ, n, m, kk⟩ => ?_⟩
  obtain ⟨c, tb, B, ec, inT, one⟩ := M.ex
  refine lam_new (T := g.tabs) I B ec hq (by rw [hq]; exact inT) (by rw [hq]; exact one) m.pool.tabs nod (fun y hy e => I.ok.has _ (fr y hy e)) fun f k pm ctv H1 s1 J1 T1 nf hf hk kf hk0 far tbS => ?_
  have tbH : hid g tb := .inr (List.mem_map.mpr ⟨_, inT, rfl⟩)
  have nhf := (m.pool.fresh nf).nh
  have nhk : ¬ hid g k := by
    rcases hk0 with e | e
    · exact (m.pool.fresh e).nh
    · rintro (⟨hl, z⟩ | z)
      · rw [z, (m.pool.pool hl).c] at e
        cases e
      · obtain ⟨x, hx, rfl⟩ := List.mem_map.mp z
        obtain ⟨ps, q, _⟩ := m.pool.tabs x hx
        rw [q] at e
        exact LamX.codeO_ne ps (Option.some.inj e).symm
  have Fk : F k = none ∨ F k = some (LamX.CodeO k L.qual) := by
    cases q : F k with
    | none => exact .inl rfl
    | some u =>
      have := (vis_some (m.sub k u q)).2
      rcases hk0 with e | e
      · rw [e] at this; cases this
      · rw [e] at this; cases this; exact .inr rfl
  have Ff : F f = none := sub_none m.sub nf
  have s1' : Same F (upd F k (LamX.CodeO k L.qual)) := fun a o e => by
    by_cases z : a = k
    · subst z
      rw [upd_same]
      rcases Fk with q | q
      · rw [q] at e; cases e
      · rw [q] at e; exact e
    · rw [upd_ne z]; exact e
  have old : ∀ b, b ≠ tb → ¬ (H b = none) → H1 b = H b := fun b h1 h2 => by
    by_cases z : b = k
    · subst z
      rcases hk0 with e | e
      · exact absurd e h2
      · rw [hk, e]
    · exact far b h1 (fun z => h2 (by rw [z]; exact nf)) z
  have P1 : PoolAt g n H1 := ⟨fun hl => by
    have Q := m.pool.pool hl
    have nt : ∀ b vs, H b = some (.lst vs) → b ≠ tb := fun b vs e z => by
      obtain ⟨ps, q, _⟩ := m.pool.tabs _ inT
      have q : H tb = _ := q
      rw [z, q] at e
      cases e
    exact ⟨by rw [old _ (nt _ _ Q.p) (by rw [Q.p]; simp)]; exact Q.p, by rw [old _ (nt _ _ Q.r) (by rw [Q.r]; simp)]; exact Q.r, by rw [old _ (nt _ _ Q.c) (by rw [Q.c]; simp)]; exact Q.c, Q.np, Q.nr⟩, T1⟩
  have gr : Grow g F H (upd (upd F k (LamX.CodeO k L.qual)) f (LamO f L (cloFrom X.env.cells L.scope.names []) pm ctv k)) H1 := by
    refine ⟨s1'.trans (same_upd (by rw [upd_ne kf.symm]; exact Ff)), fun b o e => ?_, fun b hb hs => ?_, fun b hb hs hc => ?_⟩
    · obtain ⟨h1, h2⟩ := vis_some e
      rw [vis_ne h1, old b (fun z => h1 (by rw [z]; exact tbH)) (by rw [h2]; simp)]
      exact h2
    · by_cases z : b = tb
      · rw [z]; exact tbS
      · rw [old b z (fun e => by rw [e] at hs; cases hs)]; exact hs
    · have h1 : b ≠ f := fun z => by rw [z, nf] at hs; cases hs
      have h2 : b ≠ k := fun z => by
        rcases hk0 with e | e
        · rw [z, e] at hs; cases hs
        · exact hc k L.qual (by rw [z]; exact e)
      rw [upd_ne h1, upd_ne h2]
  refine ⟨.ref f, H1, J1, rfl, kk f _ H1 gr (fun b o e => ?_) P1 ⟨k, pm, ctv, upd_same, by rw [upd_ne kf, upd_same]⟩⟩
  by_cases zf : b = f
  · subst zf
    rw [upd_same] at e
    rw [vis_ne nhf, hf]
    exact e
  · rw [upd_ne zf] at e
    by_cases zk : b = k
    · subst zk
      rw [upd_same] at e
      rw [vis_ne nhk, hk]
      exact e
    · rw [upd_ne zk] at e
      obtain ⟨h1, h2⟩ := vis_some (m.sub b o e)
      rw [vis_ne h1, old b (fun z => h1 (by rw [z]; exact tbH)) (by rw [h2]; simp)]
      exact h2
end Ev

set_option Elab.async false
set_option linter.all false
set_option autoImplicit false
set_option maxRecDepth 100000
set_option maxHeartbeats 2000000
/-! EvL5: whatever is called, by data; calls with lambdas among the arguments. -/
namespace Ev
open PySem PySem.Spec PyProof.Rows L2

/-- u, called with data, does what C says -/
def CallOk (P : Program) (w : World) (K : PySem.W.Frag) (mg : Str → Option Value) (base : Heap) (g : Gh) (k : Nat) (u : Value) (C : List D → M D) : Prop :=
  ∀ (A : Around) (outer : List Env) (s : Shared) (H F : Hp) (us : List Value) (vs : List V) (ds : List D) (n : Nat) (d : D) (n' : Nat) (Q : VK) (E : XK), Room k A → Env0 P w K mg base A outer s H → Same F (vis g H) → PoolAt g n H → RepAll g F vs ds → Vals vs us → C ds n = some (d, n') →
    (∀ v F' H', Grow g F H F' H' → Same F' (vis g H') → PoolAt g n' H' → Rep g F' v d → Q v H') → codeAny (model P w) A (.call u ⟨us, []⟩) (CR CX0 outer P w H s Q E) s
section
variable {P : Program} {w : World} {K : PySem.W.Frag} {mg : Str → Option Value} {base : Heap} {g : Gh} {k : Nat} {C : List D → M D}
theorem Env0.kin {A : Around} {outer : List Env} {s : Shared} {H : Hp} (e0 : Env0 P w K mg base A outer s H) : K.In s.heap := e0.mod.kin.keeps fun b o e => (e0.bs b o e).1
theorem callOk_fn {a : Addr} {fd : FuncData} {ps : List Str} (F : FnOk P w K mg base CX0 k a fd ps (spF g C)) (hb : Binds K fd ps []) : CallOk P w K mg base g k (.ref a) C := by
  intro A outer s H F' us vs ds n d n' Q E hr e0 sm P1 r rv e kk
  have sp : spF g C vs H Q E := ⟨F', n, ds, d, n', sm, P1, r, e, kk⟩
  have hl := F.len _ _ _ _ sp
  have b := hb s us (Env0.kin e0) (by rw [List.append_nil, ← rv.length]; exact hl)
  rw [List.append_nil] at b
  exact F.run A outer s H ⟨us, []⟩ us vs Q E hr e0 b rv sp
/-- the callee's end, in the caller -/
theorem run_call {X : Cx} {pins : List (Addr × Obj)} {σ : L2.St} {H F : Hp} {s : Shared} {u : Value} {us : List Value} {vs : List V} {ds : List D} {n n' : Nat} {d : D} {Q : VK} (L : CallOk X.prog X.w X.K X.mg X.base g k u C) (hr : Room k X.A) (I : Inv X pins σ H s) (sm : Same F (vis g H)) (P1 : PoolAt g n H) (r : RepAll g F vs ds) (rv : Vals vs us)
    (e : C ds n = some (d, n')) (kk : ∀ v F' H', Grow g F H F' H' → Same F' (vis g H') → PoolAt g n' H' → Rep g F' v d → Q v H') : wpAny (model X.prog X.w) X.A (call u us) (EP X pins σ Q) X.xe s := by
  refine wpAny_call (codeAny_mono (L X.A X.stack s H F us vs ds n d n' Q (fun _ _ _ => False) hr I.env0 sm P1 r rv e kk) fun r s' hq => ?_)
  cases r with
  | error e => exact (show False from hq).elim
  | ok fl =>
    cases fl with
    | ret u => exact I.after hq
    | next => exact False.elim hq
    | brk => exact False.elim hq
    | cont => exact False.elim hq
variable {X : Cx} {fr : Rho → M (List D)} {x : Str} {p pos : Pos} {a : Addr} {e : Expr} {es : List Expr}
theorem de_callK (L : CallOk X.prog X.w X.K X.mg X.base g k (.ref a) C) (hr : Room k X.A) (hg : Gl X x) (hm : X.mg x = some (.ref a)) (hk : PySem.W.keepIn X.K (.ref a) = true)
    (ha : PA X (e :: es) (RdA g fr)) (hdb : (x == ("__debug__" : Str)) = false) (he : starEach (e :: es) X.env = (false, eval e X.env) :: starEach es X.env) (hpl : (backTo pos (starEach es X.env)).any (·.1) = false) :
    PE X (.Call (.Name x p) (e :: es) [] pos) (RdV g (evC C fr)) := by
  refine ⟨fun pins s σ H Q I ⟨F0, H0, F, ρ, n, d, n', e1, m, kk⟩ => ?_⟩
  obtain ⟨xs, n1, e2, e3⟩ := M.bind_some e1
  refine wpAny_Call_Name_kw (ld_glob I hg hm ?_ hdb)
  refine PySem.W.callWith_K (h₀ := X.base) I.ok.mod.kin hk (thn (ha.run pos pins s σ H (fun vs H1 => ∃ F1, Grow g F H F1 H1 ∧ Same F1 (vis g H1) ∧ PoolAt g n1 H1 ∧ RepAll g F1 vs xs) I ⟨F0, H0, F, ρ, n, xs, n1, e2, m, fun vs F1 H1 g1 s1 P1 r1 => ⟨F1, g1, s1, P1, r1⟩⟩) fun us s1 ⟨vs, H1, I1, rv, F1, g1, sm1, P1, r1⟩ => ⟨I1.kIn, ?_⟩) he hpl
  exact run_call L hr I1 sm1 P1 r1 rv e3 fun v F' H' g2 s2 P2 r2 => kk v F' H' (g1.trans g2) s2 P2 r2
theorem de_callK0 (L : CallOk X.prog X.w X.K X.mg X.base g k (.ref a) C) (hr : Room k X.A) (hg : Gl X x) (hm : X.mg x = some (.ref a)) (hk : PySem.W.keepIn X.K (.ref a) = true) (hdb : (x == ("__debug__" : Str)) = false) :
    PE X (.Call (.Name x p) [] [] pos) (RdV g (evC C evNil)) := by
  refine ⟨fun pins s σ H Q I ⟨F0, H0, F, ρ, n, d, n', e1, m, kk⟩ => ?_⟩
  obtain ⟨xs, n1, e2, e3⟩ := M.bind_some e1
  cases e2
  refine wpAny_Call_Name_kw (ld_glob I hg hm ?_ hdb)
  exact PySem.W.callWith_K0 I.kIn hk (run_call (us := []) (vs := []) L hr I m.sub m.pool .nil .nil e3 kk)
end

/-! ### lambdas among the arguments -/
/-- a lambda's captured names are cells here -/
structure LCap (X : Cx) (L : LamT) : Prop where
  cap : ∀ x ∈ L.caps, (x, NameKind.free) ∈ L.scope.names
  fr : ∀ y ∈ L.scope.names, y.2 = .free → y.1 ∈ L.caps
  kd : ∀ x ∈ L.caps, X.env.kindOf x = some .cell ∨ X.env.kindOf x = some .free
/-- the frame's cells -/
def cellsOf (X : Cx) : List Addr := (X.env.cells.map (·.1)).filterMap fun x => X.env.cells.lookup x
theorem cells_mem {X : Cx} {c : Addr} : c ∈ cellsOf X ↔ ∃ x, X.env.cells.lookup x = some c := by
  unfold cellsOf
  rw [List.mem_filterMap]
  refine ⟨fun ⟨x, _, h⟩ => ⟨x, h⟩, fun ⟨x, h⟩ => ⟨x, List.mem_map.mpr ⟨_, PySem.mem_of_lookup h, rfl⟩, h⟩⟩
/-- a value, or a lambda of the frame -/
inductive RepX (g : Gh) (X : Cx) (σ : L2.St) (F : Hp) : V → D → Prop
  | val {v : V} {d : D} : Rep g F v d → RepX g X σ F v d
  | lam {f c' : Addr} {n : Nat} {L : LamT} {pm ctv : Value} {ds : List D} : g.lam n L → F f = some (LamO f L (cloFrom X.env.cells L.scope.names []) pm ctv c') → F c' = some (LamX.CodeO c' L.qual) → LCap X L →
      L.caps.length = ds.length → (∀ (j : Nat) (x : Str) (d : D), L.caps[j]? = some x → ds[j]? = some d → ∃ (i : Nat) (v : V), X.N[i]? = some x ∧ σ[i]? = some (some v) ∧ Rep g F v d) → RepX g X σ F (.ref f) (.clo n ds)
inductive RepXs (g : Gh) (X : Cx) (σ : L2.St) (F : Hp) : List V → List D → Prop
  | nil : RepXs g X σ F [] []
  | cons {v : V} {vs : List V} {d : D} {ds : List D} : RepX g X σ F v d → RepXs g X σ F vs ds → RepXs g X σ F (v :: vs) (d :: ds)
theorem RepX.mono {g : Gh} {X : Cx} {σ : L2.St} {F F' : Hp} {v : V} {d : D} (e : Same F F') (r : RepX g X σ F v d) : RepX g X σ F' v d := by
  cases r with
  | val r => exact .val (r.mono e)
  | lam h1 h2 h3 hc h4 h5 =>
    refine .lam h1 (e _ _ h2) (e _ _ h3) hc h4 fun j x d a b => ?_
    obtain ⟨i, v, c1, c2, c3⟩ := h5 j x d a b
    exact ⟨i, v, c1, c2, c3.mono e⟩
theorem RepXs.mono {g : Gh} {X : Cx} {σ : L2.St} {F F' : Hp} (e : Same F F') : ∀ {vs : List V} {ds : List D}, RepXs g X σ F vs ds → RepXs g X σ F' vs ds
  | _, _, .nil => .nil
  | _, _, .cons r t => .cons (r.mono e) (RepXs.mono e t)
def RdX (g : Gh) (X : Cx) (f : Rho → M D) : TE := fun σ H Q => ∃ F0 H0 F ρ n d n', f ρ n = some (d, n') ∧ Mdl g F0 H0 F ρ n σ H ∧
  ∀ v F' H', Grow g F H F' H' → Same F' (vis g H') → PoolAt g n' H' → RepX g X σ F' v d → Q v H'
def RdXs (g : Gh) (X : Cx) (f : Rho → M (List D)) : TA := fun σ H Q => ∃ F0 H0 F ρ n ds n', f ρ n = some (ds, n') ∧ Mdl g F0 H0 F ρ n σ H ∧
  ∀ vs F' H', Grow g F H F' H' → Same F' (vis g H') → PoolAt g n' H' → RepXs g X σ F' vs ds → Q vs H'
section
variable {g : Gh} {X : Cx} {fe : Rho → M D} {fr : Rho → M (List D)} {e : Expr} {es : List Expr}
theorem valX (h : PE X e (RdV g fe)) : PE X e (RdX g X fe) := pe_wk h fun σ H Q ⟨F0, H0, F, ρ, n, d, n', e1, m, k⟩ =>
  ⟨F0, H0, F, ρ, n, d, n', e1, m, fun v F' H' gr s P r => k v F' H' gr s P (.val r)⟩
theorem dxs_nil : PA X [] (RdXs g X evNil) := pa_wk pa_nil fun σ H Q ⟨F0, H0, F, ρ, n, ds, n', e, m, k⟩ => by
  cases e
  exact k [] F H Grow.refl m.sub m.pool .nil
theorem dxs_cons (ha : PE X e (RdX g X fe)) (hr : PA X es (RdXs g X fr)) (hs : starEach (e :: es) X.env = (false, eval e X.env) :: starEach es X.env) : PA X (e :: es) (RdXs g X (evCons fe fr)) := by
  refine pa_wk (pa_cons ha hr hs) fun σ H Q ⟨F0, H0, F, ρ, n, ds, n', e1, m, k⟩ => ?_
  obtain ⟨d, n1, e2, e3⟩ := M.bind_some e1
  obtain ⟨ds', n2, e4, e5⟩ := M.bind_some e3
  cases e5
  exact ⟨F0, H0, F, ρ, n, d, n1, e2, m, fun v F1 H1 g1 s1 P1 r1 => ⟨F0, H0, F1, ρ, n1, ds', n', e4, m.grow g1 s1 P1, fun vs F2 H2 g2 s2 P2 r2 => k (v :: vs) F2 H2 (g1.trans g2) s2 P2 (.cons (r1.mono g2.f) r2)⟩⟩
end
end Ev

set_option Elab.async false
set_option linter.all false
set_option autoImplicit false
set_option maxRecDepth 100000
set_option maxHeartbeats 2000000
/-! EvL6: the frame's cells stand still for a call that gets lambdas. -/
namespace Ev
open PySem PySem.Spec PyProof.Rows L2

theorem clo_look {X : Cx} {L : LamT} (ok : X.Ok) (c : LCap X L) {x : Str} {a : Addr} : (cloFrom X.env.cells L.scope.names []).lookup x = some a ↔ x ∈ L.caps ∧ X.env.cells.lookup x = some a := by
  have fwd : ∀ {a}, (cloFrom X.env.cells L.scope.names []).lookup x = some a → x ∈ L.caps ∧ X.env.cells.lookup x = some a := fun {a} h => by
    rcases cloFrom_mem (PySem.mem_of_lookup h) with z | ⟨z1, z2⟩
    · cases z
    · have hx := c.fr _ z1 rfl
      obtain ⟨c1, hc⟩ := ok.has x (c.kd x hx)
      refine ⟨hx, ?_⟩
      rw [hc] at z2 ⊢
      exact congrArg some z2.symm
  refine ⟨fwd, fun ⟨h1, h2⟩ => ?_⟩
  obtain ⟨a', e⟩ := mem_lookup (cloFrom_has (cells := X.env.cells) (acc := []) (c.cap x h1))
  have := (fwd e).2
  rw [h2] at this
  cases this
  exact e
def pinO (s : Shared) (c : Addr) : Obj := (s.heap.get? c).getD default
def addL (H : Hp) (s : Shared) (cs : List Addr) : Hp := fun a => if a ∈ cs then some (CellP (pinO s a)) else H a
theorem add_in {H : Hp} {s : Shared} {cs : List Addr} {a : Addr} (h : a ∈ cs) : addL H s cs a = some (CellP (pinO s a)) := by unfold addL; rw [if_pos h]
theorem add_out {H : Hp} {s : Shared} {cs : List Addr} {a : Addr} (h : a ∉ cs) : addL H s cs a = H a := by unfold addL; rw [if_neg h]
section
variable {X : Cx} {pins : List (Addr × Obj)} {σ : L2.St} {H F : Hp} {s : Shared}
theorem cell_fresh (I : Inv X pins σ H s) {c : Addr} (h : c ∈ cellsOf X) : H c = none := by
  obtain ⟨x, e⟩ := cells_mem.mp h
  exact I.freeC x c e
theorem cell_obj (I : Inv X pins σ H s) {c : Addr} (h : c ∈ cellsOf X) : s.heap.get? c = some (pinO s c) := by
  obtain ⟨x, e⟩ := cells_mem.mp h
  obtain ⟨v, o, ho, _⟩ := I.cell x c e
  unfold pinO
  rw [ho]; rfl
theorem hok_add (I : Inv X pins σ H s) : HOk X.prog X.w (addL H s (cellsOf X)) s.heap := fun a u e => by
  have mono : ∀ b v, H b = some v → addL H s (cellsOf X) b = some v := fun b v q => by
    rw [add_out]
    · exact q
    · intro z
      rw [cell_fresh I z] at q
      cases q
  by_cases z : a ∈ cellsOf X
  · rw [add_in z] at e
    cases e
    have := cell_obj I z
    exact ⟨this, trivial, ⟨_, this⟩, fun _ _ _ _ => trivial⟩
  · rw [add_out z] at e
    exact (I.hok a u e).stay (fun _ _ _ q => q) (fun b q => mono b _ q) fun b xs q => mono b _ q
theorem cell_high (I : Inv X pins σ H s) (hfn : ∀ x, X.fn x = true) {c : Addr} (h : c ∈ cellsOf X) : X.s_0.heap.objs.size ≤ c := by
  obtain ⟨x, e⟩ := cells_mem.mp h
  exact I.ok.cab x c (hfn x) e
theorem cell_nofr (I : Inv X pins σ H s) (hfn : ∀ x, X.fn x = true) {c : Addr} (h : c ∈ cellsOf X) : c ∉ frs X.stack := fun z => by
  obtain ⟨x, e⟩ := cells_mem.mp h
  rcases List.mem_cons.mp (I.stkSub c z) with q | q
  · exact I.cne x c e q
  · obtain ⟨_, o, ho, _⟩ := I.ok.funs.mem q
    exact absurd (Nat.lt_of_lt_of_le (Heap.lt_size ho) (cell_high I hfn h)) (Nat.lt_irrefl _)
theorem env0_add (I : Inv X pins σ H s) (hfn : ∀ x, X.fn x = true) : Env0 X.prog X.w X.K X.mg X.base X.A X.stack s (addL H s (cellsOf X)) := by
  have e0 := I.env0
  refine ⟨e0.frames, e0.mod, fun b o e => ⟨(e0.bs b o e).1, ?_⟩, e0.bsz, e0.funs, fun b hb => ?_, hok_add I, e0.bare⟩
  · rw [add_out]
    · exact (e0.bs b o e).2
    · intro z
      exact absurd (Nat.lt_of_lt_of_le (Heap.lt_size e) (Nat.le_trans I.ok.bsz (cell_high I hfn z))) (Nat.lt_irrefl _)
  · rw [add_out]
    · exact e0.frf b hb
    · exact fun z => cell_nofr I hfn z hb
/-- the cells are the frame's own again -/
theorem un_add {s' : Shared} {fs : List Addr} {cs : List Addr} {H' : Hp} {P : Program} {w : World} (cH : ∀ c ∈ cs, H c = none) (cO : ∀ c ∈ cs, s.heap.get? c = some (pinO s c)) (cf : ∀ c ∈ cs, c ∉ fs) (un : Un fs [] (addL H s cs) H' s.heap s'.heap) (ok' : HOk P w H' s'.heap) :
    Un fs [] H (eraseL H' cs) s.heap s'.heap ∧ HOk P w (eraseL H' cs) s'.heap ∧ AllCell H' cs := by
  have pin : ∀ c ∈ cs, H' c = some (CellP (pinO s c)) := fun c h => un.frzs c _ _ (add_in h)
  have out : ∀ b u, H b = some u → b ∉ cs := fun b u e z => by rw [cH b z] at e; cases e
  refine ⟨⟨fun b o q n hb hx => ?_, fun b o q n hb hx => ?_, fun b o q n hx => ?_, un.there, fun b xs e => ?_, fun b o u e => ?_, fun b ps e => ?_⟩, hok_erase (fun c h => ⟨_, pin c h⟩) ok', fun c h => ⟨_, pin c h⟩⟩
  · by_cases z : b ∈ cs
    · rw [cO b z] at q
      cases q
      exact (ok' b _ (pin b z)).1
    · exact un.keep b o q (by rw [add_out z]; exact n) hb hx
  · have z : b ∉ cs := fun z => cf b z hb
    exact un.slot b o q (by rw [add_out z]; exact n) hb hx
  · by_cases z : b ∈ cs
    · exact er_in z
    · rw [er_out z]
      exact un.free b o q (by rw [add_out z]; exact n) hx
  · have z := out b _ e
    rw [er_out z]
    exact un.tups b xs (by rw [add_out z]; exact e)
  · have z := out b _ e
    rw [er_out z]
    exact un.frzs b o u (by rw [add_out z]; exact e)
  · have z := out b _ e
    obtain ⟨more, q⟩ := un.tbls b ps (by rw [add_out z]; exact e)
    exact ⟨more, by rw [er_out z]; exact q⟩
theorem grow_add {g : Gh} {cs : List Addr} {F' H' : Hp} (cF : ∀ c ∈ cs, F c = none) (cH : ∀ c ∈ cs, H c = none) (gr : Grow g (addL F s cs) (addL H s cs) F' H') (sm : Same F' (vis g H')) : Grow g F H (eraseL F' cs) (eraseL H' cs) ∧ Same (eraseL F' cs) (vis g (eraseL H' cs)) := by
  have outF : ∀ b u, F b = some u → b ∉ cs := fun b u e z => by rw [cF b z] at e; cases e
  have outH : ∀ b u, H b = some u → b ∉ cs := fun b u e z => by rw [cH b z] at e; cases e
  refine ⟨⟨fun a o e => ?_, fun a o e => ?_, fun a h1 h2 => ?_, fun a h1 h2 h3 => ?_⟩, sub_erase sm⟩
  · have z := outF a o e
    rw [er_out z]
    exact gr.f a o (by rw [add_out z]; exact e)
  · obtain ⟨h1, h2⟩ := vis_some e
    have z := outH a o h2
    have := gr.h a o (by rw [vis_ne h1, add_out z]; exact h2)
    rw [vis_ne h1] at this
    rw [vis_ne h1, er_out z]
    exact this
  · obtain ⟨o, e⟩ := Option.isSome_iff_exists.mp h2
    have z := outH a o e
    rw [er_out z]
    exact gr.c a h1 (by rw [add_out z]; exact h2)
  · obtain ⟨o, e⟩ := Option.isSome_iff_exists.mp h2
    have z := outH a o e
    rw [er_out z]
    have := gr.nw a h1 (by rw [add_out z]; exact h2) (by rw [add_out z]; exact h3)
    rwa [add_out z] at this
theorem caps_mk {g : Gh} {cl : List (Str × Addr)} {cs : List Addr} {G : Hp} : ∀ (xs : List Str) (ds : List D), xs.length = ds.length →
    (∀ (j : Nat) (x : Str) (d : D), xs[j]? = some x → ds[j]? = some d → ∃ c o u v, cl.lookup x = some c ∧ c ∈ cs ∧ G c = some (CellP o) ∧ o.data = .cell (some u) ∧ RelV v u ∧ Rep g F v d) → ∃ cs' vs', CellsF G cl xs cs' vs' ∧ RepAll g F vs' ds ∧ ∀ c ∈ cs', c ∈ cs
  | [], [], _, _ => ⟨[], [], .nil, .nil, fun _ z => nomatch z⟩
  | x :: xs, d :: ds, hl, h => by
    obtain ⟨c, o, u, v, h1, h2, h3, h4, h5, h6⟩ := h 0 x d rfl rfl
    obtain ⟨cs', vs', a1, a2, a3⟩ := caps_mk xs ds (by simpa using hl) fun j y e q1 q2 => h (j + 1) y e (by simpa using q1) (by simpa using q2)
    exact ⟨c :: cs', v :: vs', .cons h1 h3 h4 h5 a1, .cons h6 a2, fun b hb => by
      rcases List.mem_cons.mp hb with rfl | hb
      · exact h2
      · exact a3 b hb⟩
  | [], _ :: _, hl, _ => by simp at hl
  | _ :: _, [], hl, _ => by simp at hl
/-- a lambda of the frame is one for the callee, whose cells are the frame's -/
theorem rep_add {g : Gh} {v : V} {d : D} (I : Inv X pins σ H s) (sm : Same F (vis g H)) (r : RepX g X σ F v d) : Rep g (addL F s (cellsOf X)) v d := by
  have cF : ∀ c ∈ cellsOf X, F c = none := fun c h => sub_none sm (cell_fresh I h)
  have mono : Same F (addL F s (cellsOf X)) := fun b u q => by
    rw [add_out]
    · exact q
    · intro z
      rw [cF b z] at q
      cases q
  cases r with
  | val r => exact r.mono mono
  | @lam f c' n L pm ctv ds h1 h2 h3 C h4 h5 =>
    obtain ⟨cs', vs', a1, a2, a3⟩ := caps_mk (g := g) (cl := cloFrom X.env.cells L.scope.names []) (cs := cellsOf X) (F := F) (G := addL F s (cellsOf X)) L.caps ds h4 fun j x d q1 q2 => by
      obtain ⟨i, v, e1, e2, e3⟩ := h5 j x d q1 q2
      have hx := List.mem_of_getElem? q1
      obtain ⟨m, _, loc⟩ := I.loc
      obtain ⟨c, hc⟩ := I.ok.has x (C.kd x hx)
      have vis : Vis X.env.scope x := (C.kd x hx).elim (fun k => .inr (.inl k)) fun k => .inr (.inr k)
      obtain ⟨u, ru, q⟩ := loc i x v e1 e2 vis
      rcases q with ⟨k, _⟩ | ⟨_, c2, ec, z⟩
      · rcases C.kd x hx with k2 | k2 <;> rw [k] at k2 <;> cases k2
      · rw [hc] at ec
        cases ec
        have hm : c ∈ cellsOf X := cells_mem.mpr ⟨x, hc⟩
        obtain ⟨o, ho, hd⟩ := z
        have e := cell_obj I hm
        rw [ho] at e
        have e : o = pinO s c := Option.some.inj e
        exact ⟨c, pinO s c, u, v, (clo_look I.ok C).mpr ⟨hx, hc⟩, hm, add_in hm, by rw [← e]; exact hd, ru, e3⟩
    refine .clo h1 (mono _ _ h2) (mono _ _ h3) ⟨fun x c e => ((clo_look I.ok C).mp e).1, fun x y c e1 e2 => I.ok.inj x y c ((clo_look I.ok C).mp e1).2 ((clo_look I.ok C).mp e2).2⟩ a1 (a2.mono fun b u q => ?_)
    rw [er_out]
    · exact mono b u q
    · intro z
      rw [cF b (a3 b z)] at q
      cases q
theorem reps_add {g : Gh} (I : Inv X pins σ H s) (sm : Same F (vis g H)) : ∀ {vs : List V} {ds : List D}, RepXs g X σ F vs ds → RepAll g (addL F s (cellsOf X)) vs ds
  | _, _, .nil => .nil
  | _, _, .cons r t => .cons (rep_add I sm r) (reps_add I sm t)
theorem run_pinned {g : Gh} {k : Nat} {C : List D → M D} {u : Value} {us : List Value} {vs : List V} {ds : List D} {n n' : Nat} {d : D} {Q : VK} (L : CallOk X.prog X.w X.K X.mg X.base g k u C) (hr : Room k X.A) (hfn : ∀ x, X.fn x = true) (I : Inv X pins σ H s) (sm : Same F (vis g H)) (P1 : PoolAt g n H)
    (r : RepXs g X σ F vs ds) (rv : Vals vs us) (e : C ds n = some (d, n')) (nc : noClo d = true) (kk : ∀ v F' H', Grow g F H F' H' → Same F' (vis g H') → PoolAt g n' H' → Rep g F' v d → Q v H') : wpAny (model X.prog X.w) X.A (call u us) (EP X pins σ Q) X.xe s := by
  have cH : ∀ c ∈ cellsOf X, H c = none := fun c h => cell_fresh I h
  have cF : ∀ c ∈ cellsOf X, F c = none := fun c h => sub_none sm (cH c h)
  have sm2 : Same (addL F s (cellsOf X)) (vis g (addL H s (cellsOf X))) := fun b o q => by
    by_cases z : b ∈ cellsOf X
    · rw [add_in z] at q
      rw [vis_ne (P1.fresh (cH b z)).nh, add_in z]
      exact q
    · rw [add_out z] at q
      obtain ⟨h1, h2⟩ := vis_some (sm b o q)
      rw [vis_ne h1, add_out z]
      exact h2
  have P2 : PoolAt g n (addL H s (cellsOf X)) := by
    have mono : ∀ b u, H b = some u → addL H s (cellsOf X) b = some u := fun b u q => by
      rw [add_out]
      · exact q
      · intro z
        rw [cH b z] at q
        cases q
    exact ⟨fun hl => have Q := P1.pool hl; ⟨mono _ _ Q.p, mono _ _ Q.r, mono _ _ Q.c, Q.np, Q.nr⟩, P1.tabs.ext mono⟩
  refine wpAny_call (codeAny_mono (L X.A X.stack s (addL H s (cellsOf X)) (addL F s (cellsOf X)) us vs ds n d n' (fun v H' => ∃ F', Grow g (addL F s (cellsOf X)) (addL H s (cellsOf X)) F' H' ∧ Same F' (vis g H') ∧ PoolAt g n' H' ∧ Rep g F' v d) (fun _ _ _ => False) hr (env0_add I hfn) sm2 P2 (reps_add I sm r) rv e
    fun v F' H' g1 s1 P1 r1 => ⟨F', g1, s1, P1, r1⟩) fun r s' hq => ?_)
  cases r with
  | error e => exact (show False from hq).elim
  | ok fl =>
    cases fl with
    | next => exact False.elim hq
    | brk => exact False.elim hq
    | cont => exact False.elim hq
    | ret u =>
      obtain ⟨v, H', os, bare, un, ok', rv', F', g1, s1, P3, r1⟩ := hq
      obtain ⟨un2, ok2, ac⟩ := un_add cH (fun c h => cell_obj I h) (fun c h => cell_nofr I hfn h) un ok'
      obtain ⟨g2, s2⟩ := grow_add cF cH g1 s1
      have acF : AllCell F' (cellsOf X) := fun c h => ⟨_, g1.f c _ (add_in h)⟩
      exact I.after (Q := Q) ⟨v, eraseL H' (cellsOf X), os, bare, un2, ok2, rv', kk v _ _ g2 s2 (poolAt_erase ac P3) (Rep.erase acF r1 nc)⟩
def evCL (C : List D → M D) (fr : Rho → M (List D)) : Rho → M D := fun ρ => do
  let xs ← fr ρ
  let d ← C xs
  if noClo d = true then pure d else M.fail
theorem de_callL {g : Gh} {k : Nat} {C : List D → M D} {fr : Rho → M (List D)} {x : Str} {p pos : Pos} {a : Addr} {e : Expr} {es : List Expr} (L : CallOk X.prog X.w X.K X.mg X.base g k (.ref a) C) (hr : Room k X.A) (hfn : ∀ x, X.fn x = true) (hg : Gl X x) (hm : X.mg x = some (.ref a)) (hk : PySem.W.keepIn X.K (.ref a) = true)
    (ha : PA X (e :: es) (RdXs g X fr)) (hdb : (x == ("__debug__" : Str)) = false) (he : starEach (e :: es) X.env = (false, eval e X.env) :: starEach es X.env) (hpl : (backTo pos (starEach es X.env)).any (·.1) = false) :
    PE X (.Call (.Name x p) (e :: es) [] pos) (RdV g (evCL C fr)) := by
  refine ⟨fun pins s σ H Q I ⟨F0, H0, F, ρ, n, d, n', e1, m, kk⟩ => ?_⟩
  obtain ⟨xs, n1, e2, e3⟩ := M.bind_some e1
  obtain ⟨d2, n2, e4, e5⟩ := M.bind_some e3
  split at e5
  case isFalse => cases e5
  rename_i nc
  cases e5
  refine wpAny_Call_Name_kw (ld_glob I hg hm ?_ hdb)
  refine PySem.W.callWith_K (h₀ := X.base) I.ok.mod.kin hk (thn (ha.run pos pins s σ H (fun vs H1 => ∃ F1, Grow g F H F1 H1 ∧ Same F1 (vis g H1) ∧ PoolAt g n1 H1 ∧ RepXs g X σ F1 vs xs) I ⟨F0, H0, F, ρ, n, xs, n1, e2, m, fun vs F1 H1 g1 s1 P1 r1 => ⟨F1, g1, s1, P1, r1⟩⟩) fun us s1 ⟨vs, H1, I1, rv, F1, g1, sm1, P1, r1⟩ => ⟨I1.kIn, ?_⟩) he hpl
  exact run_pinned L hr hfn I1 sm1 P1 r1 rv e4 nc fun v F' H' g2 s2 P2 r2 => kk v F' H' (g1.trans g2) s2 P2 r2
end
end Ev

set_option Elab.async false
set_option linter.all false
set_option autoImplicit false
set_option maxRecDepth 100000
set_option maxHeartbeats 2000000
/-! EvL7: lambdas as arguments, as local names, as what a def returns. -/
namespace Ev
open PySem PySem.Spec PyProof.Rows L2

def getVs : List Nat → Rho → M (List D)
  | [] => evNil
  | i :: is => evCons (getV i) (getVs is)
def evLam (j : Nat) (caps : List Nat) : Rho → M D := fun ρ => do let ds ← getVs caps ρ; pure (.clo j ds)
def evLoc (i j : Nat) (caps : List Nat) : Rho → M D := fun ρ n => match ρ[i]? with
  | some (.lam k) => if k = j then evLam j caps ρ n else none
  | _ => none
def xLam (i j : Nat) : Rho → M Out := fun ρ => pure (.nx (ρ.set i (.lam j)))
theorem getV_at {i n n' : Nat} {ρ : Rho} {d : D} (e : getV i ρ n = some (d, n')) : ρ[i]? = some (.val d) ∧ n' = n := by
  unfold getV at e
  split at e
  · rename_i d' hs
    cases e
    exact ⟨hs, rfl⟩
  · cases e
theorem getVs_at : ∀ {caps : List Nat} {ρ : Rho} {n n' : Nat} {ds : List D}, getVs caps ρ n = some (ds, n') → n' = n ∧ caps.length = ds.length ∧ ∀ (j i : Nat) (d : D), caps[j]? = some i → ds[j]? = some d → ρ[i]? = some (.val d)
  | [], ρ, n, n', ds, e => by
    cases e
    exact ⟨rfl, rfl, fun j i d h => by simp at h⟩
  | i :: is, ρ, n, n', ds, e => by
    obtain ⟨d, n1, e1, e2⟩ := M.bind_some e
    obtain ⟨r, n2, e3, e4⟩ := M.bind_some e2
    cases e4
    obtain ⟨h1, rfl⟩ := getV_at e1
    obtain ⟨rfl, h3, h4⟩ := getVs_at e3
    refine ⟨rfl, by simp [h3], fun j k x a b => ?_⟩
    cases j with
    | zero =>
      simp at a b
      subst a b
      exact h1
    | succ j => exact h4 j k x (by simpa using a) (by simpa using b)

/-- a lambda of this frame -/
structure LHere (g : Gh) (X : Cx) (j : Nat) (caps : List Nat) (L : LamT) : Prop where
  lam : g.lam j L
  q : L.qual = X.env.qual ++ "<lambda>"
  nod : defaultsOf L.params X.env = ([], [])
  cap : LCap X L
  ix : caps.map (fun i => X.N[i]?) = L.caps.map some
section
variable {g : Gh} {X : Cx} {j : Nat} {caps : List Nat} {L : LamT}
theorem LHere.frees (h : LHere g X j caps L) : ∀ y ∈ L.scope.names, y.2 = .free → X.env.kindOf y.1 = some .cell ∨ X.env.kindOf y.1 = some .free := fun y hy e => h.cap.kd _ (h.cap.fr y hy e)
theorem repX_mk (hlam : g.lam j L) (hcap : LCap X L) (hix : caps.map (fun i => X.N[i]?) = L.caps.map some) {F0 H0 F F' H : Hp} {ρ : Rho} {n n' : Nat} {σ : L2.St} {ds : List D} {f c' : Addr} {pm ctv : Value} (m : Mdl g F0 H0 F ρ n σ H) (e : getVs caps ρ n = some (ds, n')) (s : Same F F') (h1 : F' f = some (LamO f L (cloFrom X.env.cells L.scope.names []) pm ctv c')) (h2 : F' c' = some (LamX.CodeO c' L.qual)) :
    RepX g X σ F' (.ref f) (.clo j ds) := by
  obtain ⟨_, hl, ht⟩ := getVs_at e
  have hl2 := congrArg List.length hix
  simp at hl2
  refine .lam hlam h1 h2 hcap (by omega) fun k x d a b => ?_
  have q : (caps.map fun i => X.N[i]?)[k]? = some (some x) := by rw [hix, List.getElem?_map, a]; rfl
  rw [List.getElem?_map, Option.map_eq_some_iff] at q
  obtain ⟨i, q1, q2⟩ := q
  obtain ⟨v, hv, r⟩ := m.slot i _ (ht k i d q1 b)
  exact ⟨i, v, q2, hv, r.mono s⟩
/-- a lambda as an argument -/
theorem de_lamX {lp : Pos} (mk : MkOk g X) (h : LHere g X j caps L) : PE X (.Lambda L.params L.body L.scope lp) (RdX g X (evLam j caps)) := pe_wk (de_lam mk h.q h.nod h.frees) fun σ H Q ⟨F0, H0, F, ρ, n, d, n', e, m, k⟩ => by
  obtain ⟨ds, n1, e1, e2⟩ := M.bind_some e
  cases e2
  obtain ⟨rfl, _⟩ := getVs_at e1
  exact ⟨F0, H0, F, ρ, n', m, fun f F' H' gr s P ⟨c', pm, ctv, h1, h2⟩ => k _ F' H' gr s P (repX_mk h.lam h.cap h.ix m e1 gr.f h1 h2)⟩
/-- a local name of a lambda as an argument -/
theorem de_locX {i : Nat} {x : Str} {p : Pos} (h : ∀ L, g.lam j L → LCap X L ∧ caps.map (fun i => X.N[i]?) = L.caps.map some) (hl : ∀ L, g.lcl L = cloFrom X.env.cells L.scope.names []) (hN : X.N[i]? = some x) (hv : Vis X.env.scope x) (hd : (x == ("__debug__" : Str)) = false) (hcd : (x == ("__classdict__" : Str)) = false) :
    PE X (.Name x p) (RdX g X (evLoc i j caps)) := pe_wk (pe_var hN hv hd hcd) fun σ H Q ⟨F0, H0, F, ρ, n, d, n', e, m, k⟩ => by
  unfold evLoc at e
  split at e
  case h_2 => cases e
  rename_i k' hs
  split at e
  case isFalse => cases e
  rename_i ek
  subst ek
  obtain ⟨ds, n1, e1, e2⟩ := M.bind_some e
  cases e2
  obtain ⟨rfl, _⟩ := getVs_at e1
  obtain ⟨f, c', L', pm, ctv, q1, q2, q3, q4⟩ := m.slot i _ hs
  rw [hl] at q3
  obtain ⟨h1, h2⟩ := h L' q2
  exact ⟨.ref f, q1, k _ F H Grow.refl m.sub m.pool (repX_mk q2 h1 h2 m e1 (Same.refl _) q3 q4)⟩
theorem Mdl.setS {F0 H0 F H : Hp} {ρ : Rho} {n : Nat} {σ : L2.St} {sl : Sl} {v : V} (m : Mdl g F0 H0 F ρ n σ H) (i : Nat) (no : ∀ d, sl ≠ .own d) (ok : SlotOk g F H H0 (some (some v)) sl) : Mdl g F0 H0 F (ρ.set i sl) n (σ.set i (some v)) H := by
  have out : ∀ (k : Nat) (dk : D), (ρ.set i sl)[k]? = some (.own dk) → i ≠ k ∧ ρ[k]? = some (.own dk) := fun k dk q => by
    rw [List.getElem?_set] at q
    by_cases hk : i = k
    · rw [if_pos hk] at q
      split at q
      · exact absurd (Option.some.inj q) (no dk)
      · cases q
    · rw [if_neg hk] at q
      exact ⟨hk, q⟩
  refine ⟨m.gr, m.p0, m.sub, m.pool, by simp [m.len], fun k s' e => ?_, fun k1 k2 d1 d2 a e1 e2 e3 e4 => ?_⟩
  · rw [List.getElem?_set] at e
    by_cases hk : i = k
    · subst hk
      rw [if_pos rfl] at e
      split at e
      · rename_i hl
        cases e
        rw [List.getElem?_set_self (by rw [← m.len]; exact hl)]
        exact ok
      · cases e
    · rw [if_neg hk] at e
      rw [List.getElem?_set_ne hk]
      exact m.slot k s' e
  · obtain ⟨n1, q1⟩ := out k1 d1 e1
    obtain ⟨n2, q2⟩ := out k2 d2 e2
    rw [List.getElem?_set_ne n1] at e3
    rw [List.getElem?_set_ne n2] at e4
    exact m.dis k1 k2 d1 d2 a q1 q2 e3 e4
/-- x = lambda .. -/
theorem x_lam {i : Nat} {x : Str} {pos' pos lp : Pos} (mk : MkOk g X) (h : LHere g X j caps L) (hl : ∀ L, g.lcl L = cloFrom X.env.cells L.scope.names []) (hN : X.N.Nodup) (hi : X.N[i]? = some x) (hx : Loc X.env.scope x) (hf : X.fn x = true ∨ X.env.scope.names.lookup x = some .local) :
    PS X (.Assign [.Name x pos'] (.Lambda L.params L.body L.scope lp) pos) (RdS g (xLam i j)) := ps_wk (ps_set hN hi hx (de_lam mk h.q h.nod h.frees) rfl hf) fun E σ H ⟨F0, H0, F, ρ, n, o, n', e, m, k⟩ => by
  obtain ⟨rfl, rfl⟩ := Prod.mk.inj (Option.some.inj e)
  exact ⟨F0, H0, F, ρ, n, m, fun f F' H' gr s P ⟨c', pm, ctv, h1, h2⟩ => k F' _ H' gr.f ((m.grow gr s P).setS i (fun _ z => nomatch z) ⟨f, c', L, pm, ctv, rfl, h.lam, by rw [hl]; exact h1, h2⟩)⟩
end

/-! ### what a def returns -/
/-- the statements end in a return, maybe of a lambda of the frame -/
def RetOk (X : Cx) (st : List Stmt) (g : Gh) (f : Rho → M Out) : Prop := ∀ (s : Shared) (σ : L2.St) (H F0 H0 F : Hp) (ρ : Rho) (n : Nat) (d : D) (n' : Nat) (Q : VK), Inv X [] σ H s → f ρ n = some (.rt d, n') → Mdl g F0 H0 F ρ n σ H →
  (∀ v F' H', Grow g F0 H0 F' H' → Same F' (vis g H') → PoolAt g n' H' → Rep g F' v d → Q v H') →
  wpAny (model X.prog X.w) X.A (execs st X.env) (fun fl s' => ∃ u, fl = .ret u ∧ ∃ v H', s'.os = X.s_0.os ∧ AllBare s'.gens ∧ Un X.fs X.ex X.H_0 H' X.s_0.heap s'.heap ∧ HOk X.prog X.w H' s'.heap ∧ RelV v u ∧ Q v H') X.xe s
section
variable {g : Gh} {X : Cx} {j : Nat} {caps : List Nat} {L : LamT}
theorem un_pins {H H' : Hp} {s s' : Shared} {fs ex cs : List Addr} (cH : ∀ c ∈ cs, H' c = none) (high : ∀ c ∈ cs, s.heap.objs.size ≤ c) (un : Un fs ex H H' s.heap s'.heap) : Un fs ex H (addL H' s' cs) s.heap s'.heap := by
  have old : ∀ b u, H' b = some u → addL H' s' cs b = some u := fun b u e => by
    rw [add_out]
    · exact e
    · intro z
      rw [cH b z] at e
      cases e
  refine ⟨un.keep, un.slot, fun b o q n hx => ?_, un.there, fun b xs e => old _ _ (un.tups b xs e), fun b o u e => old _ _ (un.frzs b o u e), fun b ps e => ?_⟩
  · rw [add_out]
    · exact un.free b o q n hx
    · intro z
      exact absurd (Nat.lt_of_lt_of_le (Heap.lt_size q) (high b z)) (Nat.lt_irrefl _)
  · obtain ⟨more, q⟩ := un.tbls b ps e
    exact ⟨more, old _ _ q⟩
/-- the frame's cells are known from now on -/
theorem pinned_end {σ : L2.St} {H F : Hp} {s : Shared} {n : Nat} {F0 H0 : Hp} (I : Inv X [] σ H s) (hfn : ∀ x, X.fn x = true) (sm : Same F (vis g H)) (P : PoolAt g n H) (gr : Grow g F0 H0 F H) :
    Un X.fs X.ex X.H_0 (addL H s (cellsOf X)) X.s_0.heap s.heap ∧ HOk X.prog X.w (addL H s (cellsOf X)) s.heap ∧ Grow g F0 H0 (addL F s (cellsOf X)) (addL H s (cellsOf X)) ∧ Same (addL F s (cellsOf X)) (vis g (addL H s (cellsOf X))) ∧ PoolAt g n (addL H s (cellsOf X)) := by
  have cH : ∀ c ∈ cellsOf X, H c = none := fun c h => cell_fresh I h
  have cF : ∀ c ∈ cellsOf X, F c = none := fun c h => sub_none sm (cH c h)
  have upH : ∀ b u, H b = some u → addL H s (cellsOf X) b = some u := fun b u e => by
    rw [add_out]
    · exact e
    · intro z
      rw [cH b z] at e
      cases e
  have upF : ∀ b u, F b = some u → addL F s (cellsOf X) b = some u := fun b u e => by
    rw [add_out]
    · exact e
    · intro z
      rw [cF b z] at e
      cases e
  refine ⟨un_pins cH (fun c h => cell_high I hfn h) I.base, hok_add I, ⟨fun a o e => upF _ _ (gr.f a o e), fun a o e => ?_, fun a h1 h2 => ?_, fun a h1 h2 h3 => ?_⟩, fun b o q => ?_, ⟨fun hl => have Q := P.pool hl; ⟨upH _ _ Q.p, upH _ _ Q.r, upH _ _ Q.c, Q.np, Q.nr⟩, P.tabs.ext upH⟩⟩
  · obtain ⟨h1, h2⟩ := vis_some e
    have := gr.h a o e
    rw [vis_ne h1] at this ⊢
    exact upH _ _ this
  · obtain ⟨o, e⟩ := Option.isSome_iff_exists.mp (gr.c a h1 h2)
    rw [upH _ _ e]; rfl
  · have z : a ∉ cellsOf X := fun z => by
      have := gr.fresh (cH a z)
      rw [this] at h2
      cases h2
    rw [add_out z]
    exact gr.nw a h1 h2 h3
  · by_cases z : b ∈ cellsOf X
    · rw [add_in z] at q
      rw [vis_ne (P.fresh (cH b z)).nh, add_in z]
      exact q
    · rw [add_out z] at q
      obtain ⟨h1, h2⟩ := vis_some (sm b o q)
      rw [vis_ne h1, add_out z]
      exact h2
def xRetL (j : Nat) (caps : List Nat) : Rho → M Out := fun ρ => do let d ← evLam j caps ρ; pure (.rt d)
theorem ret_lam {lp pos : Pos} (mk : MkOk g X) (hfn : ∀ x, X.fn x = true) (h : LHere g X j caps L) : RetOk X [.Return (some (.Lambda L.params L.body L.scope lp)) pos] g (xRetL j caps) := by
  intro s σ H F0 H0 F ρ n d n' Q I e m k
  obtain ⟨d', n1, e1, e2⟩ := M.bind_some e
  cases e2
  refine wpAny_execs_cons (wpAny_Return_some (thn ((de_lamX (lp := lp) mk h).run [] s σ H (fun v H1 => ∃ F1, Grow g F H F1 H1 ∧ Same F1 (vis g H1) ∧ PoolAt g n' H1 ∧ RepX g X σ F1 v d) I ⟨F0, H0, F, ρ, n, d, n', e1, m, fun v F1 H1 g1 s1 P1 r1 => ⟨F1, g1, s1, P1, r1⟩⟩) fun u s1 ⟨v, H1, I1, rv, F1, g1, sm1, P1, r1⟩ => ?_))
  obtain ⟨a1, a2, a3, a4, a5⟩ := pinned_end I1 hfn sm1 P1 (m.gr.trans g1)
  exact ⟨u, rfl, v, _, I1.os, I1.bare, a1, a2, rv, k v _ _ a3 a4 a5 (rep_add I1 sm1 r1)⟩
theorem ret_cons {st : Stmt} {rest : List Stmt} {fa fb : Rho → M Out} (ha : PS X st (RdS g fa)) (hb : RetOk X rest g fb) : RetOk X (st :: rest) g (xSeq fa fb) := by
  intro s σ H F0 H0 F ρ n d n' Q I e m k
  obtain ⟨o, n1, e1, e2⟩ := M.bind_some e
  refine wpAny_execs_cons (thn (ha.run [] s σ H { nx := fun σ' H' => ∃ F' ρ', fb ρ' n1 = some (.rt d, n') ∧ Mdl g F0 H0 F' ρ' n1 σ' H', rt := Q } I ⟨F0, H0, F, ρ, n, o, n1, e1, m, ?_⟩) fun fl s1 q => ?_)
  · cases o with
    | nx ρ' => exact fun F' σ' H' _ m' => ⟨F', ρ', e2, m'⟩
    | rt d2 =>
      cases e2
      exact k
    | bk ρ' => cases e2
    | ct ρ' => cases e2
  · cases fl with
    | next =>
      obtain ⟨σ', H', I', F', ρ', e3, m'⟩ := q
      exact hb s1 σ' H' F0 H0 F' ρ' n1 d n' Q I' e3 m' k
    | ret u =>
      obtain ⟨v, σ', H', J, rv, q⟩ := q
      exact ⟨u, rfl, v, H', J.os, J.bare, J.base, J.hok, rv, q⟩
    | brk =>
      obtain ⟨_, _, _, q⟩ := q
      exact q.elim
    | cont =>
      obtain ⟨_, _, _, q⟩ := q
      exact q.elim
end
end Ev

set_option Elab.async false
set_option linter.all false
set_option autoImplicit false
set_option maxRecDepth 100000
set_option maxHeartbeats 2000000
/-! EvL8: instances: attributes, methods, their making. -/
namespace Ev
open PySem PySem.Spec PyProof.Rows L2

def baseOk : Expr → Bool
  | .Call (.Name _ _) [] [] _ => false
  | _ => true
theorem attrBase_of {o : Expr} {m : Str} {env : Env} {t : Sem Value} (h : baseOk o = true) : attributeBase o m env t = t := by
  cases o with
  | Call f as ks p =>
    cases f with
    | Name x px =>
      cases as with
      | nil =>
        cases ks with
        | nil => cases h
        | cons _ _ => rfl
      | cons _ _ => rfl
    | _ => rfl
  | _ => rfl
theorem meth_form {o : Expr} {m : Str} {apos pos : Pos} {as : List Expr} {env : Env} (hb : baseOk o = true) (hp : (backTo pos (starEach as env)).any (·.1) = false) (hn : as.length < 30) (hl : (apos.endLine == pos.line) = true) :
    eval (.Call (.Attribute o m apos) as [] pos) env = (do
      let ov ← eval o env
      standAt apos.atName
      let (f, first) ← holding [ov] (getMethod ov m (do return (← importBound o env).getD true))
      callWith pos f first (backTo pos (starEach as env)) (backToKw pos (keywordEach [] env))) := by
  rw [arm_eval_Call, attrBase_of hb]
  have few : methodCallForm (as.length + ([] : List Keyword).length) (backTo pos (starEach as env)) (backToKw pos (keywordEach [] env)) = true := by
    unfold methodCallForm
    have h1 : (backTo pos (starEach as env)).all (fun x => !x.1) = true := by
      rw [List.all_eq_true]
      intro x hx
      have := List.any_eq_false.mp hp x hx
      simpa using this
    rw [h1]
    show (true && true && decide (as.length + 0 + 0 < 30)) = true
    simp
    omega
  simp only [methodCall, few, calleeOf, methodCallPos, hl, if_true, Bool.not_true, Bool.false_or, pure_bind]

/-! ### attributes -/
def fldD (x : Str) (cs : List Nat) : D → Option D
  | .obj c ns ds => if cs.contains c then (ns.zip ds).lookup x else none
  | _ => none
def evFld (x : Str) (cs : List Nat) (fa : Rho → M D) : Rho → M D := fun ρ => do let a ← fa ρ; M.opt (fldD x cs a)
theorem zip_lookup {g : Gh} {F : Hp} {x : Str} : ∀ {ns : List Str} {vs : List V} {ds : List D} {d : D}, RepAll g F vs ds → (ns.zip ds).lookup x = some d → ∃ v, (ns.zip vs).lookup x = some v ∧ Rep g F v d
  | [], _, _, _, _, h => by simp at h
  | n :: ns, _, _, _, .nil, h => by simp at h
  | n :: ns, _, _, d, .cons (v := v) (d := d') r t, h => by
    rw [List.zip_cons_cons, List.lookup_cons] at h ⊢
    by_cases e : (x == n) = true
    · rw [e] at h
      cases h
      exact ⟨v, by rw [e], r⟩
    · rw [Bool.not_eq_true] at e
      rw [e] at h
      obtain ⟨v', h1, h2⟩ := zip_lookup t h
      exact ⟨v', by rw [e]; exact h1, h2⟩
theorem zip_none {α β : Type} {x : Str} : ∀ {ns : List Str} {vs : List α}, x ∉ ns → (ns.zip vs).lookup x = none
  | [], _, _ => rfl
  | n :: ns, [], _ => by simp
  | n :: ns, v :: vs, h => by
    have ne : (x == n) = false := by
      rw [beq_eq_false_iff_ne]
      rintro rfl
      exact h List.mem_cons_self
    rw [List.zip_cons_cons, List.lookup_cons, ne]
    exact zip_none (β := β) fun z => h (List.mem_cons_of_mem _ z)
theorem rep_obj {g : Gh} {F : Hp} {v : V} {c : Nat} {ns : List Str} {ds : List D} (r : Rep g F v (.obj c ns ds)) : ∃ (a C dx : Addr) (vs : List V), v = .ref a ∧ g.cls c = some C ∧ F a = some (.ins C dx (ns.zip vs)) ∧ ns.length = vs.length ∧ RepAll g F vs ds := by
  cases r with
  | obj h1 h2 h3 r => exact ⟨_, _, _, _, rfl, h1, h2, h3, r⟩
section
variable {X : Cx} {g : Gh} {fo : Rho → M D} {o : Expr} {x : Str} {pos apos : Pos} {cs : List Nat}
/-- what the classes have no attribute of -/
def FldOk (K : PySem.W.Frag) (g : Gh) (x : Str) (cs : List Nat) : Prop := ∀ c ∈ cs, ∀ C, g.cls c = some C → Cls K C ∧ NoAttr K C x
theorem de_fld (hK : FldOk X.K g x cs) (ho : PE X o (RdV g fo)) (hb : baseOk o = true) : PE X (.Attribute o x pos) (RdV g (evFld x cs fo)) := pe_wk (pe_fld ho (attrBase_of hb)) fun σ H Q ⟨F0, H0, F, ρ, n, d, n', e, m, k⟩ => by
  obtain ⟨a, n1, e1, e2⟩ := M.bind_some e
  obtain ⟨e3, e4⟩ := M.opt_ok e2
  simp only at e3 e4
  subst e4
  refine ⟨F0, H0, F, ρ, n, a, _, e1, m, fun v F' H' gr s P r => ?_⟩
  cases a <;> simp only [fldD, reduceCtorEq] at e3
  split at e3
  case isFalse => cases e3
  rename_i c ns ds hc
  obtain ⟨a, C, dx, vs, rfl, h1, h2, h3, r2⟩ := rep_obj r
  obtain ⟨v, h4, r3⟩ := zip_lookup r2 e3
  obtain ⟨k1, k2⟩ := hK c (by simpa using hc) C h1
  exact ⟨a, C, dx, _, v, rfl, (vis_some (s _ _ h2)).2, k1, k2, h4, k v F' H' gr s P r3⟩
/-- self.x, while the instance is being made -/
def evFldS (i : Nat) (x : Str) (cs : List Nat) : Rho → M D := fun ρ n => match ρ[i]? with
  | some (.slf d) => (fldD x cs d).map fun y => (y, n)
  | _ => none
theorem de_fldS {i : Nat} {z : Str} {p : Pos} (hK : FldOk X.K g x cs) (hN : X.N[i]? = some z) (hv : Vis X.env.scope z) (hd : (z == ("__debug__" : Str)) = false) (hcd : (z == ("__classdict__" : Str)) = false) :
    PE X (.Attribute (.Name z p) x pos) (RdV g (evFldS i x cs)) := pe_wk (pe_fld (pe_var hN hv hd hcd) rfl) fun σ H Q ⟨F0, H0, F, ρ, n, d, n', e, m, k⟩ => by
  unfold evFldS at e
  split at e
  case h_2 => cases e
  rename_i d' hs
  obtain ⟨C, dx, c, ns, vs, ds, rfl, h1, h2, h3, h4, r, h5, h6⟩ := m.slot i _ hs
  rw [Option.map_eq_some_iff] at e
  obtain ⟨y, e1, e2⟩ := e
  cases e2
  simp only [fldD] at e1
  split at e1
  case isFalse => cases e1
  rename_i hc
  obtain ⟨v, h7, r3⟩ := zip_lookup r e1
  obtain ⟨k1, k2⟩ := hK c (by simpa using hc) C h2
  exact ⟨_, h1, g.slf, C, dx, _, v, rfl, h3, k1, k2, h7, k v F H Grow.refl m.sub m.pool r3⟩

/-! ### methods -/
def evMeth (C : Nat → List D → M D) (x : Str) (tb : List (Nat × Nat)) (fo : Rho → M D) (fr : Rho → M (List D)) : Rho → M D := fun ρ => do
  let o ← fo ρ
  let xs ← fr ρ
  match o with
  | .obj c ns ds => if ns.contains x then M.fail else match tb.lookup c with
    | some j => C j (o :: xs)
    | none => M.fail
  | _ => M.fail
/-- the classes' methods of a name -/
def MethOk (P : Program) (w : World) (K : PySem.W.Frag) (mg : Str → Option Value) (base : Heap) (g : Gh) (k : Nat) (C : Nat → List D → M D) (x : Str) (tb : List (Nat × Nat)) : Prop :=
  ∀ c j, tb.lookup c = some j → ∀ A, g.cls c = some A → ∃ f, Cls K A ∧ Meth K A x f ∧ CallOk P w K mg base g k (.ref f) (C j)
variable {C : Nat → List D → M D} {fr : Rho → M (List D)} {tb : List (Nat × Nat)} {k : Nat} {e : Expr} {es : List Expr}
theorem de_meth (L : MethOk X.prog X.w X.K X.mg X.base g k C x tb) (hr : Room k X.A) (ho : PE X o (RdV g fo)) (ha : PA X (e :: es) (RdA g fr)) (hb : baseOk o = true) (hl : (apos.endLine == pos.line) = true) (hn : (e :: es).length < 30)
    (he : starEach (e :: es) X.env = (false, eval e X.env) :: starEach es X.env) (hpl : (backTo pos (starEach es X.env)).any (·.1) = false) : PE X (.Call (.Attribute o x apos) (e :: es) [] pos) (RdV g (evMeth C x tb fo fr)) := by
  refine ⟨fun pins s σ H Q I ⟨F0, H0, F, ρ, n, d, n', e1, m, kk⟩ => ?_⟩
  obtain ⟨od, n1, e2, e3⟩ := M.bind_some e1
  obtain ⟨xs, n2, e4, e5⟩ := M.bind_some e3
  cases od with
  | obj c ns ds =>
    simp only at e5
    split at e5
    case isTrue => cases e5
    rename_i hx
    cases hj : tb.lookup c with
    | none => rw [hj] at e5; cases e5
    | some j =>
    rw [hj] at e5
    simp only at e5
    have hp2 : (backTo pos (starEach (e :: es) X.env)).any (·.1) = false := by
      rw [he]
      show (false || (backTo pos (starEach es X.env)).any (·.1)) = false
      rw [hpl]; rfl
    refine PySem.W.methodCall_KW (thn (ho.run pins s σ H (fun v H1 => ∃ F1, Grow g F H F1 H1 ∧ Same F1 (vis g H1) ∧ PoolAt g n1 H1 ∧ Rep g F1 v (.obj c ns ds)) I ⟨F0, H0, F, ρ, n, _, n1, e2, m, fun v F1 H1 g1 s1 P1 r1 => ⟨F1, g1, s1, P1, r1⟩⟩) fun u s1 ⟨v, H1, I1, rv, F1, g1, sm1, P1, r1⟩ => ?_) (meth_form hb hp2 hn hl)
    obtain ⟨a, Ca, dx, vs, rfl, h1, h2, h3, r2⟩ := rep_obj r1
    obtain rfl : u = Value.ref a := rv
    obtain ⟨f, k1, k2, k3⟩ := L c j hj Ca h1
    refine getmeth_ok I1 (vis_some (sm1 _ _ h2)).2 k1 k2 (zip_none (β := Unit) (by simpa using hx)) ?_
    refine PySem.W.callWith_K (first := [.ref a]) (h₀ := X.base) I1.ok.mod.kin k2.kp (thn (ha.run pos pins s1 σ H1 (fun ws H2 => ∃ F2, Grow g F1 H1 F2 H2 ∧ Same F2 (vis g H2) ∧ PoolAt g n2 H2 ∧ RepAll g F2 ws xs) I1 ⟨F0, H0, F1, ρ, n1, xs, n2, e4, m.grow g1 sm1 P1, fun ws F2 H2 g2 s2 P2 r2 => ⟨F2, g2, s2, P2, r2⟩⟩) fun us s2 ⟨ws, H2, I2, rw', F2, g2, sm2, P2, r2'⟩ => ⟨I2.kIn, ?_⟩) he hpl
    exact run_call (us := .ref a :: us) (vs := .ref a :: ws) k3 hr I2 sm2 P2 (.cons (r1.mono g2.f) r2') (.cons rfl rw') e5 fun v F' H' g3 s3 P3 r3 => kk v F' H' ((g1.trans g2).trans g3) s3 P3 r3
  | _ => cases e5
theorem de_meth0 (L : MethOk X.prog X.w X.K X.mg X.base g k C x tb) (hr : Room k X.A) (ho : PE X o (RdV g fo)) (hb : baseOk o = true) (hl : (apos.endLine == pos.line) = true) : PE X (.Call (.Attribute o x apos) [] [] pos) (RdV g (evMeth C x tb fo evNil)) := by
  refine ⟨fun pins s σ H Q I ⟨F0, H0, F, ρ, n, d, n', e1, m, kk⟩ => ?_⟩
  obtain ⟨od, n1, e2, e3⟩ := M.bind_some e1
  obtain ⟨xs, n2, e4, e5⟩ := M.bind_some e3
  cases e4
  cases od with
  | obj c ns ds =>
    simp only at e5
    split at e5
    case isTrue => cases e5
    rename_i hx
    cases hj : tb.lookup c with
    | none => rw [hj] at e5; cases e5
    | some j =>
    rw [hj] at e5
    simp only at e5
    refine PySem.W.methodCall_KW (thn (ho.run pins s σ H (fun v H1 => ∃ F1, Grow g F H F1 H1 ∧ Same F1 (vis g H1) ∧ PoolAt g n1 H1 ∧ Rep g F1 v (.obj c ns ds)) I ⟨F0, H0, F, ρ, n, _, n1, e2, m, fun v F1 H1 g1 s1 P1 r1 => ⟨F1, g1, s1, P1, r1⟩⟩) fun u s1 ⟨v, H1, I1, rv, F1, g1, sm1, P1, r1⟩ => ?_) (meth_form hb rfl (by decide) hl)
    obtain ⟨a, Ca, dx, vs, rfl, h1, h2, h3, r2⟩ := rep_obj r1
    obtain rfl : u = Value.ref a := rv
    obtain ⟨f, k1, k2, k3⟩ := L c j hj Ca h1
    refine getmeth_ok I1 (vis_some (sm1 _ _ h2)).2 k1 k2 (zip_none (β := Unit) (by simpa using hx)) ?_
    exact PySem.W.callWith_K0 (first := [.ref a]) I1.kIn k2.kp (run_call (us := [.ref a]) (vs := [.ref a]) k3 hr I1 sm1 P1 (.cons r1 .nil) (.cons rfl .nil) e5 fun v F' H' g3 s3 P3 r3 => kk v F' H' (g1.trans g3) s3 P3 r3)
  | _ => cases e5
end

/-! ### the making of an instance -/
/-- __init__, on a new instance -/
def spI (g : Gh) (c : Nat) (C : List D → M D) : Sp := fun vs H Q _ => ∃ (x dx A : Addr) (ws : List V) (B : Hp) (F : Hp) (n : Nat) (ds : List D) (d : D) (n' : Nat), vs = .ref x :: ws ∧ g.cls c = some A ∧ B x = none ∧ B dx = none ∧ dx ≠ x ∧ H = upd (upd B dx (.own x)) x (.ins A dx []) ∧
  Same F (vis g B) ∧ PoolAt g n B ∧ RepAll g F ws ds ∧ C ds n = some (d, n') ∧ ∀ F' H', Grow g F B F' H' → Same F' (vis g H') → PoolAt g n' H' → Rep g F' (.ref x) d → Q .non H'
section
variable {P : Program} {w : World} {K : PySem.W.Frag} {mg : Str → Option Value} {base : Heap} {g : Gh} {k c : Nat} {C : List D → M D}
theorem env0_new {A : Around} {outer : List Env} {s : Shared} {H : Hp} {h' : Heap} {a : Addr} {o : HO} {t : Nat} (e0 : Env0 P w K mg base A outer s H) (kp : ∀ b u, s.heap.get? b = some u → h'.get? b = some u) (hp : s.heap.objs.size ≤ a) (sz : s.heap.objs.size ≤ h'.objs.size)
    (new : ObjOk P w (upd H a o) h' a o) : Env0 P w K mg base A outer { s with heap := h', toks := t } (upd H a o) := by
  have up : ∀ b u, s.heap.get? b = some u → b ≠ a := fun b u e => Nat.ne_of_lt (Nat.lt_of_lt_of_le (Heap.lt_size e) hp)
  refine ⟨e0.frames, e0.mod, fun b u e => ⟨kp _ _ (e0.bs b u e).1, by rw [upd_ne (up b u (e0.bs b u e).1)]; exact (e0.bs b u e).2⟩, Nat.le_trans e0.bsz sz, ?_, fun b hb => ?_, e0.hok.laid kp hp new, e0.bare⟩
  · have all : ∀ l : List Env, s.heap.FunFrames base l → h'.FunFrames base l := fun l => by
      induction l with
      | nil => intro _; trivial
      | cons v r ih =>
        rintro ⟨a1, ⟨L, o1, a2, a3, a4, a5⟩, a6⟩
        exact ⟨a1, ⟨L, o1, a2, a3, kp _ _ a4, a5⟩, ih a6⟩
    exact all outer e0.funs
  · obtain ⟨_, o1, h1, _⟩ := e0.funs.mem hb
    rw [upd_ne (up b o1 h1)]
    exact e0.frf b hb
/-- C(..) -/
theorem callOk_make {A f : Addr} {fd : FuncData} {ps : List Str} (mk : L2.Mk K A f) (hc : g.cls c = some A) (F : FnOk P w K mg base CX0 k f fd ps (spI g c C)) (hb : Binds K fd ps []) : CallOk P w K mg base g (k + 1) (.ref A) C := by
  intro Ar outer s H F' us vs ds n d n' Q E hr e0 sm P1 r rv e kk
  have n1 : H s.heap.objs.size = none := e0.hok.fresh (Nat.le_refl _)
  have n2 : H (s.heap.objs.size + 1) = none := e0.hok.fresh (Nat.le_succ _)
  have ne : s.heap.objs.size ≠ s.heap.objs.size + 1 := Nat.ne_of_lt (Nat.lt_succ_self _)
  have q1 : (s.heap.push PySem.W.emptyDict).get? s.heap.objs.size = some PySem.W.emptyDict := Heap.get?_push_size s.heap rfl
  have q2 : ((s.heap.push PySem.W.emptyDict).push (PySem.W.instObj A s.heap.objs.size)).get? (s.heap.objs.size + 1) = some (PySem.W.instObj A s.heap.objs.size) := by
    have := Heap.get?_push_size (s.heap.push PySem.W.emptyDict) (o := PySem.W.instObj A s.heap.objs.size) rfl
    rwa [Heap.size_push] at this
  have q3 : (s.heap.push PySem.W.emptyDict).Ns s.heap.objs.size (fun _ => none) := ⟨PySem.W.emptyDict, #[], _, q1, rfl, (fun e he => absurd he (by simp)), fun _ => rfl⟩
  have E1 := env0_new (a := s.heap.objs.size) (o := .own (s.heap.objs.size + 1)) (h' := s.heap.push PySem.W.emptyDict) (t := s.toks) e0 (fun b u q => Heap.get?_push_of_some _ q) (Nat.le_refl _) (by rw [Heap.size_push]; omega) ⟨_, q1⟩
  have E2 := env0_new (a := s.heap.objs.size + 1) (o := .ins A s.heap.objs.size []) (h' := (s.heap.push PySem.W.emptyDict).push (PySem.W.instObj A s.heap.objs.size)) (t := s.toks) E1 (fun b u q => Heap.get?_push_of_some _ q) (Nat.le_of_eq (Heap.size_push _ _)) (by rw [Heap.size_push _ (PySem.W.instObj A s.heap.objs.size)]; exact Nat.le_succ _)
    ⟨by rw [upd_ne ne, upd_same], Nat.zero_le _, ne, q2, fun _ => none, (Heap.Ns1.of_empty q3).at (fun o q => Heap.get?_push_of_some _ q), fun _ => True.intro, fun y hy => absurd rfl hy⟩
  have sp : spI g c C (.ref (s.heap.objs.size + 1) :: vs) (upd (upd H s.heap.objs.size (.own (s.heap.objs.size + 1))) (s.heap.objs.size + 1) (.ins A s.heap.objs.size [])) (fun v H2 => v = .non ∧ Q (.ref (s.heap.objs.size + 1)) H2) E :=
    ⟨s.heap.objs.size + 1, s.heap.objs.size, A, vs, H, F', n, ds, d, n', rfl, hc, n2, n1, ne, rfl, sm, P1, r, e, fun F2 H2 g2 s2 P2 r2 => ⟨rfl, kk _ F2 H2 g2 s2 P2 r2⟩⟩
  have hl := F.len _ _ _ _ sp
  have b := hb { s with heap := (s.heap.push PySem.W.emptyDict).push (PySem.W.instObj A s.heap.objs.size) } (.ref (s.heap.objs.size + 1) :: us) (Env0.kin E2) (by
    have := rv.length
    rw [List.append_nil]
    simpa [← this] using hl)
  rw [List.append_nil] at b
  refine make_map (f := f) (Env0.kin e0) mk.makes mk.init (beq_iff_eq.mp mk.fn) (codeAny_mono (F.run _ outer _ _ ⟨.ref (s.heap.objs.size + 1) :: us, []⟩ _ _ _ E (hr.make A us []) (E2.make A us []) b (show Vals (V.ref (s.heap.objs.size + 1) :: vs) (Value.ref (s.heap.objs.size + 1) :: us) from .cons rfl rv) sp) fun r s' hq => ?_)
  cases r with
  | error e => exact (show False from hq).elim
  | ok fl =>
    cases fl with
    | next => exact False.elim hq
    | brk => exact False.elim hq
    | cont => exact False.elim hq
    | ret u =>
      obtain ⟨v, H', os, bare, un, ok', rv', ev, q⟩ := hq
      subst ev
      refine ⟨rv', ⟨V.ref (s.heap.objs.size + 1), H', os, bare, ?_, ok', rfl, q⟩⟩
      have un1 : Un (frs outer) [] H (upd H s.heap.objs.size (.own (s.heap.objs.size + 1))) s.heap (s.heap.push PySem.W.emptyDict) := Un.laid (fun b u q => Heap.get?_push_of_some _ q) (Nat.le_refl _) n1
      have un2 : Un (frs outer) [] (upd H s.heap.objs.size (.own (s.heap.objs.size + 1))) (upd (upd H s.heap.objs.size (.own (s.heap.objs.size + 1))) (s.heap.objs.size + 1) (.ins A s.heap.objs.size [])) (s.heap.push PySem.W.emptyDict) ((s.heap.push PySem.W.emptyDict).push (PySem.W.instObj A s.heap.objs.size)) :=
        Un.laid (fun b u q => Heap.get?_push_of_some _ q) (Nat.le_of_eq (Heap.size_push _ _)) (by rw [upd_ne (Ne.symm ne)]; exact n2)
      exact (un1.trans un2).trans un
end
end Ev

set_option Elab.async false
set_option linter.all false
set_option autoImplicit false
set_option maxRecDepth 100000
set_option maxHeartbeats 2000000
/-! EvL9: statements: self.x = .., xs.extend(..). -/
namespace Ev
open PySem PySem.Spec PyProof.Rows L2

def notSlf : Sl → Bool
  | .slf _ => false
  | _ => true
def setFD (x : Str) (cs : List Nat) (d : D) : Rho → Option Rho
  | .slf (.obj c ns ds) :: r => if cs.contains c && r.all notSlf && !ns.contains x && decide (ns.length < 900) then some (.slf (.obj c (ns ++ [x]) (ds ++ [d])) :: r) else none
  | _ => none
/-- self.x = .. -/
def xSetF (x : Str) (cs : List Nat) (fe : Rho → M D) : Rho → M Out := fun ρ => do
  let d ← fe ρ
  let ρ' ← M.opt (setFD x cs d ρ)
  pure (.nx ρ')
theorem putF_new {x : Str} {v : V} : ∀ {ns : List Str} {vs : List V}, ns.length = vs.length → x ∉ ns → putF x v (ns.zip vs) = (ns ++ [x]).zip (vs ++ [v])
  | [], [], _, _ => rfl
  | n :: ns, u :: vs, hl, h => by
    have ne : n ≠ x := fun e => h (by rw [e]; exact List.mem_cons_self)
    show putF x v ((n, u) :: ns.zip vs) = (n, u) :: (ns ++ [x]).zip (vs ++ [v])
    rw [putF, if_neg ne, putF_new (by simpa using hl) fun z => h (List.mem_cons_of_mem _ z)]
  | [], _ :: _, hl, _ => by simp at hl
  | _ :: _, [], hl, _ => by simp at hl
section
variable {X : Cx} {g : Gh} {fe : Rho → M D} {e : Expr} {x z : Str} {pos pos' p : Pos} {cs : List Nat}
theorem x_setf (hK : FldOk X.K g x cs) (hN : X.N[0]? = some z) (hv : Vis X.env.scope z) (hd : (z == ("__debug__" : Str)) = false) (hcd : (z == ("__classdict__" : Str)) = false) (he : PE X e (RdV g fe)) :
    PS X (.Assign [.Attribute (.Name z p) x pos'] e pos) (RdS g (xSetF x cs fe)) := by
  have hs : swapsWith e (some (.Attribute (.Name z p) x pos')) pos.line X.env = pure false := by cases e <;> rfl
  refine ps_wk (ps_fld (pe_var (i := 0) hN hv hd hcd) he hs) fun E σ H ⟨F0, H0, F, ρ, n, o, n', e1, m, k⟩ => ?_
  obtain ⟨d, n1, e2, e3⟩ := M.bind_some e1
  obtain ⟨ρ', n2, e4, e5⟩ := M.bind_some e3
  cases e5
  obtain ⟨e6, e7⟩ := M.opt_ok e4
  simp only at e6 e7
  subst e7
  unfold setFD at e6
  split at e6
  case h_2 => cases e6
  rename_i c ns ds r
  split at e6
  case isFalse => cases e6
  rename_i hc
  cases e6
  simp only [Bool.and_eq_true, decide_eq_true_eq, Bool.not_eq_true'] at hc
  obtain ⟨⟨⟨hc1, hc2⟩, hc3⟩, hc4⟩ := hc
  refine ⟨F0, H0, F, _, n, d, _, e2, m, fun v F' H' g1 s1 P1 r1 => ?_⟩
  have m1 := m.grow g1 s1 P1
  obtain ⟨C, dx, c', ns', vs, ds', e0, h1, h2, h3, h4, rr, h5, h6⟩ := m1.slot 0 _ rfl
  cases e0
  obtain ⟨k1, k2⟩ := hK c (by simpa using hc1) C h2
  have nx : x ∉ ns := by simpa using hc3
  have zl : (ns.zip vs).length = ns.length := by rw [List.length_zip, ← h4]; omega
  refine ⟨_, h1, g.slf, C, dx, _, rfl, h3, k1, k2, by rw [zl]; omega, ?_⟩
  rw [putF_new h4 nx]
  have ne := H0_ne m1.p0 h6
  have nc := ne.nh
  refine k F' σ _ g1.f ⟨m1.gr.updN h6 nc, m1.p0, sub_updN m1.sub h5 nc, m1.pool.updN ne h3 (fun _ _ z => nomatch z), m1.len, fun j sl e' => ?_, fun i j di dj b q1 q2 q3 q4 => ?_⟩
  · cases j with
    | zero =>
      cases e'
      exact ⟨C, dx, c, _, _, _, rfl, h1, h2, upd_same, by simp [h4], rr.snoc r1, h5, h6⟩
    | succ j =>
      have q := m1.slot (j + 1) sl e'
      have e' : r[j]? = some sl := e'
      cases sl with
      | un => trivial
      | val d => exact q
      | own d =>
        obtain ⟨b, q1, o, f, z⟩ := q
        exact ⟨b, q1, o.at (upd_ne (fun y => by rw [y] at o; exact o.noIns h3)), f, z⟩
      | lam k => exact q
      | slf d =>
        have := List.all_eq_true.mp hc2 _ (List.mem_of_getElem? e')
        cases this
  · have back : ∀ (i : Nat) (di : D), (Sl.slf (.obj c (ns ++ [x]) (ds ++ [d])) :: r)[i]? = some (.own di) → (Sl.slf (.obj c ns ds) :: r)[i]? = some (.own di) := fun i di q => by
      cases i with
      | zero => cases q
      | succ i => exact q
    exact m1.dis i j di dj b (back i di q1) (back j dj q2) q3 q4
/-- xs.extend(..) -/
def extR (ρ : Rho) (i : Nat) (d : D) : Option Rho := match ρ[i]?, d with
  | some (.own (.lst ds)), .lst es => if ds.length + es.length < 16777216 then some (ρ.set i (.own (.lst (ds ++ es)))) else none
  | _, _ => none
def xExt (i : Nat) (fe : Rho → M D) : Rho → M Out := fun ρ => do
  let d ← fe ρ
  let ρ' ← M.opt (extR ρ i d)
  pure (.nx ρ')
theorem x_ext {i : Nat} {apos epos : Pos} (hN : X.N[i]? = some z) (hv : Vis X.env.scope z) (hd : (z == ("__debug__" : Str)) = false) (hcd : (z == ("__classdict__" : Str)) = false) (he : PE X e (RdV g fe)) (hst : starEach [e] X.env = (false, eval e X.env) :: starEach [] X.env) (hl : (apos.endLine == epos.line) = true) :
    PS X (.Expr (.Call (.Attribute (.Name z p) "extend" apos) [e] [] epos) pos) (RdS g (xExt i fe)) := by
  have hpe : ∀ (to : TE) (t : TA), PE X (.Name z p) to → PA X [e] t → PE X (.Call (.Attribute (.Name z p) "extend" apos) [e] [] epos) (tBM X.K "list" rExtend to t) := fun to t ho ha =>
    pe_bm PySem.F.plainAttrs_list PySem.F.slot_list_extend PySem.F.type_list_extend mt_extend ho ha rfl (by rw [hst]; rfl) hl hst rfl
  refine ps_wk (ps_expr (hpe _ _ (pe_var (i := i) hN hv hd hcd) (pa_cons he pa_nil hst)) rfl) fun E σ H ⟨F0, H0, F, ρ, n, o, n', e1, m, k⟩ => ?_
  obtain ⟨d, n1, e2, e3⟩ := M.bind_some e1
  obtain ⟨ρ', n2, e4, e5⟩ := M.bind_some e3
  cases e5
  obtain ⟨e6, e7⟩ := M.opt_ok e4
  simp only at e6 e7
  subst e7
  unfold extR at e6
  split at e6
  case h_2 => cases e6
  rename_i ds es hd
  split at e6
  case isFalse => cases e6
  rename_i hz
  cases e6
  obtain ⟨a, vs, ha, hh, r, hf, h0⟩ := rdP_name m hd
  refine ⟨_, ha, .inl ⟨rfl, vs, .of hh⟩, F0, H0, F, ρ, n, _, _, e2, m, fun v F' H' gr s P rv => ?_⟩
  obtain ⟨q1, q2, q3⟩ := own_after m.p0 h0 hh r hf gr
  cases rv with
  | @lst _ b ws _ hb rb =>
    refine ⟨a, b, vs, ws, rfl, rfl, q1, (vis_some (s _ _ hb)).2, by rw [q2.length, rb.length, sizeLine_eq]; omega, ?_⟩
    exact k F' σ _ gr.f ((m.grow gr s P).write hd ha q3 h0 q1 (q2.append rb))
end
end Ev

set_option Elab.async false
set_option linter.all false
set_option autoImplicit false
set_option maxRecDepth 100000
set_option maxHeartbeats 2000000
/-! EvI: xs[::-1]. -/
namespace Ev
open PySem PySem.Spec PyProof.Rows L2

theorem fm_map {α β : Type} {f : α → Option β} {g : α → β} : ∀ {l : List α}, (∀ k ∈ l, f k = some (g k)) → l.filterMap f = l.map g
  | [], _ => rfl
  | a :: l, h => by
    rw [List.filterMap_cons, h a (List.mem_cons_self ..), List.map_cons]
    simp only
    rw [fm_map fun k hk => h k (List.mem_cons_of_mem _ hk)]
theorem range_rev (l : List Value) : (List.range l.length).map (fun k => l.getD (l.length - 1 - k) .none) = l.reverse := by
  refine List.ext_getElem (by simp) fun i h1 h2 => ?_
  simp at h1
  rw [List.getElem_reverse]
  simp only [List.getElem_map, List.getElem_range, List.getD_eq_getElem?_getD]
  rw [List.getElem?_eq_getElem (by omega)]
  rfl
theorem range_neg (n : Nat) : sliceRange ((n : Int) - 1) (-1) (-1) = (List.range n).map fun k => n - 1 - k := by
  cases n with
  | zero => rfl
  | succ n =>
    have e1 : (((n + 1 : Nat) : Int) - 1 - (-1) - (-1) - 1) / - (-1) = ((n + 1 : Nat) : Int) := by
      rw [show (- -1 : Int) = 1 from rfl, Int.ediv_one]
      omega
    unfold sliceRange
    simp only
    rw [if_neg (by decide), if_pos (by omega), e1, Int.toNat_natCast]
    refine List.map_congr_left fun k hk => ?_
    have := List.mem_range.mp hk
    omega
theorem pick_rev (its : List Value) : slicePick its.toArray none none (some (-1)) = its.reverse.toArray := by
  unfold slicePick
  have e : ∀ n : Nat, sliceBounds none none (some (-1)) n = ((n : Int) - 1, -1, -1) := fun n => rfl
  rw [e]
  simp only
  rw [List.size_toArray, range_neg, List.filterMap_map, ← range_rev]
  congr 1
  refine fm_map fun k hk => ?_
  have := List.mem_range.mp hk
  show its.toArray[its.length - 1 - k]? = _
  rw [List.getElem?_toArray, List.getElem?_eq_getElem (by omega), List.getD_eq_getElem?_getD, List.getElem?_eq_getElem (by omega)]
  rfl
def revD : D → Option D
  | .lst xs => some (.lst xs.reverse)
  | _ => none
def evRev (fa : Rho → M D) : Rho → M D := fun ρ => do let x ← fa ρ; M.opt (revD x)
section
variable {X : Cx} {g : Gh} {a : Expr} {fa : Rho → M D} {pos p1 p2 p3 : Pos}
theorem RepAll.rev {F : Hp} : ∀ {vs : List V} {ds : List D}, RepAll g F vs ds → RepAll g F vs.reverse ds.reverse
  | [], [], .nil => .nil
  | v :: vs, d :: ds, .cons r rs => by
    rw [List.reverse_cons, List.reverse_cons]
    exact rs.rev.append (.cons r .nil)
theorem de_rev (ha : PE X a (RdP g fa)) {k : Nat} : PE X (.Subscript a (.Slice none none (some (.UnaryOp .USub (.Constant (.int 1) k p1) p2)) p3) pos) (RdV g (evRev fa)) := by
  refine ⟨fun pins s σ H Q I ⟨F0, H0, F, ρ, n, d, n', e, m, kk⟩ => ?_⟩
  obtain ⟨x, n1, e1, e2⟩ := M.bind_some e
  obtain ⟨e3, e4⟩ := M.opt_ok e2
  simp only at e3 e4
  subst e4
  refine Subscript_ (thn (ha.run pins s σ H _ I ⟨F0, H0, F, ρ, n, x, _, e1, m, fun v F' H' gr s P r => (⟨F', gr, s, P, r⟩ : ∃ F', Grow g F H F' H' ∧ Same F' (vis g H') ∧ PoolAt g _ H' ∧ PRep g F' H' v x)⟩) fun v s1 ⟨x1, H1, I1, r1, F1, g1, sm1, P1, rr⟩ => ?_)
  cases x <;> simp only [revD, reduceCtorEq] at e3
  cases e3
  obtain ⟨al, vs, rfl, hx, ra⟩ := rr.lstE sm1
  cases r1
  refine wpAny_Slice ?_
  rw [evalPart_none]
  refine wpAny_pure (wpAny_pure ?_)
  rw [evalPart_some]
  refine thn ((pe_un (X := X) (a := .Constant (.int 1) k p1) (pos := p2) un_neg pe_int).run pins s1 σ H1 (fun y H2 => y = .int (-1) ∧ H2 = H1) I1 ⟨1, rfl, rfl, rfl⟩) fun u s2 ⟨y, H2, I2, r2, qy, qh⟩ => ?_
  subst qy qh
  obtain ⟨t, rfl⟩ := r2
  have I4 : Inv X pins σ H2 { s2 with heap := s2.heap.push { cls := .type "slice", data := .fields #[.none, .none, .int (-1) t] } } := I2.kept (t' := s2.toks) fun b ob q => Heap.get?_push_of_some _ q
  obtain ⟨its, r, ht, hz⟩ := I4.list (.of hx)
  have hlen := r.length
  refine tail_any (ops := [.ref al, .ref s2.heap.objs.size]) ht.isList.typeIs slot_list_getitem.lookup ?_ (by with_unfolding_all rfl)
  refine wpAny_getItem_list_slice ht.isList (Heap.IsSliceOf.new ..) .none .none (.int (-1) t) (by simp) ?_ (by rw [List.size_toArray] <;> omega)
  rw [pick_rev]
  have rv : Vals vs.reverse its.reverse := by
    clear hlen hz ht hx ra
    induction r with
    | nil => exact .nil
    | cons a b ih =>
      rw [List.reverse_cons, List.reverse_cons]
      exact ih.append (.cons a .nil)
  refine ⟨.ref _, _, I4.laid (t' := s2.toks) (o := .lst vs.reverse) (fun b ob q => Heap.get?_push_of_some _ q) (Nat.le_refl _) ?_, rfl, ?_⟩
  · exact ⟨by rw [List.length_reverse]; omega, _, 0, rv, Heap.get?_push_size _ rfl⟩
  · exact (OpOk.lst sm1 P1 (fun v F' H' (g4 : Grow g F1 H2 F' H') s4 P4 r4 => kk v F' H' (g1.trans g4) s4 P4 r4) ra.rev (I4.hok.fresh (Nat.le_refl _)))
end
end Ev

set_option Elab.async false
set_option linter.all false
set_option autoImplicit false
set_option maxRecDepth 100000
/-! Ev6: the small syntax, what of the text it stands for, its evaluation. -/
namespace Ev
open PySem PySem.Spec PyProof.Rows L2

inductive Bi where
  | len | all | any | sum | max | min | int | str | tuple
  deriving DecidableEq
inductive Bf where
  | list | sorted
  deriving DecidableEq
mutual
def beqD : D → D → Bool
  | .none, .none => true
  | .bool a, .bool b => decide (a = b)
  | .int a, .int b => decide (a = b)
  | .str a, .str b => decide (a = b)
  | .tup a, .tup b => beqDs a b
  | .lst a, .lst b => beqDs a b
  | .pool, .pool => true
  | .scr a, .scr b => decide (a = b)
  | .dict a b, .dict c d => beqDs a c && beqDs b d
  | .clo n a, .clo m b => decide (n = m) && beqDs a b
  | .obj n x a, .obj m y b => decide (n = m) && decide (x = y) && beqDs a b
  | _, _ => false
def beqDs : List D → List D → Bool
  | [], [] => true
  | x :: xs, y :: ys => beqD x y && beqDs xs ys
  | _, _ => false
end
mutual
theorem beqD_of : ∀ {x y : D}, beqD x y = true → x = y
  | .none, .none, _ => rfl
  | .bool a, .bool b, h => by simp only [beqD, decide_eq_true_eq] at h; rw [h]
  | .int a, .int b, h => by simp only [beqD, decide_eq_true_eq] at h; rw [h]
  | .str a, .str b, h => by simp only [beqD, decide_eq_true_eq] at h; rw [h]
  | .tup a, .tup b, h => by simp only [beqD] at h; rw [beqDs_of h]
  | .lst a, .lst b, h => by simp only [beqD] at h; rw [beqDs_of h]
  | .pool, .pool, _ => rfl
  | .scr a, .scr b, h => by simp only [beqD, decide_eq_true_eq] at h; rw [h]
  | .dict a b, .dict c d, h => by simp only [beqD, Bool.and_eq_true] at h; rw [beqDs_of h.1, beqDs_of h.2]
  | .clo n a, .clo m b, h => by simp only [beqD, Bool.and_eq_true, decide_eq_true_eq] at h; rw [h.1, beqDs_of h.2]
  | .obj n x a, .obj m y b, h => by simp only [beqD, Bool.and_eq_true, decide_eq_true_eq] at h; rw [h.1.1, h.1.2, beqDs_of h.2]
theorem beqDs_of : ∀ {x y : List D}, beqDs x y = true → x = y
  | [], [], _ => rfl
  | x :: xs, y :: ys, h => by simp only [beqDs, Bool.and_eq_true] at h; rw [beqD_of h.1, beqDs_of h.2]
end
mutual
theorem beqD_refl : ∀ x : D, beqD x x = true
  | .none => rfl
  | .bool a => by simp [beqD]
  | .int a => by simp [beqD]
  | .str a => by simp [beqD]
  | .tup a => by simp [beqD, beqDs_refl a]
  | .lst a => by simp [beqD, beqDs_refl a]
  | .pool => rfl
  | .scr a => by simp [beqD]
  | .dict a b => by simp [beqD, beqDs_refl a, beqDs_refl b]
  | .clo n a => by simp [beqD, beqDs_refl a]
  | .obj n x a => by simp [beqD, beqDs_refl a]
theorem beqDs_refl : ∀ x : List D, beqDs x x = true
  | [] => rfl
  | x :: xs => by simp [beqDs, beqD_refl x, beqDs_refl xs]
end
instance : DecidableEq D := fun x y => if h : beqD x y = true then .isTrue (beqD_of h) else .isFalse fun e => h (by rw [e]; exact beqD_refl y)
mutual
inductive E where
  | var (i : Nat) | pk (i : Nat)
  | int (i : Int) | bool (b : Bool) | none | str (s : Str)
  | glob (x : Str) (d : D)
  | tup (es : Es) | lst (es : Es)
  | bin (o : BinO) (a b : E)
  | neg (a : E) | not (a : E)
  | and (es : Es) | or (es : Es)
  | cmp (o : CmpO) (a b : E)
  | chain (o o' : CmpO) (a b c : E)
  | ite (c a b : E)
  | ix (a b : E)
  | slU (a hi : E) | slL (a lo : E) | slLU (a lo hi : E) | slA (a : E) | rev (a : E)
  | bi (b : Bi) (es : Es)
  | bf (b : Bf) (es : Es)
  | isi (t : TyK) (a : E)
  | upper (a : E)
  | call (f : Nat) (es : Es)
  | lc (own : List (Str × Nat)) (t : Tgt) (it : It) (cond : Es) (elt : E)
  | lc2 (own : List (Str × Nat)) (t : Tgt) (it : It) (cond : Es) (t1 : Tgt) (it1 : It) (cond1 : Es) (elt : E)
  | dc (own : List (Str × Nat)) (t : Tgt) (it : It) (cond : Es) (key val : E)
  | d0 | d1 (k v : E)
  | mk (b : Mk) (a d : E)
  | l2 (c : Bool) (a b : E)
  | tupRg1 (a : E) | tupRg2 (a b : E) | lstRg1 (a : E) | lstRg2 (a b : E)
  /-- a call of a lambda; of a def that gets lambdas; a lambda, a local name of one (as arguments alone) -/
  | callv (f : E) (es : Es) | callL (f : Nat) (es : Es)
  | lam (j : Nat) (caps : List Nat) (nc : Nat) (N ps : List Str) (e : E) | lloc (i j : Nat) (caps : List Nat)
  /-- attributes, methods -/
  | fld (x : Str) (cs : List Nat) (a : E) | fldS (i : Nat) (x : Str) (cs : List Nat)
  | meth (x : Str) (tb : List (Nat × Nat)) (a : E) (es : Es)
  /-- what is never come to -/
  | bad
  deriving DecidableEq
inductive Es where
  | nil | cons (e : E) (es : Es)
  deriving DecidableEq
inductive It where
  | seq (e : E) | range1 (a : E) | range2 (a b : E) | zip (a b : E) | enum (e : E)
  deriving DecidableEq
end
/-- a lambda: how many names are captured, its names, its parameters, its body -/
structure LD where
  nc : Nat
  N : List Str
  ps : List Str
  e : E
  deriving DecidableEq
mutual
inductive S where
  | ret (e : E) | asg (t : Tgt) (e : E) | own (i : Nat) (e : E)
  | app (i : Nat) (e : E) | set (i : Nat) (a e : E) | aug (i : Nat) (o : BinO) (e : E) | augIx (i : Nat) (o : BinO) (a e : E) | drop (e : E)
  | ite (c : E) (a b : Ss) | for_ (t : Tgt) (it : It) (b : Ss) | while_ (c : E) (b : Ss)
  | pass | brk | cont
  | lamS (i j : Nat) (caps : List Nat) (nc : Nat) (N ps : List Str) (e : E) | retL (j : Nat) (caps : List Nat) (nc : Nat) (N ps : List Str) (e : E)
  | setf (x : Str) (cs : List Nat) (e : E) | ext (i : Nat) (e : E)
  | bad
inductive Ss where
  | nil | cons (s : S) (ss : Ss) | frz (i : Nat) (ss : Ss)
  | bad
end

/-! ### evaluation -/
def Bi.op : Bi → List D → Option D
  | .len => lenA | .all => allD | .any => anyD | .sum => sumD | .max => maxD | .min => minD | .int => intD | .str => strD | .tuple => tupleD
def Bf.op : Bf → List D → Option (List D)
  | .list => listA | .sorted => sortedA
mutual
def ev (C : Nat → List D → M D) : E → Rho → M D
  | .var i => getV i
  | .pk i => getP i
  | .int i => cst (.int i)
  | .bool b => cst (.bool b)
  | .none => cst .none
  | .str s => cst (.str s)
  | .glob _ d => cst d
  | .tup es => evTup (evs C es)
  | .lst es => evLst (evs C es)
  | .bin o a b => evBin o (ev C a) (ev C b)
  | .neg a => evNeg (ev C a)
  | .not a => evNot (ev C a)
  | .and es => evAnds C es
  | .or es => evOrs C es
  | .cmp o a b => evCmp o (ev C a) (ev C b)
  | .chain o o' a b c => evChain o o' (ev C a) (ev C b) (ev C c)
  | .ite c a b => evIf (tst (ev C c)) (ev C a) (ev C b)
  | .ix a b => evIx (ev C a) (ev C b)
  | .slU a h => evSl (ev C a) evNoPart (evPart (ev C h))
  | .slL a l => evSl (ev C a) (evPart (ev C l)) evNoPart
  | .slLU a l h => evSl (ev C a) (evPart (ev C l)) (evPart (ev C h))
  | .slA a => evSl (ev C a) evNoPart evNoPart
  | .rev a => evRev (ev C a)
  | .bi b es => evB b.op (evs C es)
  | .bf b es => evBL b.op (evs C es)
  | .isi t a => evIsi t (ev C a)
  | .upper a => evUpper (ev C a)
  | .call f es => evC (C f) (evs C es)
  | .lc own t it c e => evLc (own.map (·.2)) t (evI C it) (evCond C c) (ev C e)
  | .lc2 own t it c t1 it1 c1 e => evLc2 (own.map (·.2)) t (evI C it) (evCond C c) t1.slots t1 (evI C it1) (evCond C c1) (ev C e)
  | .dc own t it c k v => evDc (own.map (·.2)) t (evI C it) (evCond C c) (ev C k) (ev C v)
  | .d0 => evD0
  | .d1 k v => evD1 (ev C k) (ev C v)
  | .mk b a d => evMk b (evCons (ev C a) evNil) (ev C d)
  | .l2 c a b => evL2 (if c then catLD else repLD) (ev C a) (ev C b)
  | .tupRg1 a => evTupRg ev0 (ev C a)
  | .tupRg2 a b => evTupRg (ev C a) (ev C b)
  | .lstRg1 a => evLstRg ev0 (ev C a)
  | .lstRg2 a b => evLstRg (ev C a) (ev C b)
  | .callv f es => evCV C (ev C f) (evs C es)
  | .callL f es => evCL (C f) (evs C es)
  | .lam j caps _ _ _ _ => evLam j caps
  | .lloc i j caps => evLoc i j caps
  | .fld x cs a => evFld x cs (ev C a)
  | .fldS i x cs => evFldS i x cs
  | .meth x tb a es => evMeth C x tb (ev C a) (evs C es)
  | .bad => fun _ => M.fail
def evs (C : Nat → List D → M D) : Es → Rho → M (List D)
  | .nil => evNil
  | .cons e es => evCons (ev C e) (evs C es)
def evAnds (C : Nat → List D → M D) : Es → Rho → M D
  | .nil => fun _ => M.fail
  | .cons e .nil => ev C e
  | .cons e (.cons e' es) => evAnd (ev C e) (evAnds C (.cons e' es))
def evOrs (C : Nat → List D → M D) : Es → Rho → M D
  | .nil => fun _ => M.fail
  | .cons e .nil => ev C e
  | .cons e (.cons e' es) => evOr (ev C e) (evOrs C (.cons e' es))
def evI (C : Nat → List D → M D) : It → Rho → M (List D)
  | .seq e => evItems (ev C e)
  | .range1 a => evIt range1D (evCons (ev C a) evNil)
  | .range2 a b => evIt range2D (evCons (ev C a) (evCons (ev C b) evNil))
  | .zip a b => evIt zipD (evCons (ev C a) (evCons (ev C b) evNil))
  | .enum e => evIt enumD (evCons (ev C e) evNil)
def evCond (C : Nat → List D → M D) : Es → Rho → M Bool
  | .nil => evYes
  | .cons e .nil => tst (ev C e)
  | _ => fun _ => M.fail
end
mutual
def xS (C : Nat → List D → M D) : S → Rho → M Out
  | .ret e => xRet (ev C e)
  | .asg t e => xAsg t (ev C e)
  | .own i e => xOwn i (ev C e)
  | .app i e => xApp i (ev C e)
  | .set i a e => xSetA i (ev C a) (ev C e)
  | .aug i o e => xAug i o (ev C e)
  | .augIx i o a e => xAugIx i o (ev C a) (ev C e)
  | .drop e => xDrop (ev C e)
  | .ite c a b => xIf (tst (ev C c)) (xSs C a) (xSs C b)
  | .for_ t it b => xFor t (evI C it) (xSs C b)
  | .while_ c b => xWhile (tst (ev C c)) (xSs C b)
  | .pass => xNext
  | .brk => xBreak
  | .cont => xCont
  | .lamS i j _ _ _ _ _ => xLam i j
  | .retL j caps _ _ _ _ => xRetL j caps
  | .setf x cs e => xSetF x cs (ev C e)
  | .ext i e => xExt i (ev C e)
  | .bad => fun _ => M.fail
def xSs (C : Nat → List D → M D) : Ss → Rho → M Out
  | .nil => xNext
  | .cons s ss => xSeq (xS C s) (xSs C ss)
  | .frz i ss => xSeq (xFrz i) (xSs C ss)
  | .bad => fun _ => M.fail
end

/-! ### the text -/
structure Stt where
  fns : List (Nat × Str)
  cns : List (Str × D)
  /-- the def makes lambdas -/
  mkr : Bool
  lams : List (Nat × LD)
  flds : List (Str × List Nat)
  mths : List (Str × List (Nat × Nat))
def Stt.off (St : Stt) : Stt := { St with mkr := false }
def Stt.on (St : Stt) : Stt := { St with mkr := true }
mutual
def sameD : D → D → Bool
  | .none, .none => true
  | .bool a, .bool b => a == b
  | .int a, .int b => decide (a = b)
  | .str a, .str b => decide (a = b)
  | .tup a, .tup b => sameDs a b
  | _, _ => false
def sameDs : List D → List D → Bool
  | [], [] => true
  | x :: xs, y :: ys => sameD x y && sameDs xs ys
  | _, _ => false
end
mutual
theorem sameD_eq : ∀ {x y : D}, sameD x y = true → x = y
  | .none, .none, _ => rfl
  | .bool a, .bool b, h => by simp only [sameD, beq_iff_eq] at h; rw [h]
  | .int a, .int b, h => by simp only [sameD, decide_eq_true_eq] at h; rw [h]
  | .str a, .str b, h => by simp only [sameD, decide_eq_true_eq] at h; rw [h]
  | .tup a, .tup b, h => by simp only [sameD] at h; rw [sameDs_eq h]
theorem sameDs_eq : ∀ {x y : List D}, sameDs x y = true → x = y
  | [], [], _ => rfl
  | x :: xs, y :: ys, h => by simp only [sameDs, Bool.and_eq_true] at h; rw [sameD_eq h.1, sameDs_eq h.2]
end
def visB (sc : Scope) (x : Str) : Bool := match sc.names.lookup x with
  | some .local => true
  | some .cell => true
  | some .free => true
  | _ => false
def locB (sc : Scope) (x : Str) : Bool := match sc.names.lookup x with
  | some .local => true
  | some .cell => true
  | _ => false
def glB (sc : Scope) (x : Str) : Bool := match sc.names.lookup x with
  | some .globalImplicit => true
  | _ => false
def nmB (x : Str) : Bool := !(x == ("__debug__" : Str)) && !(x == ("__classdict__" : Str)) && !(x == ("" : Str))
def Bi.nm : Bi → String
  | .len => "len" | .all => "all" | .any => "any" | .sum => "sum" | .max => "max" | .min => "min" | .int => "int" | .str => "str" | .tuple => "tuple"
def Bf.nm : Bf → String
  | .list => "list" | .sorted => "sorted"
def biNames : List Str := ["len", "all", "any", "sum", "max", "min", "int", "str", "tuple", "list", "sorted", "bool", "isinstance", "range", "zip", "enumerate", "dict"]
def E.isV : E → Bool
  | .pk _ => false
  | _ => true
def E.isF : E → Bool
  | .lst _ => true
  | .bf _ _ => true
  | .lc _ _ _ _ _ => true
  | .lc2 _ _ _ _ _ _ _ _ => true
  | .dc _ _ _ _ _ _ => true
  | .d0 => true
  | .d1 _ _ => true
  | .lstRg1 _ => true
  | .l2 _ _ _ => true
  | .lstRg2 _ _ => true
  | _ => false
def mNs (N : List Str) (sc : Scope) : List Nat → List Expr → Bool
  | [], [] => true
  | i :: is, .Name x _ :: es => decide (N[i]? = some x) && locB sc x && mNs N sc is es
  | _, _ => false
def mT (N : List Str) (sc : Scope) : Tgt → Expr → Bool
  | .nm i, .Name x _ => decide (N[i]? = some x) && locB sc x
  | .tp t u, .Tuple [a, b] _ _ => mT N sc t a && mT N sc u b
  | .tp3 t u v, .Tuple [a, b, c] _ _ => mT N sc t a && mT N sc u b && mT N sc v c
  | .tn is, .Tuple es _ _ => mNs N sc is es
  | _, _ => false
def isTupE : Expr → Bool
  | .Tuple _ _ _ => true
  | _ => false
def isiArgs : List Expr → List Keyword → Option (Expr × Str)
  | [y, .Name z _], [] => some (y, z)
  | _, _ => none
theorem isiArgs_some {as : List Expr} {kws : List Keyword} {y : Expr} {z : Str} (h : isiArgs as kws = some (y, z)) : ∃ p, as = [y, .Name z p] ∧ kws = [] := by
  unfold isiArgs at h
  split at h
  · cases h; exact ⟨_, rfl, rfl⟩
  · cases h
def lcGens : List Comprehension → Option (Expr × Expr × List Expr)
  | [⟨tg, iter, ifs, 0⟩] => some (tg, iter, ifs)
  | _ => none
theorem lcGens_some {gs : List Comprehension} {tg iter : Expr} {ifs : List Expr} (h : lcGens gs = some (tg, iter, ifs)) : gs = [⟨tg, iter, ifs, 0⟩] := by
  unfold lcGens at h
  split at h
  · cases h; rfl
  · cases h
def lcGens2 : List Comprehension → Option ((Expr × Expr × List Expr) × (Expr × Expr × List Expr))
  | [⟨tg, iter, ifs, 0⟩, ⟨tg1, iter1, ifs1, 0⟩] => some ((tg, iter, ifs), (tg1, iter1, ifs1))
  | _ => none
theorem lcGens2_some {gs : List Comprehension} {tg iter tg1 iter1 : Expr} {ifs ifs1 : List Expr} (h : lcGens2 gs = some ((tg, iter, ifs), (tg1, iter1, ifs1))) : gs = [⟨tg, iter, ifs, 0⟩, ⟨tg1, iter1, ifs1, 0⟩] := by
  unfold lcGens2 at h
  split at h
  · cases h; rfl
  · cases h
/-- f(range(a)), f(range(a, b)) -/
def rgArgs1 : List Expr → List Keyword → Option (Str × Expr)
  | [.Call (.Name x _) [a] [] _], [] => some (x, a)
  | _, _ => none
theorem rgArgs1_some {as : List Expr} {ks : List Keyword} {x : Str} {a : Expr} (h : rgArgs1 as ks = some (x, a)) : ∃ p pos, as = [.Call (.Name x p) [a] [] pos] ∧ ks = [] := by
  unfold rgArgs1 at h
  split at h
  · cases h; exact ⟨_, _, rfl, rfl⟩
  · cases h
def rgArgs2 : List Expr → List Keyword → Option (Str × Expr × Expr)
  | [.Call (.Name x _) [a, b] [] _], [] => some (x, a, b)
  | _, _ => none
theorem rgArgs2_some {as : List Expr} {ks : List Keyword} {x : Str} {a b : Expr} (h : rgArgs2 as ks = some (x, a, b)) : ∃ p pos, as = [.Call (.Name x p) [a, b] [] pos] ∧ ks = [] := by
  unfold rgArgs2 at h
  split at h
  · cases h; exact ⟨_, _, rfl, rfl⟩
  · cases h
def kwOne : List Keyword → Option (Str × Expr)
  | [⟨some n, c, _⟩] => some (n, c)
  | _ => none
theorem kwOne_some {ks : List Keyword} {n : Str} {c : Expr} (h : kwOne ks = some (n, c)) : ∃ kp, ks = [⟨some n, c, kp⟩] := by
  unfold kwOne at h
  split at h
  · cases h; exact ⟨_, rfl⟩
  · cases h
def dOne : List (Option Expr) → List Expr → Option (Expr × Expr)
  | [some k], [v] => some (k, v)
  | _, _ => none
theorem dOne_some {ks : List (Option Expr)} {vs : List Expr} {k v : Expr} (h : dOne ks vs = some (k, v)) : ks = [some k] ∧ vs = [v] := by
  unfold dOne at h
  split at h
  · cases h; exact ⟨rfl, rfl⟩
  · cases h
def isNeg1 : Expr → Bool
  | .UnaryOp .USub (.Constant (.int i) _ _) _ => decide (i = 1)
  | _ => false
theorem isNeg1_some {z : Expr} (h : isNeg1 z = true) : ∃ k p1 p2, z = .UnaryOp .USub (.Constant (.int 1) k p1) p2 := by
  unfold isNeg1 at h
  split at h
  · have := of_decide_eq_true h
    subst this
    exact ⟨_, _, _, rfl⟩
  · cases h
def isLC : Expr → Bool
  | .ListComp _ _ _ _ => true
  | .SetComp _ _ _ _ => true
  | .DictComp _ _ _ _ _ => true
  | _ => false
/-! what rfl sees of an expression's form -/
def goodX : Expr → Bool
  | .Starred _ _ => false
  | .Set _ _ _ => false
  | .Slice _ _ _ _ => false
  | _ => true
/-- a name or a call with arguments, to be called -/
def isCee : Expr → Bool
  | .Name _ _ => true
  | .Call _ _ _ _ => true
  | _ => false
/-- one, two, three parameters, nothing else -/
def parB (ps : List Str) (p : Arguments) : Bool := match p with
  | ⟨[], [a], none, [], [], none, []⟩ => decide (ps = [a.arg])
  | ⟨[], [a, b], none, [], [], none, []⟩ => decide (ps = [a.arg, b.arg]) && !decide (a.arg = b.arg)
  | _ => false
def lscB (N caps ps : List Str) (sc : Scope) : Bool :=
  decide (sc.kind = .function) && !sc.isCoroutine && !sc.isGenerator && decide N.Nodup && decide (N.take (caps.length + ps.length) = caps ++ ps) && (ps.all fun x => decide (sc.names.lookup x = some .local) || decide (sc.names.lookup x = some .cell)) &&
    decide (sc.names.map (·.1)).Nodup && (caps.all fun x => decide (sc.names.lookup x = some .free)) && (sc.names.all fun y => !decide (y.2 = .free) || caps.contains y.1)
def celB (sc : Scope) (x : Str) : Bool := decide (sc.names.lookup x = some .cell) || decide (sc.names.lookup x = some .free)
/-- the captured names are cells here -/
def capB (N : List Str) (sc : Scope) (caps : List Nat) (ns : List Str) : Bool := decide (caps.map (fun i => N[i]?) = ns.map some) && ns.all (celB sc)
def lamC (St : Stt) (N : List Str) (sc : Scope) (j : Nat) (caps : List Nat) (nc : Nat) (N' ps : List Str) (e : E) (p : Arguments) (scope : Scope) : Bool :=
  decide (St.lams.lookup j = some ⟨nc, N', ps, e⟩) && capB N sc caps (N'.take nc) && parB ps p && lscB N' (N'.take nc) ps scope && e.isV
mutual
def mE (St : Stt) (N : List Str) : Scope → E → Expr → Bool
  | sc, .var i, .Name x _ => decide (N[i]? = some x) && visB sc x && nmB x
  | sc, .pk i, .Name x _ => decide (N[i]? = some x) && visB sc x && nmB x
  | _, .int i, .Constant (.int j) _ _ => decide (i = j)
  | _, .bool i, .Constant (.bool j) _ _ => decide (i = j)
  | _, .none, .Constant .none _ _ => true
  | _, .str i, .Constant (.str j) _ _ => decide (i = j)
  | sc, .glob y d, .Name x _ => decide (y = x) && (St.cns.any fun p => decide (p.1 = y) && sameD p.2 d) && glB sc x && nmB x
  | sc, .tup es, .Tuple as _ _ => mEs St N sc es as
  | sc, .lst es, .List as _ => mEs St N sc es as
  | sc, .bin o a b, .BinOp x op y _ => decide (o.py = op) && mE St N sc a x && mE St N sc b y
  | sc, .neg a, .UnaryOp .USub x _ => a.isV && mE St N sc a x
  | sc, .not a, .UnaryOp .Not x _ => a.isV && mE St N sc a x
  | sc, .and es, .BoolOp .And as _ => mEs St N sc es as && !as.isEmpty
  | sc, .or es, .BoolOp .Or as _ => mEs St N sc es as && !as.isEmpty
  | sc, .cmp o a b, .Compare x [op] [y] _ => decide (o.py = op) && mE St N sc a x && mE St N sc b y && !behindInMarks op y
  | sc, .chain o o' a b c, .Compare x [op, op'] [y, z] _ => decide (o.py = op) && decide (o'.py = op') && mE St N sc a x && mE St N sc b y && mE St N sc c z && !lastMarks [op, op'] [y, z]
  | sc, .ite c a b, .IfExp z x y _ => mE St N sc c z && a.isV && mE St N sc a x && b.isV && mE St N sc b y
  | sc, .ix a b, .Subscript x y _ => mE St N sc a x && mE St N sc b y
  | sc, .slU a h, .Subscript x (.Slice .none (some z) .none _) _ => mE St N sc a x && mE St N sc h z
  | sc, .slL a l, .Subscript x (.Slice (some y) .none .none _) _ => mE St N sc a x && mE St N sc l y
  | sc, .slLU a l h, .Subscript x (.Slice (some y) (some z) .none _) _ => mE St N sc a x && mE St N sc l y && mE St N sc h z
  | sc, .slA a, .Subscript x (.Slice .none .none .none _) _ => mE St N sc a x
  | sc, .rev a, .Subscript x (.Slice .none .none (some z) _) _ => isNeg1 z && mE St N sc a x
  | sc, .bi b es, .Call (.Name x _) as [] _ => decide (x = Str.ofString b.nm) && glB sc x && mPs St N sc es as && !as.isEmpty
  | sc, .bf b es, .Call (.Name x _) as [] _ => decide (x = Str.ofString b.nm) && glB sc x && mPs St N sc es as && !as.isEmpty
  | sc, .isi t a, .Call (.Name x _) as kws _ => match isiArgs as kws with
    | some (y, z) => decide (x = Str.ofString "isinstance") && glB sc x && mE St N sc a y && decide (z = Str.ofString t.name) && glB sc z
    | none => false
  | sc, .upper a, .Call (.Attribute x m ap) [] [] cp => decide (m = Str.ofString "upper") && (match x with | .Call _ _ _ _ => false | _ => true) && mE St N sc a x && (ap.endLine == cp.line)
  | sc, .call f es, .Call (.Name x _) as [] _ => decide (St.fns.lookup f = some x) && glB sc x && nmB x && mEs St N sc es as
  | sc, .lc own t it c elt, .ListComp x gens scope _ => match lcGens gens with
    | some (tg, iter, ifs) => blkC N sc scope own && (t.slots.all fun i => (own.map (·.2)).contains i) && mI St N sc it tg iter && mT N scope t tg && mPs St.off N (relS scope sc) c ifs && decide (ifs.length ≤ 1) && elt.isV && mE St.off N (relS scope sc) elt x
    | none => false
  | sc, .lc2 own t it c t1 it1 c1 elt, .ListComp x gens scope _ => match lcGens2 gens with
    | some ((tg, iter, ifs), (tg1, iter1, ifs1)) => blkC N sc scope own && (t.slots.all fun i => (own.map (·.2)).contains i) && (t1.slots.all fun i => (own.map (·.2)).contains i) && mI St N sc it tg iter && mT N scope t tg && mPs St.off N (relS scope sc) c ifs && decide (ifs.length ≤ 1) && mI St.off N (relS scope sc) it1 tg1 iter1 && mT N scope t1 tg1 && mPs St.off N (relS scope sc) c1 ifs1 && decide (ifs1.length ≤ 1) && elt.isV && mE St.off N (relS scope sc) elt x
    | none => false
  | sc, .dc own t it c kk vv, .DictComp kx vx gens scope _ => match lcGens gens with
    | some (tg, iter, ifs) => blkC N sc scope own && (t.slots.all fun i => (own.map (·.2)).contains i) && mI St N sc it tg iter && mT N scope t tg && mPs St.off N (relS scope sc) c ifs && decide (ifs.length ≤ 1) && kk.isV && mE St.off N (relS scope sc) kk kx && vv.isV && mE St.off N (relS scope sc) vv vx
    | none => false
  | _, .d0, .Dict [] [] _ => true
  | sc, .d1 kk vv, .Dict ks vs _ => match dOne ks vs with
    | some (k, v) => kk.isV && mE St N sc kk k && vv.isV && mE St N sc vv v
    | none => false
  | sc, .mk b a' d', .Call (.Name x _) [a] kws _ => match kwOne kws with
    | some (n, d) => decide (x = Str.ofString b.nm) && glB sc x && decide (n = Str.ofString "default") && mE St N sc a' a && d'.isV && mE St N sc d' d
    | none => false
  | sc, .l2 c a' b', .BinOp x op y _ => decide (op = if c then .Add else .Mult) && mE St N sc a' x && mE St N sc b' y
  | sc, .tupRg1 a', .Call (.Name x _) as kws _ => match rgArgs1 as kws with
    | some (y, a) => decide (x = Str.ofString "tuple") && glB sc x && decide (y = Str.ofString "range") && glB sc y && a'.isV && mE St N sc a' a
    | none => false
  | sc, .tupRg2 a' b', .Call (.Name x _) as kws _ => match rgArgs2 as kws with
    | some (y, a, b) => decide (x = Str.ofString "tuple") && glB sc x && decide (y = Str.ofString "range") && glB sc y && a'.isV && mE St N sc a' a && b'.isV && mE St N sc b' b
    | none => false
  | sc, .lstRg1 a', .Call (.Name x _) as kws _ => match rgArgs1 as kws with
    | some (y, a) => decide (x = Str.ofString "list") && glB sc x && decide (y = Str.ofString "range") && glB sc y && a'.isV && mE St N sc a' a
    | none => false
  | sc, .lstRg2 a' b', .Call (.Name x _) as kws _ => match rgArgs2 as kws with
    | some (y, a, b) => decide (x = Str.ofString "list") && glB sc x && decide (y = Str.ofString "range") && glB sc y && a'.isV && mE St N sc a' a && b'.isV && mE St N sc b' b
    | none => false
  | sc, .callv f es, .Call x as [] _ => isCee x && f.isV && mE St N sc f x && mEs St N sc es as && !as.isEmpty
  | sc, .callL f es, .Call (.Name x _) as [] _ => St.mkr && decide (St.fns.lookup f = some x) && glB sc x && nmB x && mXs St N sc es as && !as.isEmpty
  | sc, .fld x cs a, .Attribute o y _ => decide (x = y) && decide ((x, cs) ∈ St.flds) && a.isV && mE St N sc a o && baseOk o
  | sc, .fldS i x cs, .Attribute (.Name z _) y _ => decide (x = y) && decide ((x, cs) ∈ St.flds) && decide (N[i]? = some z) && visB sc z && nmB z
  | sc, .meth x tb a es, .Call (.Attribute o y ap) as [] cp => decide (x = y) && decide ((x, tb) ∈ St.mths) && a.isV && mE St N sc a o && baseOk o && mEs St N sc es as && (ap.endLine == cp.line) && decide (as.length < 30)
  | _, .bad, a => goodX a && !isLC a
  | _, _, _ => false
/-- all are values -/
def mEs (St : Stt) (N : List Str) : Scope → Es → List Expr → Bool
  | _, .nil, [] => true
  | sc, .cons e es, a :: as => e.isV && mE St N sc e a && mEs St N sc es as
  | _, _, _ => false
/-- .. or lambdas -/
def mXs (St : Stt) (N : List Str) : Scope → Es → List Expr → Bool
  | _, .nil, [] => true
  | sc, .cons (.lam j caps nc N' ps e) es, .Lambda p body scope _ :: as => lamC St N sc j caps nc N' ps e p scope && mE St.off N' scope e body && mXs St N sc es as
  | sc, .cons (.lloc i j caps) es, .Name x _ :: as => decide (N[i]? = some x) && visB sc x && nmB x && (match St.lams.lookup j with
    | some ld => capB N sc caps (ld.N.take ld.nc)
    | none => false) && mXs St N sc es as
  | sc, .cons e es, a :: as => e.isV && mE St N sc e a && mXs St N sc es as
  | _, _, _ => false
/-- some are looked at -/
def mPs (St : Stt) (N : List Str) : Scope → Es → List Expr → Bool
  | _, .nil, [] => true
  | sc, .cons e es, a :: as => mE St N sc e a && mPs St N sc es as
  | _, _, _ => false
def mI (St : Stt) (N : List Str) : Scope → It → Expr → Expr → Bool
  | sc, .seq e, _, a => e.isV && mE St N sc e a
  | sc, .range1 e, _, .Call (.Name x _) [a] [] _ => decide (x = Str.ofString "range") && glB sc x && e.isV && mE St N sc e a
  | sc, .range2 e e', _, .Call (.Name x _) [a, b] [] _ => decide (x = Str.ofString "range") && glB sc x && e.isV && mE St N sc e a && e'.isV && mE St N sc e' b
  | sc, .zip e e', tg, .Call (.Name x _) [a, b] [] _ => isTupE tg && decide (x = Str.ofString "zip") && glB sc x && e.isV && mE St N sc e a && e'.isV && mE St N sc e' b
  | sc, .enum e, tg, .Call (.Name x _) [a] [] _ => isTupE tg && decide (x = Str.ofString "enumerate") && glB sc x && e.isV && mE St N sc e a
  | _, _, _, _ => false
end
/-- a comprehension that is stored by its own statement -/
def compOf : Expr → Option (Scope × Pos)
  | .ListComp _ _ s p => some (s, p)
  | .DictComp _ _ _ s p => some (s, p)
  | _ => none
def lcSwaps (sc : Scope) (y : Str) (py : Pos) (e : Expr) : Bool := match compOf e with
  | some (s, p) => decide (sc.names.lookup y = some .local) && (py.line == p.line) && !(s.names.any fun (n, k) => n == y && (k == .local || k == .cell))
  | none => false
mutual
def mS (St : Stt) (N : List Str) (sc : Scope) : S → Stmt → Bool
  | .ret e, .Return (some a) _ => e.isV && mE St N sc e a
  | .asg t e, .Assign [tg] a _ => mT N sc t tg && e.isV && mE St N sc e a && !(isTupE tg && isTupE a)
  | .own i e, .Assign [.Name x _] a _ => decide (N[i]? = some x) && locB sc x && e.isF && mE St N sc e a
  | .app i e, .Expr (.Call (.Attribute (.Name x _) m ap) [a] [] cp) _ => decide (N[i]? = some x) && visB sc x && nmB x && decide (m = Str.ofString "append") && e.isV && mE St N sc e a && (ap.endLine == cp.line)
  | .set i b e, .Assign [.Subscript (.Name x _) y _] a _ => decide (N[i]? = some x) && visB sc x && nmB x && b.isV && mE St N sc b y && e.isV && mE St N sc e a
  | .aug i o e, .AugAssign (.Name x _) op a _ => decide (N[i]? = some x) && locB sc x && decide (o.py = op) && (decide (o = .add) || decide (o = .sub)) && e.isV && mE St N sc e a
  | .augIx i o b e, .AugAssign (.Subscript (.Name x _) y _) op a _ => decide (N[i]? = some x) && visB sc x && nmB x && decide (o.py = op) && (decide (o = .add) || decide (o = .sub)) && b.isV && mE St N sc b y && e.isV && mE St N sc e a
  | .drop e, .Expr a _ => e.isV && mE St N sc e a && !isLC a
  | .ite c a b, .If z x y _ => mE St N sc c z && mSs St N sc a x && mSs St N sc b y
  | .for_ t it b, .For tg iter x [] _ => mT N sc t tg && mI St N sc it tg iter && mSs St N sc b x
  | .while_ c b, .While z x [] _ => mE St N sc c z && mSs St N sc b x
  | .pass, .Pass _ => true
  | .brk, .Break _ => true
  | .cont, .Continue _ => true
  | .lamS i j caps nc N' ps e, .Assign [.Name x _] (.Lambda p body scope _) _ => St.mkr && decide (N[i]? = some x) && locB sc x && lamC St N sc j caps nc N' ps e p scope && mE St.off N' scope e body
  | .setf x cs e, .Assign [.Attribute (.Name z _) y _] a _ => decide (x = y) && decide ((x, cs) ∈ St.flds) && decide (N[0]? = some z) && visB sc z && nmB z && e.isV && mE St N sc e a
  | .ext i e, .Expr (.Call (.Attribute (.Name x _) m ap) [a] [] cp) _ => decide (N[i]? = some x) && visB sc x && nmB x && decide (m = Str.ofString "extend") && e.isV && mE St N sc e a && (ap.endLine == cp.line)
  | .bad, _ => true
  | _, _ => false
def mSs (St : Stt) (N : List Str) (sc : Scope) : Ss → List Stmt → Bool
  | .nil, [] => true
  | .cons s ss, a :: as => mS St N sc s a && mSs St N sc ss as
  | .frz _ ss, as => mSs St N sc ss as
  | .bad, _ => true
  | _, _ => false
end
/-- .. that end in a return, maybe of a lambda -/
def mSsR (St : Stt) (N : List Str) (sc : Scope) : Ss → List Stmt → Bool
  | .cons (.retL j caps nc N' ps e) .nil, [.Return (some (.Lambda p body scope _)) _] => lamC St N sc j caps nc N' ps e p scope && mE St.off N' scope e body
  | .cons s ss, a :: as => mS St N sc s a && mSsR St N sc ss as
  | .frz _ ss, as => mSsR St N sc ss as
  | _, _ => false
end Ev

set_option Elab.async false
set_option linter.all false
set_option autoImplicit false
set_option maxRecDepth 100000
/-! Ev7: the small syntax is sound. -/
namespace Ev
open PySem PySem.Spec PyProof.Rows L2

theorem star_of {e : Expr} {es : List Expr} {env : Env} (h : goodX e = true) : starEach (e :: es) env = (false, eval e env) :: starEach es env := by
  cases e <;> first | rfl | cases h
theorem ix_of {e : Expr} (h : goodX e = true) : PlainIx e := by
  cases e <;> first | exact fun _ _ => rfl | cases h
theorem fold_of {e : Expr} {env : Env} (h : goodX e = true) : ∀ x, foldedSetIterable e env x = pure x := by
  cases e <;> first | exact fun _ => rfl | cases h
theorem swaps_of {e : Expr} {tg : Option Expr} {l : Nat} {env : Env} (h : isLC e = false) : swapsWith e tg l env = pure false := by
  cases e <;> first | rfl | cases h
theorem base_of {e : Expr} {m : Str} {env : Env} (h : (match e with | .Call _ _ _ _ => false | _ => true) = true) : attributeBase e m env (eval e env) = eval e env := by
  cases e <;> first | rfl | cases h
def goodT : Expr → Bool
  | .Name _ _ => true
  | .Tuple _ _ _ => true
  | .Subscript _ _ _ => true
  | _ => false
theorem asgEach_of {e : Expr} {es : List Expr} {env : Env} (h : goodT e = true) : (assignEach (e :: es) env).map (·.2) = assign e env :: (assignEach es env).map (·.2) := by
  cases e <;> first | rfl | cases h
theorem asgEach_cons {e : Expr} {es : List Expr} {env : Env} (h : goodT e = true) : assignEach (e :: es) env = (false, assign e env) :: assignEach es env := by
  cases e <;> first | rfl | cases h
theorem truth_of {e : Expr} {env : Env} (h : (match e with | .UnaryOp .Not _ _ => false | .BoolOp _ _ _ => false | .IfExp _ _ _ _ => false | .Compare _ _ _ _ => false | _ => true) = true) : ∀ whole, isTrue e env whole = (do let v ← whole; standAt e.pos; holding [v] (truthy v)) := by
  cases e <;> first
    | exact fun _ => rfl
    | cases h
    | (rename_i op _ _; cases op <;> first | exact fun _ => rfl | cases h)

section
variable {St : Stt} {N : List Str}
theorem good_of {e : E} {sc : Scope} {a : Expr} (h : mE St N sc e a = true) : goodX a = true := by
  cases a with
  | Starred _ _ => cases e <;> cases h
  | Set _ _ _ => cases e <;> cases h
  | Slice _ _ _ _ => cases e <;> cases h
  | _ => rfl
theorem goodT_of {t : Tgt} {sc : Scope} {a : Expr} (h : mT N sc t a = true) : goodT a = true := by
  cases a <;> first | rfl | (cases t <;> simp [mT] at h)
theorem plain_of : ∀ {es : Es} {sc : Scope} {as : List Expr} {env : Env} {pos : Pos}, mEs St N sc es as = true → (backTo pos (starEach as env)).any (·.1) = false
  | .nil, sc, [], env, pos, h => rfl
  | .cons e es, sc, [], env, pos, h => by simp [mEs] at h
  | .nil, sc, a :: as, env, pos, h => by simp [mEs] at h
  | .cons e es, sc, a :: as, env, pos, h => by
    simp only [mEs, Bool.and_eq_true] at h
    rw [star_of (good_of h.1.2)]
    show (false || (backTo pos (starEach as env)).any (·.1)) = false
    rw [plain_of h.2]
    rfl
theorem plainP_of : ∀ {es : Es} {sc : Scope} {as : List Expr} {env : Env} {pos : Pos}, mPs St N sc es as = true → (backTo pos (starEach as env)).any (·.1) = false
  | .nil, sc, [], env, pos, h => rfl
  | .cons e es, sc, [], env, pos, h => by simp [mPs] at h
  | .nil, sc, a :: as, env, pos, h => by simp [mPs] at h
  | .cons e es, sc, a :: as, env, pos, h => by
    simp only [mPs, Bool.and_eq_true] at h
    rw [star_of (good_of h.1)]
    show (false || (backTo pos (starEach as env)).any (·.1)) = false
    rw [plainP_of h.2]
    rfl
end
theorem vis_of {sc : Scope} {x : Str} (h : visB sc x = true) : Vis sc x := by
  unfold visB at h
  unfold Vis
  split at h
  · exact .inl (by assumption)
  · exact .inr (.inl (by assumption))
  · exact .inr (.inr (by assumption))
  · cases h
theorem gl_of {sc : Scope} {x : Str} (h : glB sc x = true) : sc.names.lookup x = some .globalImplicit := by
  unfold glB at h
  split at h
  · assumption
  · cases h
theorem nm_of {x : Str} (h : nmB x = true) : (x == ("__debug__" : Str)) = false ∧ (x == ("__classdict__" : Str)) = false := by
  simp only [nmB, Bool.and_eq_true, Bool.not_eq_true'] at h
  exact h.1
theorem nm_ne {x : Str} (h : nmB x = true) : x ≠ ("" : Str) := by
  simp only [nmB, Bool.and_eq_true, Bool.not_eq_true'] at h
  exact fun e => by rw [e] at h; simp at h

/-! ### lambdas -/
/-- L's text is the lambda ld -/
structure LamTx (St : Stt) (ld : LD) (L : LamT) : Prop where
  caps : L.caps = ld.N.take ld.nc
  sc : LScope ld.N L.caps ld.ps L.scope
  ms : mE St.off ld.N L.scope ld.e L.body = true
  isV : ld.e.isV = true
  bd : ∀ (q : Str) (cl : List (Str × Addr)) (pm cv ctv : Value) (us : List Value), us.length = ld.ps.length → bindArgs (PySem.W.kla_fn "<lambda>" q L.params L.body L.scope cl pm cv ctv) ⟨us, []⟩ = pure (ld.ps.zip us)
def LamP (St : Stt) : Nat → LamT → Prop := fun j L => ∃ ld, St.lams.lookup j = some ld ∧ LamTx St ld L
theorem par_bind1 {a : Arg} {body : Expr} {sc : Scope} {q : Str} {cl : List (Str × Addr)} {pm cv ctv : Value} {u : Value} : bindArgs (PySem.W.kla_fn "<lambda>" q ⟨[], [a], none, [], [], none, []⟩ body sc cl pm cv ctv) ⟨[u], []⟩ = pure ([a.arg].zip [u]) := by
  unfold bindArgs
  simp [PySem.W.kla_fn, seqItems?, List.lookup]
  rfl
theorem par_bind2 {a b : Arg} (h : a.arg ≠ b.arg) {body : Expr} {sc : Scope} {q : Str} {cl : List (Str × Addr)} {pm cv ctv : Value} {u v : Value} : bindArgs (PySem.W.kla_fn "<lambda>" q ⟨[], [a, b], none, [], [], none, []⟩ body sc cl pm cv ctv) ⟨[u, v], []⟩ = pure ([a.arg, b.arg].zip [u, v]) := by
  have h2 : (b.arg == a.arg) = false := by rw [beq_eq_false_iff_ne]; exact h.symm
  unfold bindArgs
  simp [PySem.W.kla_fn, seqItems?, List.lookup, h2]
  rfl
theorem par_bind {ps : List Str} {p : Arguments} (h : parB ps p = true) {body : Expr} {sc : Scope} {q : Str} {cl : List (Str × Addr)} {pm cv ctv : Value} {us : List Value} (hl : us.length = ps.length) : bindArgs (PySem.W.kla_fn "<lambda>" q p body sc cl pm cv ctv) ⟨us, []⟩ = pure (ps.zip us) := by
  unfold parB at h
  split at h
  · simp only [decide_eq_true_eq] at h
    subst h
    match us, hl with
    | [u], _ => exact par_bind1
  · simp only [Bool.and_eq_true, decide_eq_true_eq, Bool.not_eq_true', decide_eq_false_iff_not] at h
    obtain ⟨h, h2⟩ := h
    subst h
    match us, hl with
    | [u, v], _ => exact par_bind2 h2
  · cases h
theorem par_dflt {ps : List Str} {p : Arguments} (h : parB ps p = true) (env : Env) : defaultsOf p env = ([], []) := by
  unfold parB at h
  split at h
  · rfl
  · rfl
  · cases h
theorem lsc_of {N caps ps : List Str} {sc : Scope} (h : lscB N caps ps sc = true) : LScope N caps ps sc := by
  unfold lscB at h
  simp only [Bool.and_eq_true, decide_eq_true_eq, Bool.not_eq_true', List.all_eq_true, Bool.or_eq_true, decide_eq_false_iff_not] at h
  obtain ⟨⟨⟨⟨⟨⟨⟨⟨h1, h2⟩, h3⟩, h4⟩, h5⟩, h6⟩, h7⟩, h8⟩, h9⟩ := h
  refine ⟨h1, h2, h3, h4, h5, h6, h7, h8, fun y hy e => ?_⟩
  rcases h9 y hy with z | z
  · exact absurd e z
  · simpa using z
structure LamC (St : Stt) (N : List Str) (sc : Scope) (j : Nat) (caps : List Nat) (ld : LD) (p : Arguments) (scope : Scope) : Prop where
  at_ : St.lams.lookup j = some ld
  ix : caps.map (fun i => N[i]?) = (ld.N.take ld.nc).map some
  cel : ∀ x ∈ ld.N.take ld.nc, sc.names.lookup x = some .cell ∨ sc.names.lookup x = some .free
  par : parB ld.ps p = true
  lsc : LScope ld.N (ld.N.take ld.nc) ld.ps scope
  isV : ld.e.isV = true
theorem cap_of {N : List Str} {sc : Scope} {caps : List Nat} {ns : List Str} (h : capB N sc caps ns = true) : caps.map (fun i => N[i]?) = ns.map some ∧ ∀ x ∈ ns, sc.names.lookup x = some .cell ∨ sc.names.lookup x = some .free := by
  unfold capB at h
  simp only [Bool.and_eq_true, decide_eq_true_eq, List.all_eq_true] at h
  refine ⟨h.1, fun x hx => ?_⟩
  have := h.2 x hx
  unfold celB at this
  simpa using this
theorem lamC_of {St : Stt} {N : List Str} {sc : Scope} {j : Nat} {caps : List Nat} {nc : Nat} {N' ps : List Str} {e : E} {p : Arguments} {scope : Scope} (h : lamC St N sc j caps nc N' ps e p scope = true) : LamC St N sc j caps ⟨nc, N', ps, e⟩ p scope := by
  unfold lamC at h
  simp only [Bool.and_eq_true, decide_eq_true_eq] at h
  obtain ⟨⟨⟨⟨h1, h2⟩, h3⟩, h4⟩, h5⟩ := h
  obtain ⟨h6, h7⟩ := cap_of h2
  exact ⟨h1, h6, h7, h3, lsc_of h4, h5⟩
/-! ### a body's surroundings -/
structure Sg where
  P : Program
  w : World
  K : PySem.W.Frag
  mg : Str → Option Value
  base : Heap
  g : Gh
  k : Nat
  C : Nat → List D → M D
  St : Stt
  hK : g.K = K
  hw : g.w = w
  bi : ∀ x ∈ biNames, mg x = none
  cn : ∀ x d, (x, d) ∈ St.cns → ∃ v u, mg x = some u ∧ RelV v u ∧ ∀ F : Hp, Rep g F v d
  fn : ∀ (f : Nat) x, St.fns.lookup f = some x → ∃ a, mg x = some (.ref a) ∧ PySem.W.keepIn K (.ref a) = true ∧ CallOk P w K mg base g k (.ref a) (C f)
  lamE : g.lam = LamP St.off
  lamOk : LamOk P w K mg base g k C
  fld : ∀ x cs, (x, cs) ∈ St.flds → FldOk K g x cs
  mth : ∀ x tb, (x, tb) ∈ St.mths → MethOk P w K mg base g k C x tb
def Sg.off (S : Sg) : Sg := { S with St := S.St.off, cn := S.cn, fn := S.fn, lamE := S.lamE, fld := S.fld, mth := S.mth }
/-- a def that makes lambdas -/
structure MkG (g : Gh) (X : Cx) : Prop where
  ok : MkOk g X
  fn : ∀ x, X.fn x = true
  lcl : ∀ L, g.lcl L = cloFrom X.env.cells L.scope.names []

structure Good (S : Sg) (N : List Str) (sc0 sc : Scope) (X : Cx) : Prop where
  prog : X.prog = S.P
  w : X.w = S.w
  K : X.K = S.K
  mg : X.mg = S.mg
  base : X.base = S.base
  hN : X.N = N
  nd : N.Nodup
  hsc : X.env.scope = sc
  st : ∀ x, locB sc0 x = true → L2.Loc sc x ∧ (X.fn x = true ∨ sc.names.lookup x = some .local)
  fk : sc.kind = .function
  calm : X.calm = true
  room : Room S.k X.A
  xe : X.xe = fun _ _ => False
  mkg : S.St.mkr = true → MkG S.g X
section
variable {S : Sg} {N : List Str} {sc0 sc : Scope} {X : Cx}
theorem Good.hK (G : Good S N sc0 sc X) : X.K = S.g.K := G.K.trans S.hK.symm
theorem Good.hw (G : Good S N sc0 sc X) : S.g.w = X.w := S.hw.trans G.w.symm
theorem Good.hu (G : Good S N sc0 sc X) : X.A.units + 66 < cLine := by have := G.room.un; omega
theorem Good.gl (G : Good S N sc0 sc X) {x : Str} (h : glB sc x = true) : Gl X x := by
  show X.env.scope.names.lookup x = _
  rw [G.hsc]
  exact gl_of h
theorem Good.bi (G : Good S N sc0 sc X) {x : Str} (h : x ∈ biNames) : X.mg x = none := by rw [G.mg]; exact S.bi x h
theorem loc_of {sc : Scope} {x : Str} (h : locB sc x = true) : Loc sc x := by
  unfold locB at h
  unfold L2.Loc
  split at h
  · exact .inl (by assumption)
  · exact .inr (by assumption)
  · cases h
theorem Good.blk (G : Good S N sc0 sc X) {scope : Scope} {own : List (Str × Nat)} (hb : blkC N sc scope own = true) (s : Shared) (H : Hp) (C : Addr) (cl : List (Str × Addr)) (fp : List Addr) :
    Good S.off N scope (relS scope sc) (X.blk s H scope (compEnvC scope cl C X.env) fp) := by
  have hk : scope.kind = .function := (blkOk_by hb).kind
  refine ⟨G.prog, G.w, G.K, G.mg, G.base, G.hN, G.nd, ?_, fun x h => ?_, hk, G.calm, G.room, rfl, fun z => nomatch z⟩
  · show relS scope X.env.scope = _
    rw [G.hsc]
  · have q := loc_of h
    rcases q with q | q
    · have := lookup_relS_keep (sc := sc) (by decide) q
      exact ⟨.inl this, .inr this⟩
    · have := lookup_relS_keep (sc := sc) (by decide) q
      refine ⟨.inr this, .inl ?_⟩
      show (scope.names.lookup x == some .cell) = true
      rw [q]; rfl
/-- a lambda of the frame -/
theorem LamC.here (G : Good S N sc0 sc X) {j : Nat} {caps : List Nat} {ld : LD} {p : Arguments} {scope : Scope} {body : Expr} (c : LamC S.St N sc j caps ld p scope) (h : mE S.St.off ld.N scope ld.e body = true) : LHere S.g X j caps ⟨X.env.qual ++ "<lambda>", p, body, scope, ld.N.take ld.nc⟩ := by
  refine ⟨?_, rfl, par_dflt c.par _, ⟨fun x hx => PySem.mem_of_lookup (c.lsc.cap x hx), c.lsc.free, fun x hx => ?_⟩, ?_⟩
  · rw [S.lamE]
    exact ⟨ld, c.at_, rfl, c.lsc, h, c.isV, fun q cl pm cv ctv us hl => par_bind c.par hl⟩
  · show X.env.scope.names.lookup x = _ ∨ X.env.scope.names.lookup x = _
    rw [G.hsc]
    exact c.cel x hx
  · rw [G.hN]; exact c.ix
/-- .. by its number -/
theorem lloc_here (G : Good S N sc0 sc X) {j : Nat} {caps : List Nat} {ld : LD} (ha : S.St.lams.lookup j = some ld) (hc : capB N sc caps (ld.N.take ld.nc) = true) : ∀ L, S.g.lam j L → LCap X L ∧ caps.map (fun i => X.N[i]?) = L.caps.map some := by
  intro L h
  rw [S.lamE] at h
  obtain ⟨ld', h1, tx⟩ := h
  have h1 : S.St.lams.lookup j = some ld' := h1
  rw [ha] at h1
  cases h1
  obtain ⟨c1, c2⟩ := cap_of hc
  refine ⟨⟨fun x hx => PySem.mem_of_lookup (tx.sc.cap x hx), tx.sc.free, fun x hx => ?_⟩, ?_⟩
  · show X.env.scope.names.lookup x = _ ∨ X.env.scope.names.lookup x = _
    rw [G.hsc]
    rw [tx.caps] at hx
    exact c2 x hx
  · rw [G.hN, tx.caps]; exact c1
theorem Good.tgt (G : Good S N sc0 sc X) : ∀ {t : Tgt} {a : Expr}, mT N sc0 t a = true → PG X a (gRd S.g t)
  | .nm i, .Name x p, h => by
    simp only [mT, Bool.and_eq_true, decide_eq_true_eq] at h
    obtain ⟨h1, h2⟩ := G.st x h.2
    exact dg_nm (by rw [G.hN]; exact G.nd) (by rw [G.hN]; exact h.1) (by rw [G.hsc]; exact h1) (by rw [G.hsc]; exact h2)
  | .tp t u, .Tuple [a, b] _ _, h => by
    simp only [mT, Bool.and_eq_true] at h
    have g1 := goodT_of h.1
    have g2 := goodT_of h.2
    exact dg_tp G.hK G.calm (G.tgt h.1) (G.tgt h.2) (asgEach_of g1) (asgEach_of g2) (by rw [asgEach_cons g1, asgEach_cons g2]; rfl) (by rw [asgEach_cons g1, asgEach_cons g2]; rfl)
  | .tp3 t u v, .Tuple [a, b, c] _ _, h => by
    simp only [mT, Bool.and_eq_true] at h
    have g1 := goodT_of h.1.1
    have g2 := goodT_of h.1.2
    have g3 := goodT_of h.2
    exact dg_tp3 G.hK G.calm (G.tgt h.1.1) (G.tgt h.1.2) (G.tgt h.2) (asgEach_of g1) (asgEach_of g2) (asgEach_of g3) (by rw [asgEach_cons g1, asgEach_cons g2, asgEach_cons g3]; rfl) (by rw [asgEach_cons g1, asgEach_cons g2, asgEach_cons g3]; rfl)
  | .tn is, .Tuple es _ _, h => by
    simp only [mT] at h
    refine dg_tn G.hK G.calm (by rw [G.hN]; exact G.nd) ?_
    induction is generalizing es with
    | nil => cases es with
      | nil => exact .nil
      | cons _ _ => simp [mNs] at h
    | cons i is ih => cases es with
      | nil => simp [mNs] at h
      | cons a es =>
        cases a with
        | Name x p =>
          simp only [mNs, Bool.and_eq_true, decide_eq_true_eq] at h
          obtain ⟨h1, h2⟩ := G.st x h.1.2
          exact .cons ⟨x, p, rfl, by rw [G.hN]; exact h.1.1, by rw [G.hsc]; exact h1, by rw [G.hsc]; exact h2⟩ (ih es h.2)
        | _ => simp [mNs] at h
end
end Ev

set_option Elab.async false
set_option linter.all false
set_option autoImplicit false
set_option maxRecDepth 100000
set_option maxHeartbeats 4000000
/-! Ev8: the small syntax is sound: expressions. -/
namespace Ev
open PySem PySem.Spec PyProof.Rows L2

theorem dt_ite {X : Cx} {g : Gh} {a b c : Expr} {pos : Pos} {fa fb : Rho → M D} {ft : Rho → M Bool} (hc : PT X c (RdT g ft)) (ha : PT X a (RdT g (tst fa))) (hb : PT X b (RdT g (tst fb))) : PT X (.IfExp c a b pos) (RdT g (tst (evIf ft fa fb))) := by
  refine ⟨fun pins s σ H Q I ⟨F0, H0, F, ρ, n, d, n', e, m, k⟩ => ?_⟩
  obtain ⟨y, e1, e2⟩ := tst_some e
  obtain ⟨x, n1, e3, e4⟩ := M.bind_some e1
  refine isTrue_IfExp (thn (hc.run pins s σ H (fun c H1 => if c = true then RdT g (tst fa) σ H1 Q else RdT g (tst fb) σ H1 Q) I ⟨F0, H0, F, ρ, n, x, n1, e3, m, fun F' H' gr s P => ?_⟩) fun d s1 ⟨H1, I1, q1⟩ => ?_)
  · cases x with
    | true => exact iteT ⟨F0, H0, F', ρ, n1, d, n', tst_of e4 e2, m.grow gr s P, fun F2 H2 g2 s2 P2 => k F2 H2 (gr.trans g2) s2 P2⟩
    | false => exact iteF ⟨F0, H0, F', ρ, n1, d, n', tst_of e4 e2, m.grow gr s P, fun F2 H2 g2 s2 P2 => k F2 H2 (gr.trans g2) s2 P2⟩
  · cases d with
    | true => exact ha.run pins s1 σ H1 Q I1 q1
    | false => exact hb.run pins s1 σ H1 Q I1 q1

/-- an expression's rules -/
structure Snd (X : Cx) (g : Gh) (e : E) (f : Rho → M D) (a : Expr) : Prop where
  v : e.isV = true → PE X a (RdV g f)
  p : PE X a (RdP g f)
  fr : e.isF = true → PE X a (RdF g f)
  t : PT X a (RdT g (tst f))
section
variable {X : Cx} {g : Gh} {e : E} {f : Rho → M D} {a : Expr}
theorem Snd.of (hK : X.K = g.K) (hf : e.isF = false) (h : PE X a (RdV g f)) (ht : ∀ whole, isTrue a X.env whole = (do let v ← whole; standAt a.pos; holding [v] (truthy v))) : Snd X g e f a :=
  ⟨fun _ => h, peekV h, fun z => (by rw [hf] at z; cases z), dt_truth hK (peekV h) ht⟩
theorem Snd.ofT (hf : e.isF = false) (h : PE X a (RdV g f)) (ht : PT X a (RdT g (tst f))) : Snd X g e f a :=
  ⟨fun _ => h, peekV h, fun z => (by rw [hf] at z; cases z), ht⟩
theorem Snd.ofF (hK : X.K = g.K) (h : PE X a (RdF g f)) (ht : ∀ whole, isTrue a X.env whole = (do let v ← whole; standAt a.pos; holding [v] (truthy v))) : Snd X g e f a :=
  ⟨fun _ => frzF h, peekV (frzF h), fun _ => h, dt_truth hK (peekV (frzF h)) ht⟩
end
theorem bi_sound {X : Cx} {g : Gh} {es : List Expr} {e : Expr} {fr : Rho → M (List D)} {x : Str} {p pos : Pos} (hK : X.K = g.K) (hw : g.w = X.w) (hc : X.calm = true) (b : Bi) (hx : x = Str.ofString b.nm) (hg : Gl X x) (hm : X.mg x = none) (ha : PA X (e :: es) (RdAP g fr))
    (he : starEach (e :: es) X.env = (false, eval e X.env) :: starEach es X.env) (hpl : (backTo pos (starEach es X.env)).any (·.1) = false) : PE X (.Call (.Name x p) (e :: es) [] pos) (RdV g (evB b.op fr)) := by
  subst hx
  cases b
  · exact de_callB (id := "len") (okc_lenA hK) (call_len.or (cr_lenDict hw)) hg hm (by decide +kernel) ha (by decide +kernel) (by decide +kernel) he hpl
  · exact de_callB (id := "all") okc_all (cr_all hc) hg hm (by decide +kernel) ha (by decide +kernel) (by decide +kernel) he hpl
  · exact de_callB (id := "any") okc_any (cr_any hc) hg hm (by decide +kernel) ha (by decide +kernel) (by decide +kernel) he hpl
  · exact de_callB (id := "sum") okc_sum (cr_sum hc) hg hm (by decide +kernel) ha (by decide +kernel) (by decide +kernel) he hpl
  · exact de_callB (id := "max") okc_max ((call_max2 hc).or (cr_max hc)) hg hm (by decide +kernel) ha (by decide +kernel) (by decide +kernel) he hpl
  · exact de_callB (id := "min") okc_min ((call_min2 hc).or (cr_min hc)) hg hm (by decide +kernel) ha (by decide +kernel) (by decide +kernel) he hpl
  · exact de_callTy (T := "int") okc_int call_int1 hg hm (by decide +kernel) ha (by decide +kernel) (by decide +kernel) he hpl
  · exact de_callTy (T := "str") okc_str call_str_int hg hm (by decide +kernel) ha (by decide +kernel) (by decide +kernel) he hpl
  · exact de_callTy (T := "tuple") (okc_tuple hK) call_tuple_of hg hm (by decide +kernel) ha (by decide +kernel) (by decide +kernel) he hpl
theorem bf_sound {X : Cx} {g : Gh} {es : List Expr} {e : Expr} {fr : Rho → M (List D)} {x : Str} {p pos : Pos} (hK : X.K = g.K) (hc : X.calm = true) (hu : X.A.units + 66 < cLine) (b : Bf) (hx : x = Str.ofString b.nm) (hg : Gl X x) (hm : X.mg x = none) (ha : PA X (e :: es) (RdAP g fr))
    (he : starEach (e :: es) X.env = (false, eval e X.env) :: starEach es X.env) (hpl : (backTo pos (starEach es X.env)).any (·.1) = false) : PE X (.Call (.Name x p) (e :: es) [] pos) (RdF g (evBL b.op fr)) := by
  subst hx
  cases b
  · exact df_callTy (T := "list") (okc_listA hK) (call_list_of.or (cr_listDict hc)) hg hm (by decide +kernel) ha (by decide +kernel) (by decide +kernel) he hpl
  · exact df_callB (id := "sorted") okc_sortedA ((cr_sortD hK hu).or (cr_sortDict hc hK hu)) hg hm (by decide +kernel) ha (by decide +kernel) (by decide +kernel) he hpl
theorem bi_mem (b : Bi) : Str.ofString b.nm ∈ biNames := by cases b <;> decide +kernel
theorem bf_mem (b : Bf) : Str.ofString b.nm ∈ biNames := by cases b <;> decide +kernel

theorem xstar_of {St : Stt} {N : List Str} {sc : Scope} {es : Es} {a : Expr} {as : List Expr} {env : Env} {pos : Pos} (h : mXs St N sc es (a :: as) = true) : starEach (a :: as) env = (false, eval a env) :: starEach as env ∧ (backTo pos (starEach as env)).any (·.1) = false := by
  have one : ∀ {es : Es} {a : Expr} {as : List Expr}, mXs St N sc es (a :: as) = true → goodX a = true ∧ ∃ es', mXs St N sc es' as = true := fun {es a as} h => by
    cases es with
    | nil => simp [mXs] at h
    | cons e es =>
      have val : (e.isV && mE St N sc e a && mXs St N sc es as) = true → goodX a = true ∧ ∃ es', mXs St N sc es' as = true := fun h => by
        simp only [Bool.and_eq_true] at h
        exact ⟨good_of h.1.2, _, h.2⟩
      cases e with
      | lam j caps nc N' ps e' =>
        cases a with
        | Lambda p body scope lp =>
          simp only [mXs, Bool.and_eq_true] at h
          exact ⟨rfl, _, h.2⟩
        | _ => exact val h
      | lloc i j caps =>
        cases a with
        | Name x p =>
          simp only [mXs, Bool.and_eq_true] at h
          exact ⟨rfl, _, h.2⟩
        | _ => exact val h
      | _ => exact val h
  have all : ∀ (as : List Expr) {es : Es}, mXs St N sc es as = true → (backTo pos (starEach as env)).any (·.1) = false := by
    intro as
    induction as with
    | nil => intro _ _; rfl
    | cons a as ih =>
      intro es h
      obtain ⟨h1, es', h2⟩ := one h
      rw [star_of h1]
      show (false || (backTo pos (starEach as env)).any (·.1)) = false
      rw [ih h2]; rfl
  obtain ⟨h1, es', h2⟩ := one h
  exact ⟨star_of h1, all as h2⟩
section
variable (N : List Str)
mutual
theorem sE : ∀ (e : E) {S : Sg} {sc0 sc : Scope} {a : Expr} {X : Cx}, Good S N sc0 sc X → mE S.St N sc e a = true → Snd X S.g e (ev S.C e) a
  | .var i, S, sc0, sc, a, X, G, h => by
    cases a with
    | Name x p =>
      simp only [mE, Bool.and_eq_true, decide_eq_true_eq] at h
      have hn := nm_of h.2
      exact .of G.hK rfl (de_var (by rw [G.hN]; exact h.1.1) (by rw [G.hsc]; exact vis_of h.1.2) hn.1 hn.2) (fun _ => rfl)
    | _ => cases h
  | .pk i, S, sc0, sc, a, X, G, h => by
    cases a with
    | Name x p =>
      simp only [mE, Bool.and_eq_true, decide_eq_true_eq] at h
      have hn := nm_of h.2
      have q : PE X (.Name x p) (RdP S.g (getP i)) := dp_var (by rw [G.hN]; exact h.1.1) (by rw [G.hsc]; exact vis_of h.1.2) hn.1 hn.2
      exact ⟨fun z => (by cases z), q, fun z => (by cases z), dt_truth G.hK q (fun _ => rfl)⟩
    | _ => cases h
  | .int i, S, sc0, sc, a, X, G, h => by
    cases a with
    | Constant c _ _ =>
      cases c with
      | int j =>
        simp only [mE, decide_eq_true_eq] at h
        subst h
        exact .of G.hK rfl de_int (fun _ => rfl)
      | _ => cases h
    | _ => cases h
  | .bool i, S, sc0, sc, a, X, G, h => by
    cases a with
    | Constant c _ _ =>
      cases c with
      | bool j =>
        simp only [mE, decide_eq_true_eq] at h
        subst h
        exact .of G.hK rfl de_bool (fun _ => rfl)
      | _ => cases h
    | _ => cases h
  | .none, S, sc0, sc, a, X, G, h => by
    cases a with
    | Constant c _ _ =>
      cases c with
      | none => exact .of G.hK rfl de_none (fun _ => rfl)
      | _ => cases h
    | _ => cases h
  | .str i, S, sc0, sc, a, X, G, h => by
    cases a with
    | Constant c _ _ =>
      cases c with
      | str j =>
        simp only [mE, decide_eq_true_eq] at h
        subst h
        exact .of G.hK rfl de_str (fun _ => rfl)
      | _ => cases h
    | _ => cases h
  | .glob y d, S, sc0, sc, a, X, G, h => by
    cases a with
    | Name x p =>
      simp only [mE, Bool.and_eq_true, decide_eq_true_eq] at h
      have hn := nm_of h.2
      obtain ⟨⟨⟨rfl, ha⟩, hg⟩, _⟩ := h
      obtain ⟨⟨x', d'⟩, hm, hq⟩ := List.any_eq_true.mp ha
      simp only [Bool.and_eq_true, decide_eq_true_eq] at hq
      obtain ⟨rfl, hd⟩ := hq
      obtain rfl := sameD_eq hd
      obtain ⟨v, u, h1, h2, h3⟩ := S.cn x' d' hm
      exact .of G.hK rfl (de_glob (G.gl hg) (by rw [G.mg]; exact h1) h2 h3 hn.1) (fun _ => rfl)
    | _ => cases h
  | .tup es, S, sc0, sc, a, X, G, h => by
    cases a with
    | Tuple as _ _ => exact .of G.hK rfl (de_tup (sEs es G h)) (fun _ => rfl)
    | _ => cases h
  | .lst es, S, sc0, sc, a, X, G, h => by
    cases a with
    | List as _ => exact .ofF G.hK (df_lst (sEs es G h)) (fun _ => rfl)
    | _ => cases h
  | .bin o x y, S, sc0, sc, a, X, G, h => by
    cases a with
    | BinOp a1 op a2 _ =>
      simp only [mE, Bool.and_eq_true, decide_eq_true_eq] at h
      obtain ⟨⟨rfl, h1⟩, h2⟩ := h
      exact .of G.hK rfl (de_binO G.hK o (sE x G h1).p (sE y G h2).p) (fun _ => rfl)
    | _ => cases h
  | .neg x, S, sc0, sc, a, X, G, h => by
    cases a with
    | UnaryOp op a1 _ =>
      cases op with
      | USub =>
        simp only [mE, Bool.and_eq_true] at h
        exact .of G.hK rfl (de_neg ((sE x G h.2).v h.1)) (fun _ => rfl)
      | _ => cases h
    | _ => cases h
  | .not x, S, sc0, sc, a, X, G, h => by
    cases a with
    | UnaryOp op a1 _ =>
      cases op with
      | Not =>
        simp only [mE, Bool.and_eq_true] at h
        exact .ofT rfl (de_not ((sE x G h.2).v h.1)) (dt_not (sE x G h.2).t)
      | _ => cases h
    | _ => cases h
  | .and es, S, sc0, sc, a, X, G, h => by
    cases a with
    | BoolOp op as pos =>
      cases op with
      | And =>
        simp only [mE, Bool.and_eq_true] at h
        obtain ⟨q1, q2⟩ := sAnd es G h.1 (by simpa using h.2) pos
        exact .ofT rfl q1 q2.pt
      | _ => cases h
    | _ => cases h
  | .or es, S, sc0, sc, a, X, G, h => by
    cases a with
    | BoolOp op as pos =>
      cases op with
      | Or =>
        simp only [mE, Bool.and_eq_true] at h
        obtain ⟨q1, q2⟩ := sOr es G h.1 (by simpa using h.2) pos
        exact .ofT rfl q1 q2.pt
      | _ => cases h
    | _ => cases h
  | .cmp o x y, S, sc0, sc, a, X, G, h => by
    cases a with
    | Compare a1 ops bs pos =>
      match ops, bs, h with
      | [op], [b], h =>
        simp only [mE, Bool.and_eq_true, decide_eq_true_eq, Bool.not_eq_true'] at h
        obtain ⟨⟨⟨rfl, h1⟩, h2⟩, h3⟩ := h
        have hu : X.A.units + 65 < cLine := by have := G.hu; omega
        exact .ofT rfl (de_cmp G.hK G.hw hu o (sE x G h1).p (sE y G h2).p h3) (dt_cmp G.hK G.hw hu o (sE x G h1).p (sE y G h2).p h3)
      | [], _, h => cases h
      | [_], [], h => cases h
      | [_], _ :: _ :: _, h => cases h
      | _ :: _ :: _, _, h => cases h
    | _ => cases h
  | .chain o o' x y z, S, sc0, sc, a, X, G, h => by
    cases a with
    | Compare a1 ops bs pos =>
      match ops, bs, h with
      | [op, op'], [b, c], h =>
        simp only [mE, Bool.and_eq_true, decide_eq_true_eq, Bool.not_eq_true'] at h
        obtain ⟨⟨⟨⟨⟨rfl, rfl⟩, h1⟩, h2⟩, h3⟩, h4⟩ := h
        have hu : X.A.units + 65 < cLine := by have := G.hu; omega
        exact .ofT rfl (de_chain G.hK G.hw hu o o' (sE x G h1).p (sE y G h2).p (sE z G h3).p h4) (dt_chain G.hK G.hw hu o o' (sE x G h1).p (sE y G h2).p (sE z G h3).p h4)
      | [], _, h => cases h
      | [_], _, h => cases h
      | [_, _], [], h => cases h
      | [_, _], [_], h => cases h
      | [_, _], _ :: _ :: _ :: _, h => cases h
      | _ :: _ :: _ :: _, _, h => cases h
    | _ => cases h
  | .ite c x y, S, sc0, sc, a, X, G, h => by
    cases a with
    | IfExp a0 a1 a2 _ =>
      simp only [mE, Bool.and_eq_true] at h
      obtain ⟨⟨⟨⟨h0, v1⟩, h1⟩, v2⟩, h2⟩ := h
      exact .ofT rfl (de_if (sE c G h0).t ((sE x G h1).v v1) ((sE y G h2).v v2)) (dt_ite (sE c G h0).t (sE x G h1).t (sE y G h2).t)
    | _ => cases h
  | .ix x y, S, sc0, sc, a, X, G, h => by
    cases a with
    | Subscript a1 a2 _ =>
      simp only [mE, Bool.and_eq_true] at h
      exact .of G.hK rfl (de_ix G.hK G.hw (by have := G.hu; omega) (sE x G h.1).p (sE y G h.2).p (ix_of (good_of h.2))) (fun _ => rfl)
    | _ => cases h
  | .slU x hi, S, sc0, sc, a, X, G, h => by
    cases a with
    | Subscript a1 a2 _ =>
      cases a2 with
      | Slice l u st _ =>
        match l, u, st, h with
        | .none, some z, .none, h =>
          simp only [mE, Bool.and_eq_true] at h
          exact .of G.hK rfl (de_sl G.hK (sE x G h.1).p do_none (do_some (sE hi G h.2).p)) (fun _ => rfl)
        | .none, .none, _, h => cases h
        | some _, _, _, h => cases h
        | .none, some _, some _, h => cases h
      | _ => cases h
    | _ => cases h
  | .slL x lo, S, sc0, sc, a, X, G, h => by
    cases a with
    | Subscript a1 a2 _ =>
      cases a2 with
      | Slice l u st _ =>
        match l, u, st, h with
        | some z, .none, .none, h =>
          simp only [mE, Bool.and_eq_true] at h
          exact .of G.hK rfl (de_sl G.hK (sE x G h.1).p (do_some (sE lo G h.2).p) do_none) (fun _ => rfl)
        | .none, _, _, h => cases h
        | some _, some _, _, h => cases h
        | some _, .none, some _, h => cases h
      | _ => cases h
    | _ => cases h
  | .slLU x lo hi, S, sc0, sc, a, X, G, h => by
    cases a with
    | Subscript a1 a2 _ =>
      cases a2 with
      | Slice l u st _ =>
        match l, u, st, h with
        | some y, some z, .none, h =>
          simp only [mE, Bool.and_eq_true] at h
          exact .of G.hK rfl (de_sl G.hK (sE x G h.1.1).p (do_some (sE lo G h.1.2).p) (do_some (sE hi G h.2).p)) (fun _ => rfl)
        | .none, _, _, h => cases h
        | some _, .none, _, h => cases h
        | some _, some _, some _, h => cases h
      | _ => cases h
    | _ => cases h
  | .slA x, S, sc0, sc, a, X, G, h => by
    cases a with
    | Subscript a1 a2 _ =>
      cases a2 with
      | Slice l u st _ =>
        match l, u, st, h with
        | .none, .none, .none, h => exact .of G.hK rfl (de_sl G.hK (sE x G h).p do_none do_none) (fun _ => rfl)
        | some _, _, _, h => cases h
        | .none, some _, _, h => cases h
        | .none, .none, some _, h => cases h
      | _ => cases h
    | _ => cases h
  | .rev x, S, sc0, sc, a, X, G, h => by
    cases a with
    | Subscript a1 a2 _ =>
      cases a2 with
      | Slice l u st _ =>
        match l, u, st, h with
        | .none, .none, some z, h =>
          simp only [mE, Bool.and_eq_true] at h
          obtain ⟨k, p1, p2, rfl⟩ := isNeg1_some h.1
          exact .of G.hK rfl (de_rev (sE x G h.2).p) (fun _ => rfl)
        | some _, _, _, h => cases h
        | .none, some _, _, h => cases h
        | .none, .none, .none, h => cases h
      | _ => cases h
    | _ => cases h
  | .bi b es, S, sc0, sc, a, X, G, h => by
    cases a with
    | Call fn as kws pos =>
      cases fn with
      | Name x p =>
        match as, kws, h with
        | a :: as, [], h =>
          simp only [mE, Bool.and_eq_true, decide_eq_true_eq] at h
          obtain ⟨⟨⟨hx, hg⟩, hp⟩, _⟩ := h
          have hm : X.mg x = none := G.bi (by rw [hx]; exact bi_mem b)
          have q := sPs es G hp
          obtain ⟨e1, es1, rfl⟩ : ∃ e1 es1, es = .cons e1 es1 := by
            cases es with
            | nil => simp [mPs] at hp
            | cons e1 es1 => exact ⟨e1, es1, rfl⟩
          have hp' := hp
          simp only [mPs, Bool.and_eq_true] at hp'
          exact .of G.hK rfl (bi_sound G.hK G.hw G.calm b hx (G.gl hg) hm q (star_of (good_of hp'.1)) (plainP_of hp'.2)) (fun _ => rfl)
        | [], [], h => simp [mE] at h
        | [], _ :: _, h => cases h
        | _ :: _, _ :: _, h => cases h
      | _ => cases h
    | _ => cases h
  | .bf b es, S, sc0, sc, a, X, G, h => by
    cases a with
    | Call fn as kws pos =>
      cases fn with
      | Name x p =>
        match as, kws, h with
        | a :: as, [], h =>
          simp only [mE, Bool.and_eq_true, decide_eq_true_eq] at h
          obtain ⟨⟨⟨hx, hg⟩, hp⟩, _⟩ := h
          have hm : X.mg x = none := G.bi (by rw [hx]; exact bf_mem b)
          have q := sPs es G hp
          obtain ⟨e1, es1, rfl⟩ : ∃ e1 es1, es = .cons e1 es1 := by
            cases es with
            | nil => simp [mPs] at hp
            | cons e1 es1 => exact ⟨e1, es1, rfl⟩
          have hp' := hp
          simp only [mPs, Bool.and_eq_true] at hp'
          exact .ofF G.hK (bf_sound G.hK G.calm G.hu b hx (G.gl hg) hm q (star_of (good_of hp'.1)) (plainP_of hp'.2)) (fun _ => rfl)
        | [], [], h => simp [mE] at h
        | [], _ :: _, h => cases h
        | _ :: _, _ :: _, h => cases h
      | _ => cases h
    | _ => cases h
  | .isi t x, S, sc0, sc, a, X, G, h => by
    cases a with
    | Call fn as kws pos =>
      cases fn with
      | Name nx p =>
        simp only [mE] at h
        split at h
        · rename_i y z hy
          obtain ⟨p', rfl, rfl⟩ := isiArgs_some hy
          simp only [Bool.and_eq_true, decide_eq_true_eq] at h
          obtain ⟨⟨⟨⟨rfl, hg⟩, h1⟩, rfl⟩, hz⟩ := h
          have hm : X.mg "isinstance" = none := G.bi (by decide +kernel)
          have hz' : X.mg (Str.ofString t.name) = none := G.bi (by cases t <;> decide +kernel)
          exact .of G.hK rfl (de_isi G.hK t (G.gl hg) hm (G.gl hz) hz' (by cases t <;> decide +kernel) (sE x G h1).p (star_of (good_of h1)) (by cases t <;> decide +kernel) (by cases t <;> decide +kernel)) (fun _ => rfl)
        · cases h
      | _ => cases h
    | _ => cases h
  | .upper x, S, sc0, sc, a, X, G, h => by
    cases a with
    | Call fn as kws cp =>
      cases fn with
      | Attribute y m ap =>
        match as, kws, h with
        | [], [], h =>
          simp only [mE, Bool.and_eq_true, decide_eq_true_eq] at h
          obtain ⟨⟨⟨rfl, hb⟩, h1⟩, hl⟩ := h
          exact .of G.hK rfl (de_upper (sE x G h1).p (base_of hb) hl) (fun _ => rfl)
        | _ :: _, _, h => cases h
        | [], _ :: _, h => cases h
      | _ => cases h
    | _ => cases h
  | .call f es, S, sc0, sc, a, X, G, h => by
    cases a with
    | Call fn as kws pos =>
      cases fn with
      | Name x p =>
        match as, kws, h with
        | as, [], h =>
          simp only [mE, Bool.and_eq_true, decide_eq_true_eq] at h
          obtain ⟨⟨⟨hf, hg⟩, hn⟩, hp⟩ := h
          obtain ⟨ad, h1, h2, h4⟩ := S.fn f x hf
          have hn' := nm_of hn
          have F4 : CallOk X.prog X.w X.K X.mg X.base S.g S.k (.ref ad) (S.C f) := by rw [G.prog, G.w, G.K, G.mg, G.base]; exact h4
          have q := sEs es G hp
          match es, as, hp, q with
          | .nil, [], hp, q =>
            exact .of G.hK rfl (de_callK0 F4 G.room (G.gl hg) (by rw [G.mg]; exact h1) (by rw [G.K]; exact h2) hn'.1) (fun _ => rfl)
          | .cons e1 es1, a1 :: as1, hp, q =>
            have hp' := hp
            simp only [mEs, Bool.and_eq_true] at hp'
            exact .of G.hK rfl (de_callK F4 G.room (G.gl hg) (by rw [G.mg]; exact h1) (by rw [G.K]; exact h2) q hn'.1 (star_of (good_of hp'.1.2)) (plain_of hp'.2)) (fun _ => rfl)
          | .nil, _ :: _, hp, q => simp [mEs] at hp
          | .cons _ _, [], hp, q => simp [mEs] at hp
        | _, _ :: _, h => cases h
      | _ => cases h
    | _ => cases h
  | .lc own t it c elt, S, sc0, sc, a, X, G, h => by
    cases a with
    | ListComp x gens scope pos =>
      simp only [mE] at h
      split at h
      · rename_i tg iter ifs hq
        obtain rfl := lcGens_some hq
        simp only [Bool.and_eq_true, decide_eq_true_eq] at h
        obtain ⟨⟨⟨⟨⟨⟨⟨hb, ho⟩, hi⟩, ht⟩, hc⟩, hl⟩, hv⟩, he⟩ := h
        refine .ofF G.hK (df_lc G.calm (by rw [G.hN]; exact G.nd) (sI it G hi) (by rw [G.hN, G.hsc]; exact blkOk_by hb) (fun s H C cl fp => (G.blk hb s H C cl fp).tgt ht) (fun s H C cl fp => sCond (S := S.off) c (G.blk hb s H C cl fp) hc hl)
          (fun s H C cl fp => (sE elt (G.blk hb s H C cl fp) he).v hv) (sIf it G hi) ?_) (fun _ => rfl)
        intro i hi'
        have := List.all_eq_true.mp ho i hi'
        simpa using this
      · cases h
    | _ => cases h
  | .lc2 own t it c t1 it1 c1 elt, S, sc0, sc, a, X, G, h => by
    cases a with
    | ListComp x gens scope pos =>
      simp only [mE] at h
      split at h
      · rename_i tg iter ifs tg1 iter1 ifs1 hq
        obtain rfl := lcGens2_some hq
        simp only [Bool.and_eq_true, decide_eq_true_eq] at h
        obtain ⟨⟨⟨⟨⟨⟨⟨⟨⟨⟨⟨⟨hb, ho⟩, ho1⟩, hi⟩, ht⟩, hc⟩, hl⟩, hi1⟩, ht1⟩, hc1⟩, hl1⟩, hv⟩, he⟩ := h
        refine .ofF G.hK (df_lc2 (own1 := t1.slots) G.calm (by rw [G.hN]; exact G.nd) (sI it G hi) (by rw [G.hN, G.hsc]; exact blkOk_by hb) ?_ (fun s H C cl fp => (G.blk hb s H C cl fp).tgt ht) (fun s H C cl fp => sCond (S := S.off) c (G.blk hb s H C cl fp) hc hl)
          (fun s H C cl fp => sI (S := S.off) it1 (G.blk hb s H C cl fp) hi1) (fun s H C cl fp => (G.blk hb s H C cl fp).tgt ht1) (fun s H C cl fp => sCond (S := S.off) c1 (G.blk hb s H C cl fp) hc1 hl1)
          (fun s H C cl fp => (sE elt (G.blk hb s H C cl fp) he).v hv) (sIf it G hi) (fun env => sIfE (S := S.off) it1 env hi1) ?_ (fun i hi => hi)) (fun _ => rfl)
        · intro i hi'
          have := List.all_eq_true.mp ho1 i hi'
          simpa using this
        · intro i hi'
          have := List.all_eq_true.mp ho i hi'
          simpa using this
      · cases h
    | _ => cases h
  | .dc own t it c kk vv, S, sc0, sc, a, X, G, h => by
    cases a with
    | DictComp kx vx gens scope pos =>
      simp only [mE] at h
      split at h
      · rename_i tg iter ifs hq
        obtain rfl := lcGens_some hq
        simp only [Bool.and_eq_true, decide_eq_true_eq] at h
        obtain ⟨⟨⟨⟨⟨⟨⟨⟨⟨hb, ho⟩, hi⟩, ht⟩, hc⟩, hl⟩, hv⟩, he⟩, hv2⟩, he2⟩ := h
        refine .ofF G.hK (df_dc (by have := G.hu; omega) G.hK G.hw G.calm (by rw [G.hN]; exact G.nd) (sI it G hi) (by rw [G.hN, G.hsc]; exact blkOk_by hb) (fun s H C cl fp => (G.blk hb s H C cl fp).tgt ht) (fun s H C cl fp => sCond (S := S.off) c (G.blk hb s H C cl fp) hc hl)
          (fun s H C cl fp => (sE kk (G.blk hb s H C cl fp) he).v hv) (fun s H C cl fp => (sE vv (G.blk hb s H C cl fp) he2).v hv2) (sIf it G hi) ?_) (fun _ => rfl)
        intro i hi'
        have := List.all_eq_true.mp ho i hi'
        simpa using this
      · cases h
    | _ => cases h
  | .d0, S, sc0, sc, a, X, G, h => by
    cases a with
    | Dict ks vs pos =>
      match ks, vs, h with
      | [], [], h => exact .ofF G.hK df_d0 (fun _ => rfl)
      | [], _ :: _, h => cases h
      | _ :: _, _, h => cases h
    | _ => cases h
  | .d1 kk vv, S, sc0, sc, a, X, G, h => by
    cases a with
    | Dict ks vs pos =>
      simp only [mE] at h
      split at h
      · rename_i k v hq
        obtain ⟨rfl, rfl⟩ := dOne_some hq
        simp only [Bool.and_eq_true] at h
        exact .ofF G.hK (df_d1 (by have := G.hu; omega) G.hK G.hw ((sE kk G h.1.1.2).v h.1.1.1) ((sE vv G h.2).v h.1.2)) (fun _ => rfl)
      · cases h
    | _ => cases h
  | .mk b a' d', S, sc0, sc, a, X, G, h => by
    cases a with
    | Call fn as kws pos =>
      cases fn with
      | Name x p =>
        match as, h with
        | [a], h1 =>
          have h2 : (match kwOne kws with
            | some (n, d) => decide (x = Str.ofString b.nm) && glB sc x && decide (n = Str.ofString "default") && mE S.St N sc a' a && d'.isV && mE S.St N sc d' d
            | none => false) = true := h1
          split at h2
          · rename_i n d hq
            obtain ⟨kp, rfl⟩ := kwOne_some hq
            simp only [Bool.and_eq_true, decide_eq_true_eq] at h2
            obtain ⟨⟨⟨⟨⟨hx, hg⟩, rfl⟩, ha⟩, hv⟩, hd⟩ := h2
            have hm : X.mg x = none := G.bi (by rw [hx]; cases b <;> decide +kernel)
            have hs := star_of (es := []) (env := X.env) (good_of ha)
            exact .of G.hK rfl (de_mk b G.hK G.calm G.hu hx (G.gl hg) hm (dap_cons (sE a' G ha).p dap_nil hs) ((sE d' G hd).v hv) hs) (fun _ => rfl)
          · cases h2
        | [], h => cases h
        | _ :: _ :: _, h => cases h
      | _ => cases h
    | _ => cases h
  | .l2 c x y, S, sc0, sc, a, X, G, h => by
    cases a with
    | BinOp a1 op a2 _ =>
      simp only [mE, Bool.and_eq_true, decide_eq_true_eq] at h
      obtain ⟨⟨rfl, h1⟩, h2⟩ := h
      cases c with
      | true => exact .ofF G.hK (df_op op_cat okf_cat (sE x G h1).p (sE y G h2).p) (fun _ => rfl)
      | false => exact .ofF G.hK (df_op op_rep okf_rep (sE x G h1).p (sE y G h2).p) (fun _ => rfl)
    | _ => cases h
  | .tupRg1 a', S, sc0, sc, a, X, G, h => by
    cases a with
    | Call fn as kws pos =>
      cases fn with
      | Name x p =>
        simp only [mE] at h
        split at h
        · rename_i y a hq
          obtain ⟨p', pos', rfl, rfl⟩ := rgArgs1_some hq
          simp only [Bool.and_eq_true, decide_eq_true_eq] at h
          obtain ⟨⟨⟨⟨⟨rfl, hg⟩, rfl⟩, hg2⟩, hv⟩, ha⟩ := h
          have hs := star_of (es := []) (env := X.env) (good_of ha)
          exact .of G.hK rfl (de_tupRg1 G.calm (G.gl hg) (G.bi (by decide +kernel)) (G.gl hg2) (G.bi (by decide +kernel)) ((sE a' G ha).v hv) hs) (fun _ => rfl)
        · cases h
      | _ => cases h
    | _ => cases h
  | .tupRg2 a' b', S, sc0, sc, a, X, G, h => by
    cases a with
    | Call fn as kws pos =>
      cases fn with
      | Name x p =>
        simp only [mE] at h
        split at h
        · rename_i y a b hq
          obtain ⟨p', pos', rfl, rfl⟩ := rgArgs2_some hq
          simp only [Bool.and_eq_true, decide_eq_true_eq] at h
          obtain ⟨⟨⟨⟨⟨⟨⟨rfl, hg⟩, rfl⟩, hg2⟩, hv⟩, ha⟩, hv2⟩, hb⟩ := h
          have hs := star_of (es := [b]) (env := X.env) (good_of ha)
          have hs2 := star_of (es := []) (env := X.env) (good_of hb)
          exact .of G.hK rfl (de_tupRg2 G.calm (G.gl hg) (G.bi (by decide +kernel)) (G.gl hg2) (G.bi (by decide +kernel)) ((sE a' G ha).v hv) ((sE b' G hb).v hv2) hs hs2 (by rw [hs2]; rfl)) (fun _ => rfl)
        · cases h
      | _ => cases h
    | _ => cases h
  | .lstRg1 a', S, sc0, sc, a, X, G, h => by
    cases a with
    | Call fn as kws pos =>
      cases fn with
      | Name x p =>
        simp only [mE] at h
        split at h
        · rename_i y a hq
          obtain ⟨p', pos', rfl, rfl⟩ := rgArgs1_some hq
          simp only [Bool.and_eq_true, decide_eq_true_eq] at h
          obtain ⟨⟨⟨⟨⟨rfl, hg⟩, rfl⟩, hg2⟩, hv⟩, ha⟩ := h
          have hs := star_of (es := []) (env := X.env) (good_of ha)
          exact .ofF G.hK (df_lstRg1 G.calm (G.gl hg) (G.bi (by decide +kernel)) (G.gl hg2) (G.bi (by decide +kernel)) ((sE a' G ha).v hv) hs) (fun _ => rfl)
        · cases h
      | _ => cases h
    | _ => cases h
  | .lstRg2 a' b', S, sc0, sc, a, X, G, h => by
    cases a with
    | Call fn as kws pos =>
      cases fn with
      | Name x p =>
        simp only [mE] at h
        split at h
        · rename_i y a b hq
          obtain ⟨p', pos', rfl, rfl⟩ := rgArgs2_some hq
          simp only [Bool.and_eq_true, decide_eq_true_eq] at h
          obtain ⟨⟨⟨⟨⟨⟨⟨rfl, hg⟩, rfl⟩, hg2⟩, hv⟩, ha⟩, hv2⟩, hb⟩ := h
          have hs := star_of (es := [b]) (env := X.env) (good_of ha)
          have hs2 := star_of (es := []) (env := X.env) (good_of hb)
          exact .ofF G.hK (df_lstRg2 G.calm (G.gl hg) (G.bi (by decide +kernel)) (G.gl hg2) (G.bi (by decide +kernel)) ((sE a' G ha).v hv) ((sE b' G hb).v hv2) hs hs2 (by rw [hs2]; rfl)) (fun _ => rfl)
        · cases h
      | _ => cases h
    | _ => cases h
  | .callv f es, S, sc0, sc, a, X, G, h => by
    cases a with
    | Call fn as kws pos =>
      match as, kws, h with
      | a1 :: as1, [], h =>
        simp only [mE, Bool.and_eq_true] at h
        obtain ⟨⟨⟨⟨hc, hfv⟩, hf⟩, hp⟩, _⟩ := h
        match es, hp with
        | .cons e1 es1, hp =>
          have hp' := hp
          simp only [mEs, Bool.and_eq_true] at hp'
          have F4 : LamOk X.prog X.w X.K X.mg X.base S.g S.k S.C := by rw [G.prog, G.w, G.K, G.mg, G.base]; exact S.lamOk
          have hev : eval (.Call fn (a1 :: as1) [] pos) X.env = (do
              let f ← eval fn X.env
              callWith pos f [] (backTo pos (starEach (a1 :: as1) X.env)) []) := by
            cases fn <;> first | rfl | cases hc
          exact .of G.hK rfl (de_callv F4 G.room ((sE f G hf).v hfv) (sEs (.cons e1 es1) G hp) hev (star_of (good_of hp'.1.2)) (plain_of hp'.2)) (fun _ => rfl)
        | .nil, hp => simp [mEs] at hp
      | [], [], h => simp [mE] at h
      | _, _ :: _, h => cases fn <;> cases h
    | _ => cases h
  | .callL f es, S, sc0, sc, a, X, G, h => by
    cases a with
    | Call fn as kws pos =>
      cases fn with
      | Name x p =>
        match as, kws, h with
        | a1 :: as1, [], h =>
          simp only [mE, Bool.and_eq_true, decide_eq_true_eq] at h
          obtain ⟨⟨⟨⟨⟨hk, hf⟩, hg⟩, hn⟩, hp⟩, _⟩ := h
          obtain ⟨ad, h1, h2, h4⟩ := S.fn f x hf
          have hn' := nm_of hn
          have mk := G.mkg hk
          have F4 : CallOk X.prog X.w X.K X.mg X.base S.g S.k (.ref ad) (S.C f) := by rw [G.prog, G.w, G.K, G.mg, G.base]; exact h4
          have st := xstar_of (env := X.env) (pos := pos) hp
          exact .of G.hK rfl (de_callL F4 G.room mk.fn (G.gl hg) (by rw [G.mg]; exact h1) (by rw [G.K]; exact h2) (sXs es G mk hp) hn'.1 st.1 st.2) (fun _ => rfl)
        | [], [], h => simp [mE] at h
        | _, _ :: _, h => cases h
      | _ => cases h
    | _ => cases h
  | .lam _ _ _ _ _ _, S, sc0, sc, a, X, G, h => by cases a <;> cases h
  | .lloc _ _ _, S, sc0, sc, a, X, G, h => by cases a <;> cases h
  | .fld x cs b, S, sc0, sc, a, X, G, h => by
    cases a with
    | Attribute o y p =>
      simp only [mE, Bool.and_eq_true, decide_eq_true_eq] at h
      obtain ⟨⟨⟨⟨rfl, hm⟩, hv⟩, hb⟩, ho⟩ := h
      have hK : FldOk X.K S.g x cs := by rw [G.K]; exact S.fld x cs hm
      exact .of G.hK rfl (de_fld hK ((sE b G hb).v hv) ho) (fun _ => rfl)
    | _ => cases h
  | .fldS i x cs, S, sc0, sc, a, X, G, h => by
    cases a with
    | Attribute o y p =>
      cases o with
      | Name z pz =>
        simp only [mE, Bool.and_eq_true, decide_eq_true_eq] at h
        obtain ⟨⟨⟨⟨rfl, hm⟩, hi⟩, hv⟩, hn⟩ := h
        have hn' := nm_of hn
        have hK : FldOk X.K S.g x cs := by rw [G.K]; exact S.fld x cs hm
        exact .of G.hK rfl (de_fldS hK (by rw [G.hN]; exact hi) (by rw [G.hsc]; exact vis_of hv) hn'.1 hn'.2) (fun _ => rfl)
      | _ => cases h
    | _ => cases h
  | .meth x tb b es, S, sc0, sc, a, X, G, h => by
    cases a with
    | Call fn as kws pos =>
      cases fn with
      | Attribute o y ap =>
        match as, kws, h with
        | as, [], h =>
          simp only [mE, Bool.and_eq_true, decide_eq_true_eq] at h
          obtain ⟨⟨⟨⟨⟨⟨⟨rfl, hm⟩, hv⟩, hb⟩, ho⟩, hp⟩, hl⟩, hn⟩ := h
          have F4 : MethOk X.prog X.w X.K X.mg X.base S.g S.k S.C x tb := by rw [G.prog, G.w, G.K, G.mg, G.base]; exact S.mth x tb hm
          have q := sEs es G hp
          match es, as, hp, hn, q with
          | .nil, [], hp, hn, q => exact .of G.hK rfl (de_meth0 F4 G.room ((sE b G hb).v hv) ho hl) (fun _ => rfl)
          | .cons e1 es1, a1 :: as1, hp, hn, q =>
            have hp' := hp
            simp only [mEs, Bool.and_eq_true] at hp'
            exact .of G.hK rfl (de_meth F4 G.room ((sE b G hb).v hv) q ho hl hn (star_of (good_of hp'.1.2)) (plain_of hp'.2)) (fun _ => rfl)
          | .nil, _ :: _, hp, _, q => simp [mEs] at hp
          | .cons _ _, [], hp, _, q => simp [mEs] at hp
        | _, _ :: _, h => cases h
      | _ => cases h
    | _ => cases h
  | .bad, S, sc0, sc, a, X, G, h =>
    ⟨fun _ => pe_wk (t := fun _ _ _ => False) ⟨fun _ _ _ _ _ _ z => z.elim⟩ fun σ H Q ⟨_, _, _, _, _, _, _, z, _⟩ => (nomatch z), pe_wk (t := fun _ _ _ => False) ⟨fun _ _ _ _ _ _ z => z.elim⟩ fun σ H Q ⟨_, _, _, _, _, _, _, z, _⟩ => (nomatch z),
      fun _ => pe_wk (t := fun _ _ _ => False) ⟨fun _ _ _ _ _ _ z => z.elim⟩ fun σ H Q ⟨_, _, _, _, _, _, _, z, _⟩ => (nomatch z), pt_wk (t := fun _ _ _ => False) ⟨fun _ _ _ _ _ _ z => z.elim⟩ fun σ H Q ⟨_, _, _, _, _, _, _, z, _⟩ => (nomatch z)⟩
theorem sXs : ∀ (es : Es) {S : Sg} {sc0 sc : Scope} {as : List Expr} {X : Cx}, Good S N sc0 sc X → MkG S.g X → mXs S.St N sc es as = true → PA X as (RdXs S.g X (evs S.C es))
  | .nil, S, sc0, sc, as, X, G, mk, h => by
    cases as with
    | nil => exact dxs_nil
    | cons a as => simp [mXs] at h
  | .cons e es, S, sc0, sc, as, X, G, mk, h => by
    cases as with
    | nil => cases e <;> simp [mXs] at h
    | cons a as =>
      have st := (xstar_of (env := X.env) (pos := ⟨0, 0, 0, 0⟩) h).1
      have val : (e.isV && mE S.St N sc e a && mXs S.St N sc es as) = true → PA X (a :: as) (RdXs S.g X (evs S.C (.cons e es))) := fun h => by
        simp only [Bool.and_eq_true] at h
        exact dxs_cons (valX ((sE e G h.1.2).v h.1.1)) (sXs es G mk h.2) st
      by_cases hl : (∃ j caps nc N' ps e', e = .lam j caps nc N' ps e') ∨ ∃ i j caps, e = .lloc i j caps
      · rcases hl with ⟨j, caps, nc, N', ps, e', rfl⟩ | ⟨i, j, caps, rfl⟩
        · cases a with
          | Lambda p body scope lp =>
            simp only [mXs, Bool.and_eq_true] at h
            exact dxs_cons (de_lamX mk.ok ((lamC_of h.1.1).here G h.1.2)) (sXs es G mk h.2) st
          | _ => exact val h
        · cases a with
          | Name x p =>
            simp only [mXs, Bool.and_eq_true, decide_eq_true_eq] at h
            obtain ⟨⟨⟨⟨hi, hv⟩, hn⟩, hc⟩, h2⟩ := h
            have hn' := nm_of hn
            cases hld : S.St.lams.lookup j with
            | none => rw [hld] at hc; cases hc
            | some ld =>
              rw [hld] at hc
              exact dxs_cons (de_locX (lloc_here G hld hc) mk.lcl (by rw [G.hN]; exact hi) (by rw [G.hsc]; exact vis_of hv) hn'.1 hn'.2) (sXs es G mk h2) st
          | _ => exact val h
      · refine val ?_
        cases e <;> first | exact h | (exfalso; exact hl (.inl ⟨_, _, _, _, _, _, rfl⟩)) | (exfalso; exact hl (.inr ⟨_, _, _, rfl⟩))
theorem sEs : ∀ (es : Es) {S : Sg} {sc0 sc : Scope} {as : List Expr} {X : Cx}, Good S N sc0 sc X → mEs S.St N sc es as = true → PA X as (RdA S.g (evs S.C es))
  | .nil, S, sc0, sc, as, X, G, h => by
    cases as with
    | nil => exact da_nil
    | cons _ _ => cases h
  | .cons e es, S, sc0, sc, as, X, G, h => by
    cases as with
    | nil => cases h
    | cons a as =>
      simp only [mEs, Bool.and_eq_true] at h
      exact da_cons ((sE e G h.1.2).v h.1.1) (sEs es G h.2) (star_of (good_of h.1.2))
theorem sPs : ∀ (es : Es) {S : Sg} {sc0 sc : Scope} {as : List Expr} {X : Cx}, Good S N sc0 sc X → mPs S.St N sc es as = true → PA X as (RdAP S.g (evs S.C es))
  | .nil, S, sc0, sc, as, X, G, h => by
    cases as with
    | nil => exact dap_nil
    | cons _ _ => cases h
  | .cons e es, S, sc0, sc, as, X, G, h => by
    cases as with
    | nil => cases h
    | cons a as =>
      simp only [mPs, Bool.and_eq_true] at h
      exact dap_cons (sE e G h.1).p (sPs es G h.2) (star_of (good_of h.1))
theorem sAnd : ∀ (es : Es) {S : Sg} {sc0 sc : Scope} {as : List Expr} {X : Cx}, Good S N sc0 sc X → mEs S.St N sc es as = true → as ≠ [] → ∀ pos, PE X (.BoolOp .And as pos) (RdV S.g (evAnds S.C es)) ∧ PW X (.BoolOp .And as pos) (RdT S.g (tst (evAnds S.C es)))
  | .nil, S, sc0, sc, as, X, G, h, hne, pos => by
    cases as with
    | nil => exact absurd rfl hne
    | cons _ _ => cases h
  | .cons e es, S, sc0, sc, as, X, G, h, hne, pos => by
    cases as with
    | nil => exact absurd rfl hne
    | cons a as =>
      simp only [mEs, Bool.and_eq_true] at h
      have q := sE e G h.1.2
      have q' := fun hn => sAnd es G h.2 hn pos
      cases es with
      | nil =>
        cases as with
        | nil => exact ⟨pe_one (q.v h.1.1), pw_and1 q.t⟩
        | cons _ _ => cases h.2
      | cons e' es =>
        cases as with
        | nil => cases h.2
        | cons a' as =>
          obtain ⟨q1, q2⟩ := q' (by simp)
          exact ⟨de_and (q.v h.1.1) q1, dw_and q.t q2⟩
theorem sOr : ∀ (es : Es) {S : Sg} {sc0 sc : Scope} {as : List Expr} {X : Cx}, Good S N sc0 sc X → mEs S.St N sc es as = true → as ≠ [] → ∀ pos, PE X (.BoolOp .Or as pos) (RdV S.g (evOrs S.C es)) ∧ PW X (.BoolOp .Or as pos) (RdT S.g (tst (evOrs S.C es)))
  | .nil, S, sc0, sc, as, X, G, h, hne, pos => by
    cases as with
    | nil => exact absurd rfl hne
    | cons _ _ => cases h
  | .cons e es, S, sc0, sc, as, X, G, h, hne, pos => by
    cases as with
    | nil => exact absurd rfl hne
    | cons a as =>
      simp only [mEs, Bool.and_eq_true] at h
      have q := sE e G h.1.2
      have q' := fun hn => sOr es G h.2 hn pos
      cases es with
      | nil =>
        cases as with
        | nil => exact ⟨pe_one (q.v h.1.1), pw_or1 q.t⟩
        | cons _ _ => cases h.2
      | cons e' es =>
        cases as with
        | nil => cases h.2
        | cons a' as =>
          obtain ⟨q1, q2⟩ := q' (by simp)
          exact ⟨de_or (q.v h.1.1) q1, dw_or q.t q2⟩
theorem sI : ∀ (it : It) {S : Sg} {sc0 sc : Scope} {tg a : Expr} {X : Cx}, Good S N sc0 sc X → mI S.St N sc it tg a = true → PI X tg a (RdI S.g (evI S.C it))
  | .seq e, S, sc0, sc, tg, a, X, G, h => by
    simp only [mI, Bool.and_eq_true] at h
    exact di_seq G.hK ((sE e G h.2).v h.1)
  | .range1 e, S, sc0, sc, tg, a, X, G, h => by
    cases a with
    | Call fn as kws pos =>
      cases fn with
      | Name x p =>
        match as, kws, h with
        | [a], [], h =>
          simp only [mI, Bool.and_eq_true, decide_eq_true_eq] at h
          obtain ⟨⟨⟨rfl, hg⟩, hv⟩, he⟩ := h
          have hs := star_of (es := []) (env := X.env) (good_of he)
          exact di_range1 (G.gl hg) (G.bi (by decide +kernel)) (da_cons ((sE e G he).v hv) da_nil hs) hs
        | [], _, h => cases h
        | _ :: _ :: _, _, h => cases h
        | [_], _ :: _, h => cases h
      | _ => cases h
    | _ => cases h
  | .range2 e e', S, sc0, sc, tg, a, X, G, h => by
    cases a with
    | Call fn as kws pos =>
      cases fn with
      | Name x p =>
        match as, kws, h with
        | [a, b], [], h =>
          simp only [mI, Bool.and_eq_true, decide_eq_true_eq] at h
          obtain ⟨⟨⟨⟨⟨rfl, hg⟩, hv⟩, he⟩, hv'⟩, he'⟩ := h
          have hs := star_of (es := [b]) (env := X.env) (good_of he)
          have hs' := star_of (es := []) (env := X.env) (good_of he')
          exact di_range2 (G.gl hg) (G.bi (by decide +kernel)) (da_cons ((sE e G he).v hv) (da_cons ((sE e' G he').v hv') da_nil hs') hs) (by rw [hs, hs']; rfl) hs'
        | [], _, h => cases h
        | [_], _, h => cases h
        | _ :: _ :: _ :: _, _, h => cases h
        | [_, _], _ :: _, h => cases h
      | _ => cases h
    | _ => cases h
  | .zip e e', S, sc0, sc, tg, a, X, G, h => by
    cases a with
    | Call fn as kws pos =>
      cases fn with
      | Name x p =>
        match as, kws, h with
        | [a, b], [], h =>
          simp only [mI, Bool.and_eq_true, decide_eq_true_eq] at h
          obtain ⟨⟨⟨⟨⟨⟨ht, rfl⟩, hg⟩, hv⟩, he⟩, hv'⟩, he'⟩ := h
          have hs := star_of (es := [b]) (env := X.env) (good_of he)
          have hs' := star_of (es := []) (env := X.env) (good_of he')
          cases tg with
          | Tuple elts kk tpos =>
            exact di_zip G.hK (G.gl hg) (G.bi (by decide +kernel)) (da_cons ((sE e G he).v hv) (da_cons ((sE e' G he').v hv') da_nil hs') hs) hs (by rw [hs']; rfl)
          | _ => cases ht
        | [], _, h => cases h
        | [_], _, h => cases h
        | _ :: _ :: _ :: _, _, h => cases h
        | [_, _], _ :: _, h => cases h
      | _ => cases h
    | _ => cases h
  | .enum e, S, sc0, sc, tg, a, X, G, h => by
    cases a with
    | Call fn as kws pos =>
      cases fn with
      | Name x p =>
        match as, kws, h with
        | [a], [], h =>
          simp only [mI, Bool.and_eq_true, decide_eq_true_eq] at h
          obtain ⟨⟨⟨⟨ht, rfl⟩, hg⟩, hv⟩, he⟩ := h
          have hs := star_of (es := []) (env := X.env) (good_of he)
          cases tg with
          | Tuple elts kk tpos => exact di_enum G.hK (G.gl hg) (G.bi (by decide +kernel)) (da_cons ((sE e G he).v hv) da_nil hs) hs
          | _ => cases ht
        | [], _, h => cases h
        | _ :: _ :: _, _, h => cases h
        | [_], _ :: _, h => cases h
      | _ => cases h
    | _ => cases h
theorem sIfE : ∀ (it : It) {S : Sg} {sc : Scope} {tg a : Expr} (env : Env), mI S.St N sc it tg a = true → ∀ x, foldedSetIterable a env x = pure x
  | .seq e, S, sc, tg, a, env, h => by
    simp only [mI, Bool.and_eq_true] at h
    exact fold_of (good_of h.2)
  | .range1 e, S, sc, tg, a, env, h => by
    cases a with
    | Set _ _ _ => cases h
    | Call fn as kws pos => exact fold_of rfl
    | _ => cases h
  | .range2 e e', S, sc, tg, a, env, h => by
    cases a with
    | Set _ _ _ => cases h
    | Call fn as kws pos => exact fold_of rfl
    | _ => cases h
  | .enum e, S, sc, tg, a, env, h => by
    cases a with
    | Set _ _ _ => cases h
    | Call fn as kws pos => exact fold_of rfl
    | _ => cases h
  | .zip e e', S, sc, tg, a, env, h => by
    cases a with
    | Set _ _ _ => cases h
    | Call fn as kws pos => exact fold_of rfl
    | _ => cases h
theorem sIf : ∀ (it : It) {S : Sg} {sc0 sc : Scope} {tg a : Expr} {X : Cx}, Good S N sc0 sc X → mI S.St N sc it tg a = true → ∀ x, foldedSetIterable a X.env x = pure x
  | it, S, sc0, sc, tg, a, X, G, h => sIfE it X.env h
theorem sCond : ∀ (c : Es) {S : Sg} {sc0 sc : Scope} {ifs : List Expr} {X : Cx}, Good S N sc0 sc X → mPs S.St N sc c ifs = true → ifs.length ≤ 1 → PTs X ifs (RdT S.g (evCond S.C c))
  | .nil, S, sc0, sc, ifs, X, G, h, hl => by
    cases ifs with
    | nil => exact dts_nil
    | cons _ _ => cases h
  | .cons e es, S, sc0, sc, ifs, X, G, h, hl => by
    cases ifs with
    | nil => cases h
    | cons a as =>
      cases as with
      | cons _ _ => simp at hl
      | nil =>
        simp only [mPs, Bool.and_eq_true] at h
        cases es with
        | cons _ _ => cases h.2
        | nil => exact pts_one (sE e G h.1).t
end
end
end Ev

set_option Elab.async false
set_option linter.all false
set_option autoImplicit false
set_option maxRecDepth 100000
set_option maxHeartbeats 4000000
/-! Ev9: the small syntax is sound: statements, defs. -/
namespace Ev
open PySem PySem.Spec PyProof.Rows L2

theorem swapsSole_of {e tg : Expr} {l : Nat} {env : Env} (h : isLC e = false) : swapsWithSole [tg] e l env = pure false := swaps_of h
theorem swapped_of {e tg : Expr} {env : Env} (hg : goodT tg = true) (h : (isTupE tg && isTupE e) = false) : swappedStores [tg] e env = pure none := by
  cases tg with
  | Name _ _ => cases e <;> rfl
  | Subscript _ _ _ => cases e <;> rfl
  | Tuple _ _ _ => cases e <;> first | rfl | cases h
  | _ => cases hg
theorem append_pe {X : Cx} {x : Str} {p apos epos : Pos} {e : Expr} (he : goodX e = true) (hl : (apos.endLine == epos.line) = true) (to : TE) (t : TA) (ho : PE X (.Name x p) to) (ha : PA X [e] t) :
    PE X (.Call (.Attribute (.Name x p) "append" apos) [e] [] epos) (tBM X.K "list" rAppend to t) :=
  have hs := star_of (es := []) (env := X.env) he
  pe_bm PySem.F.plainAttrs_list PySem.F.slot_list_append PySem.F.type_list_append mt_append ho ha rfl (by rw [hs]; rfl) hl hs rfl
theorem compOf_some {e : Expr} {sp : Scope × Pos} (h : compOf e = some sp) : (∃ x gs, e = .ListComp x gs sp.1 sp.2) ∨ (∃ k v gs, e = .DictComp k v gs sp.1 sp.2) := by
  cases e with
  | ListComp x gs s p => cases h; exact .inl ⟨_, _, rfl⟩
  | DictComp k v gs s p => cases h; exact .inr ⟨_, _, _, rfl⟩
  | _ => cases h
/-- whether a comprehension is stored by its own statement -/
theorem swaps_comp {X : Cx} {S : Sg} {N : List Str} {sc0 sc : Scope} (G : Good S N sc0 sc X) {e : Expr} {sp : Scope × Pos} {py : Pos} {y : Str} {l : Nat} (hc : compOf e = some sp) :
    swapsWith e (some (.Name y py)) l X.env = pure (lcSwaps sc y py e) := by
  have hk : X.env.scope.kind = .function := by rw [G.hsc]; exact G.fk
  have hb : X.env.blockKind = .function := by unfold Env.blockKind; rw [hk]; rfl
  have hy : (X.env.kindOf y == some .local) = decide (sc.names.lookup y = some .local) := by
    show (X.env.scope.names.lookup y == some .local) = _
    rw [G.hsc, Bool.eq_iff_iff]
    simp
  have hl : lcSwaps sc y py e = (decide (sc.names.lookup y = some .local) && (py.line == sp.2.line) && !(sp.1.names.any fun (n, k) => n == y && (k == .local || k == .cell))) := by
    unfold lcSwaps
    rw [hc]
  rw [hl]
  rcases compOf_some hc with ⟨x, gs, rfl⟩ | ⟨k, v, gs, rfl⟩
  · show (pure (X.env.blockKind == .function && X.env.kindOf y == some .local && py.line == sp.2.line && !(sp.1.names.any fun (n, k) => n == y && (k == .local || k == .cell))) : Sem Bool) = _
    rw [hb, hy]
    rfl
  · show (pure (X.env.blockKind == .function && X.env.kindOf y == some .local && py.line == sp.2.line && !(sp.1.names.any fun (n, k) => n == y && (k == .local || k == .cell))) : Sem Bool) = _
    rw [hb, hy]
    rfl
theorem lcSwaps_loc {X : Cx} {S : Sg} {N : List Str} {sc0 sc : Scope} (G : Good S N sc0 sc X) {e : Expr} {sp : Scope × Pos} {py : Pos} {y : Str} (hc : compOf e = some sp) (h : lcSwaps sc y py e = true) : X.env.scope.names.lookup y = some .local := by
  unfold lcSwaps at h
  rw [hc] at h
  simp only [Bool.and_eq_true, decide_eq_true_eq] at h
  rw [G.hsc]
  exact h.1.1
theorem isF_of {St : Stt} {N : List Str} {sc : Scope} {e : E} {v : Expr} (hlc : isLC v = true) (h : mE St N sc e v = true) : e.isF = true := by
  cases v with
  | ListComp _ _ _ _ => cases e <;> first | rfl | cases h
  | SetComp _ _ _ _ => cases e <;> cases h
  | DictComp _ _ _ _ _ => cases e <;> first | rfl | cases h
  | _ => cases hlc
theorem comp_of {St : Stt} {N : List Str} {sc : Scope} {e : E} {v : Expr} (hlc : isLC v = true) (h : mE St N sc e v = true) : ∃ sp, compOf v = some sp := by
  cases v with
  | ListComp _ _ _ _ => exact ⟨_, rfl⟩
  | SetComp _ _ _ _ => cases e <;> cases h
  | DictComp _ _ _ _ _ => exact ⟨_, rfl⟩
  | _ => cases hlc
section
variable (Z : Sg) (N : List Str)
/-- name = {..}, [..] of two clauses, first open, then frozen -/
theorem xs_seq_frz {X : Cx} {g : Gh} {st : Stmt} {i : Nat} {f : Rho → M D} (h : PS X st (RdS g (xOwn i f))) : PS X st (RdS g (xAsg (.nm i) f)) := by
  refine ⟨fun pins s σ H E I ⟨F0, H0, F, ρ, n, o, n', eo, m, k⟩ => ?_⟩
  obtain ⟨d, n1, e1, e2⟩ := M.bind_some eo
  obtain ⟨ρ', n2, e3, e4⟩ := M.bind_some e2
  obtain ⟨e5, e6⟩ := M.opt_ok e3
  simp only [bindT, Option.some.injEq] at e5 e6
  subst e6
  subst e5
  cases e4
  have hil : i < ρ.length ∨ ρ.length ≤ i := by omega
  refine thn (h.run pins s σ H { E with nx := fun σ' H' => ∃ F', Same F F' ∧ Mdl g F0 H0 F' (ρ.set i (.own d)) n' σ' H' } I ⟨F0, H0, F, ρ, n, .nx (ρ.set i (.own d)), n', by unfold xOwn; rw [M.bind_ap, e1]; rfl, m, fun F' σ' H' s' m' => ⟨F', s', m'⟩⟩) fun fl s' q => ?_
  cases fl with
  | next =>
    obtain ⟨σ', H', I', F', s', m'⟩ := q
    rcases hil with hil | hil
    · have hs : (ρ.set i (.own d))[i]? = some (.own d) := by rw [List.getElem?_set]; simp [hil]
      obtain ⟨a, u, _, hu, mu, q⟩ := m'.freeze hs
      obtain ⟨od, I2⟩ := Inv.frz I' hu mu
      obtain ⟨F2, s2, m2⟩ := q od
      refine ⟨σ', _, I2, k F2 σ' _ (s'.trans s2) ?_⟩
      rw [List.set_set] at m2
      exact m2
    · refine ⟨σ', H', I', k F' σ' H' s' ?_⟩
      rw [List.set_eq_of_length_le (by omega)] at m' ⊢
      exact m'
  | brk => exact q
  | cont => exact q
  | ret u => exact q
/-- name = [..], open or frozen -/
theorem s_lc {sc0 : Scope} {X : Cx} (G : Good Z N sc0 sc0 X) {own' : Bool} {i : Nat} {y : Str} {py pos : Pos} {e : E} {a : Expr} (hN : N[i]? = some y) (hl : locB sc0 y = true) (hF : e.isF = true) (hm : mE Z.St N sc0 e a = true) (hlc : isLC a = true) :
    PS X (.Assign [.Name y py] a pos) (RdS Z.g (if own' = true then xOwn i (ev Z.C e) else xAsg (.nm i) (ev Z.C e))) := by
  obtain ⟨hx, hf⟩ := G.st y hl
  obtain ⟨sp, hcp⟩ := comp_of hlc hm
  have hs := swaps_comp (py := py) (y := y) (l := pos.line) G hcp
  cases hsw : lcSwaps sc0 y py a with
  | false =>
    rw [hsw] at hs
    have q := (sE N e G hm).fr hF
    cases own' with
    | true => exact x_own (by rw [G.hN]; exact G.nd) (by rw [G.hN]; exact hN) (by rw [G.hsc]; exact hx) q hs (by rw [G.hsc]; exact hf)
    | false =>
      have hsd : swappedStores [.Name y py] a X.env = pure none := by cases a <;> rfl
      exact x_asg (frzF q) (dg_nm (by rw [G.hN]; exact G.nd) (by rw [G.hN]; exact hN) (by rw [G.hsc]; exact hx) (by rw [G.hsc]; exact hf)) hs hsd rfl
  | true =>
    rw [hsw] at hs
    have hyl := lcSwaps_loc G hcp hsw
    have fin : ∀ {i' : Nat}, PS X (.Assign [.Name y py] a pos) (RdS Z.g (xOwn i (ev Z.C e))) → PS X (.Assign [.Name y py] a pos) (RdS Z.g (if own' = true then xOwn i (ev Z.C e) else xAsg (.nm i) (ev Z.C e))) := fun q => by
      cases own' with
      | true => exact q
      | false => exact xs_seq_frz q
    cases e with
    | lc own t it c elt =>
      cases a with
      | ListComp x gens scope pos' =>
        simp only [mE] at hm
        split at hm
        · rename_i tg iter ifs hq
          obtain rfl := lcGens_some hq
          simp only [Bool.and_eq_true, decide_eq_true_eq] at hm
          obtain ⟨⟨⟨⟨⟨⟨⟨hb, ho⟩, hi⟩, ht⟩, hc⟩, hl'⟩, hv⟩, he⟩ := hm
          refine x_setLc (own' := own') G.calm (by rw [G.hN]; exact G.nd) (by rw [G.hN]; exact hN) hyl hs (sI N it G hi) (by rw [G.hN, G.hsc]; exact blkOk_by hb) (fun s H C cl fp => (G.blk hb s H C cl fp).tgt ht) (fun s H C cl fp => sCond N (S := Z.off) c (G.blk hb s H C cl fp) hc hl')
            (fun s H C cl fp => (sE N elt (G.blk hb s H C cl fp) he).v hv) (sIf N it G hi) ?_
          intro i hi'
          have := List.all_eq_true.mp ho i hi'
          simpa using this
        · cases hm
      | _ => cases hm
    | lc2 own t it c t1 it1 c1 elt =>
      cases a with
      | ListComp x gens scope pos' =>
        simp only [mE] at hm
        split at hm
        · rename_i tg iter ifs tg1 iter1 ifs1 hq
          obtain rfl := lcGens2_some hq
          simp only [Bool.and_eq_true, decide_eq_true_eq] at hm
          obtain ⟨⟨⟨⟨⟨⟨⟨⟨⟨⟨⟨⟨hb, ho⟩, ho1⟩, hi⟩, ht⟩, hc⟩, hl⟩, hi1⟩, ht1⟩, hc1⟩, hl1⟩, hv⟩, he⟩ := hm
          refine fin (i' := i) (x_setLc2 (own1 := t1.slots) G.calm (by rw [G.hN]; exact G.nd) (by rw [G.hN]; exact hN) hyl hs (sI N it G hi) (by rw [G.hN, G.hsc]; exact blkOk_by hb) ?_ (fun s H C cl fp => (G.blk hb s H C cl fp).tgt ht) (fun s H C cl fp => sCond N (S := Z.off) c (G.blk hb s H C cl fp) hc hl)
            (fun s H C cl fp => sI N (S := Z.off) it1 (G.blk hb s H C cl fp) hi1) (fun s H C cl fp => (G.blk hb s H C cl fp).tgt ht1) (fun s H C cl fp => sCond N (S := Z.off) c1 (G.blk hb s H C cl fp) hc1 hl1)
            (fun s H C cl fp => (sE N elt (G.blk hb s H C cl fp) he).v hv) (sIf N it G hi) (fun env => sIfE N (S := Z.off) it1 env hi1) ?_ (fun i hi => hi))
          · intro i hi'
            have := List.all_eq_true.mp ho1 i hi'
            simpa using this
          · intro i hi'
            have := List.all_eq_true.mp ho i hi'
            simpa using this
        · cases hm
      | _ => cases hm
    | dc own t it c kk vv =>
      cases a with
      | DictComp kx vx gens scope pos' =>
        simp only [mE] at hm
        split at hm
        · rename_i tg iter ifs hq
          obtain rfl := lcGens_some hq
          simp only [Bool.and_eq_true, decide_eq_true_eq] at hm
          obtain ⟨⟨⟨⟨⟨⟨⟨⟨⟨hb, ho⟩, hi⟩, ht⟩, hc⟩, hl⟩, hv⟩, he⟩, hv2⟩, he2⟩ := hm
          refine fin (i' := i) (x_setDc (by have := G.hu; omega) G.hK G.hw G.calm (by rw [G.hN]; exact G.nd) (by rw [G.hN]; exact hN) hyl hs (sI N it G hi) (by rw [G.hN, G.hsc]; exact blkOk_by hb) (fun s H C cl fp => (G.blk hb s H C cl fp).tgt ht) (fun s H C cl fp => sCond N (S := Z.off) c (G.blk hb s H C cl fp) hc hl)
            (fun s H C cl fp => (sE N kk (G.blk hb s H C cl fp) he).v hv) (fun s H C cl fp => (sE N vv (G.blk hb s H C cl fp) he2).v hv2) (sIf N it G hi) ?_)
          intro i hi'
          have := List.all_eq_true.mp ho i hi'
          simpa using this
        · cases hm
      | _ => cases hm
    | _ => cases a <;> first | (cases hcp; done) | (cases hF; done) | (cases hm; done)
mutual
theorem sS : ∀ (st : S) {sc : Scope} {a : Stmt} {X : Cx}, Good Z N sc sc X → mS Z.St N sc st a = true → PS X a (RdS Z.g (xS Z.C st))
  | .ret e, sc, a, X, G, h => by
    cases a with
    | Return v _ =>
      cases v with
      | some a =>
        simp only [mS, Bool.and_eq_true] at h
        exact x_ret ((sE N e G h.2).v h.1)
      | none => cases h
    | _ => cases h
  | .asg t e, sc, a, X, G, h => by
    cases a with
    | Assign tgs v pos =>
      match tgs, h with
      | [tg], h =>
        simp only [mS, Bool.and_eq_true, Bool.not_eq_true'] at h
        obtain ⟨⟨⟨ht, hv⟩, he⟩, hn⟩ := h
        cases hlc : isLC v with
        | false =>
          have hg := goodT_of ht
          exact x_asg ((sE N e G he).v hv) (G.tgt ht) (swapsSole_of hlc) (swapped_of hg hn) (asgEach_of (es := []) hg)
        | true =>
          match t, tg, ht with
          | .nm i, .Name y py, ht =>
            simp only [mT, Bool.and_eq_true, decide_eq_true_eq] at ht
            have hF : e.isF = true := isF_of hlc he
            exact s_lc Z N (own' := false) G ht.1 ht.2 hF he hlc
          | .nm i, .Tuple ts kk tp, ht => cases ht
          | .tp t u, .Tuple ts kk tp, ht =>
            refine x_asg ((sE N e G he).v hv) (G.tgt ht) ?_ ?_ (asgEach_of (es := []) (goodT_of ht))
            · cases v <;> first | rfl | cases hlc
            · cases v <;> first | rfl | cases hlc
          | .tp3 t u w, .Tuple ts kk tp, ht =>
            refine x_asg ((sE N e G he).v hv) (G.tgt ht) ?_ ?_ (asgEach_of (es := []) (goodT_of ht))
            · cases v <;> first | rfl | cases hlc
            · cases v <;> first | rfl | cases hlc
          | .tn is, tg, ht =>
            cases tg with
            | Tuple ts kk tp =>
              refine x_asg ((sE N e G he).v hv) (G.tgt ht) ?_ ?_ (asgEach_of (es := []) (goodT_of ht))
              · cases v <;> first | rfl | cases hlc
              · cases v <;> first | rfl | cases hlc
            | _ => cases ht
          | .tp t u, tg, ht =>
            cases tg with
            | Tuple ts kk tp =>
              refine x_asg ((sE N e G he).v hv) (G.tgt ht) ?_ ?_ (asgEach_of (es := []) (goodT_of ht))
              · cases v <;> first | rfl | cases hlc
              · cases v <;> first | rfl | cases hlc
            | _ => cases ht
          | .tp3 t u w, tg, ht =>
            cases tg with
            | Tuple ts kk tp =>
              refine x_asg ((sE N e G he).v hv) (G.tgt ht) ?_ ?_ (asgEach_of (es := []) (goodT_of ht))
              · cases v <;> first | rfl | cases hlc
              · cases v <;> first | rfl | cases hlc
            | _ => cases ht
          | .nm i, tg, ht =>
            cases tg with
            | Name y py =>
              simp only [mT, Bool.and_eq_true, decide_eq_true_eq] at ht
              have hF : e.isF = true := isF_of hlc he
              exact s_lc Z N (own' := false) G ht.1 ht.2 hF he hlc
            | _ => cases ht
      | [], h => cases h
      | _ :: _ :: _, h => cases h
    | _ => cases h
  | .own i e, sc, a, X, G, h => by
    cases a with
    | Assign tgs v pos =>
      match tgs, h with
      | [.Name x px], h =>
        simp only [mS, Bool.and_eq_true, decide_eq_true_eq] at h
        obtain ⟨⟨⟨hi, hl⟩, hF⟩, he⟩ := h
        obtain ⟨hx, hf⟩ := G.st x hl
        cases hlc : isLC v with
        | false => exact x_own (by rw [G.hN]; exact G.nd) (by rw [G.hN]; exact hi) (by rw [G.hsc]; exact hx) ((sE N e G he).fr hF) (swaps_of hlc) (by rw [G.hsc]; exact hf)
        | true => exact s_lc Z N (own' := true) G hi hl hF he hlc
      | [], h => cases h
      | tg :: _ :: _, h => cases tg <;> cases h
      | [tg], h =>
        cases tg with
        | Name x px =>
          simp only [mS, Bool.and_eq_true, decide_eq_true_eq] at h
          obtain ⟨⟨⟨hi, hl⟩, hF⟩, he⟩ := h
          obtain ⟨hx, hf⟩ := G.st x hl
          cases hlc : isLC v with
          | false => exact x_own (by rw [G.hN]; exact G.nd) (by rw [G.hN]; exact hi) (by rw [G.hsc]; exact hx) ((sE N e G he).fr hF) (swaps_of hlc) (by rw [G.hsc]; exact hf)
          | true => exact s_lc Z N (own' := true) G hi hl hF he hlc
        | _ => cases h
    | _ => cases h
  | .app i e, sc, a, X, G, h => by
    cases a with
    | Expr v pos =>
      cases v with
      | Call fn as kws cp =>
        cases fn with
        | Attribute o m ap =>
          cases o with
          | Name x p =>
            match as, kws, h with
            | [a], [], h =>
              simp only [mS, Bool.and_eq_true, decide_eq_true_eq] at h
              obtain ⟨⟨⟨⟨⟨⟨hi, hx⟩, hn⟩, rfl⟩, hv⟩, he⟩, hl⟩ := h
              have hn' := nm_of hn
              have gx := good_of he
              exact x_app (by rw [G.hN]; exact hi) (by rw [G.hsc]; exact vis_of hx) hn'.1 hn'.2 ((sE N e G he).v hv) (star_of gx) rfl rfl (fun to t ho ha => append_pe gx hl to t ho ha)
            | [], _, h => cases h
            | _ :: _ :: _, _, h => cases h
            | [_], _ :: _, h => cases h
          | _ => cases h
        | _ => cases h
      | _ => cases h
    | _ => cases h
  | .set i b e, sc, a, X, G, h => by
    cases a with
    | Assign tgs v pos =>
      match tgs, h with
      | [tg], h =>
        cases tg with
        | Subscript o y p2 =>
          cases o with
          | Name x p =>
            simp only [mS, Bool.and_eq_true, decide_eq_true_eq] at h
            obtain ⟨⟨⟨⟨⟨⟨hi, hx⟩, hn⟩, hbv⟩, hb⟩, hv⟩, he⟩ := h
            have hn' := nm_of hn
            have gb := good_of hb
            have hlc : isLC v = false ∨ isLC v = true := by cases isLC v <;> simp
            refine x_setA (by have := G.hu; omega) G.hK G.hw (by rw [G.hN]; exact hi) (by rw [G.hsc]; exact vis_of hx) hn'.1 hn'.2 ((sE N e G he).v hv) ((sE N b G hb).v hbv) ?_ ?_ ?_ ?_ rfl
            · intro v
              cases y <;> first | rfl | cases gb
            · cases v <;> rfl
            · cases v <;> rfl
            · cases v <;> rfl
          | _ => cases h
        | _ => cases h
      | [], h => cases h
      | tg :: _ :: _, h =>
        cases tg with
        | Subscript o y p2 => cases o <;> cases h
        | _ => cases h
    | _ => cases h
  | .aug i o e, sc, a, X, G, h => by
    cases a with
    | AugAssign tg op v pos =>
      cases tg with
      | Name x p =>
        simp only [mS, Bool.and_eq_true, Bool.or_eq_true, decide_eq_true_eq] at h
        obtain ⟨⟨⟨⟨⟨hi, hl⟩, rfl⟩, ho⟩, hv⟩, he⟩ := h
        obtain ⟨hx, hf⟩ := G.st x hl
        rcases ho with rfl | rfl
        · exact x_aug (by rw [G.hN]; exact G.nd) (by rw [G.hN]; exact hi) (by rw [G.hsc]; exact hx) ((sE N e G he).v hv) ip_add ip_augAdd (by rw [G.hsc]; exact hf)
        · exact x_aug (by rw [G.hN]; exact G.nd) (by rw [G.hN]; exact hi) (by rw [G.hsc]; exact hx) ((sE N e G he).v hv) ip_sub ip_augSub (by rw [G.hsc]; exact hf)
      | _ => cases h
    | _ => cases h
  | .augIx i o b e, sc, a, X, G, h => by
    cases a with
    | AugAssign tg op v pos =>
      cases tg with
      | Subscript o' y p2 =>
        cases o' with
        | Name x p =>
          simp only [mS, Bool.and_eq_true, Bool.or_eq_true, decide_eq_true_eq] at h
          obtain ⟨⟨⟨⟨⟨⟨⟨⟨hi, hx⟩, hn⟩, rfl⟩, ho⟩, hbv⟩, hb⟩, hv⟩, he⟩ := h
          have hn' := nm_of hn
          have gb := good_of hb
          have hst : ∀ ov iv new, augStore y ov iv new = (do holding [new, ov, iv] (setItem ov iv new); release [new, ov, iv] []; pure .next) := by
            intro ov iv new
            cases y <;> first | rfl | cases gb
          rcases ho with rfl | rfl
          · exact x_augIx (by rw [G.hN]; exact hi) (by rw [G.hsc]; exact vis_of hx) hn'.1 hn'.2 ((sE N e G he).v hv) ((sE N b G hb).v hbv) ip_add ip_augAdd hst
          · exact x_augIx (by rw [G.hN]; exact hi) (by rw [G.hsc]; exact vis_of hx) hn'.1 hn'.2 ((sE N e G he).v hv) ((sE N b G hb).v hbv) ip_sub ip_augSub hst
        | _ => cases h
      | _ => cases h
    | _ => cases h
  | .drop e, sc, a, X, G, h => by
    cases a with
    | Expr v pos =>
      simp only [mS, Bool.and_eq_true, Bool.not_eq_true'] at h
      exact x_drop ((sE N e G h.1.2).v h.1.1) (swaps_of h.2)
    | _ => cases h
  | .ite c a' b', sc, a, X, G, h => by
    cases a with
    | If z x y _ =>
      simp only [mS, Bool.and_eq_true] at h
      exact x_if (sE N c G h.1.1).t (sSs a' G h.1.2) (sSs b' G h.2)
    | _ => cases h
  | .for_ t it b, sc, a, X, G, h => by
    cases a with
    | For tg iter x oe _ =>
      cases oe with
      | nil =>
        simp only [mS, Bool.and_eq_true] at h
        exact x_for (by rw [G.xe]; exact PassesOwn.never) G.calm (sI N it G h.1.2) (G.tgt h.1.1) (sSs b G h.2) (sIf N it G h.1.2)
      | cons _ _ => cases h
    | _ => cases h
  | .while_ c b, sc, a, X, G, h => by
    cases a with
    | While z x oe _ =>
      cases oe with
      | nil =>
        simp only [mS, Bool.and_eq_true] at h
        exact x_while (by rw [G.xe]; exact PassesOwn.never) (sE N c G h.1).t (sSs b G h.2)
      | cons _ _ => cases h
    | _ => cases h
  | .pass, sc, a, X, G, h => by
    cases a with
    | Pass _ => exact x_pass
    | _ => cases h
  | .brk, sc, a, X, G, h => by
    cases a with
    | Break _ => exact x_break
    | _ => cases h
  | .cont, sc, a, X, G, h => by
    cases a with
    | Continue _ => exact x_cont
    | _ => cases h
  | .lamS i j caps nc N' ps e, sc, a, X, G, h => by
    cases a with
    | Assign tgs v pos =>
      match tgs, h with
      | [tg], h =>
        cases tg with
        | Name x px =>
          cases v with
          | Lambda p body scope lp =>
            simp only [mS, Bool.and_eq_true, decide_eq_true_eq] at h
            obtain ⟨⟨⟨⟨hk, hi⟩, hl⟩, hc⟩, hm⟩ := h
            obtain ⟨hx, hf⟩ := G.st x hl
            have mk := G.mkg hk
            exact x_lam (lp := lp) mk.ok ((lamC_of hc).here G hm) mk.lcl (by rw [G.hN]; exact G.nd) (by rw [G.hN]; exact hi) (by rw [G.hsc]; exact hx) (by rw [G.hsc]; exact hf)
          | _ => cases h
        | _ => cases h
      | [], h => cases h
      | tg :: _ :: _, h => cases tg <;> cases h
    | _ => cases h
  | .retL _ _ _ _ _ _, sc, a, X, G, h => by cases a <;> cases h
  | .setf x cs e, sc, a, X, G, h => by
    cases a with
    | Assign tgs v pos =>
      match tgs, h with
      | [tg], h =>
        cases tg with
        | Attribute o y p2 =>
          cases o with
          | Name z p =>
            simp only [mS, Bool.and_eq_true, decide_eq_true_eq] at h
            obtain ⟨⟨⟨⟨⟨⟨rfl, hm⟩, hi⟩, hv⟩, hn⟩, hev⟩, he⟩ := h
            have hn' := nm_of hn
            have hK : FldOk X.K Z.g x cs := by rw [G.K]; exact Z.fld x cs hm
            exact x_setf hK (by rw [G.hN]; exact hi) (by rw [G.hsc]; exact vis_of hv) hn'.1 hn'.2 ((sE N e G he).v hev)
          | _ => cases h
        | _ => cases h
      | [], h => cases h
      | tg :: _ :: _, h =>
        cases tg with
        | Attribute o y p2 => cases o <;> cases h
        | _ => cases h
    | _ => cases h
  | .ext i e, sc, a, X, G, h => by
    cases a with
    | Expr v pos =>
      cases v with
      | Call fn as kws cp =>
        cases fn with
        | Attribute o m ap =>
          cases o with
          | Name x p =>
            match as, kws, h with
            | [a], [], h =>
              simp only [mS, Bool.and_eq_true, decide_eq_true_eq] at h
              obtain ⟨⟨⟨⟨⟨⟨hi, hx⟩, hn⟩, rfl⟩, hv⟩, he⟩, hl⟩ := h
              have hn' := nm_of hn
              exact x_ext (by rw [G.hN]; exact hi) (by rw [G.hsc]; exact vis_of hx) hn'.1 hn'.2 ((sE N e G he).v hv) (star_of (good_of he)) hl
            | [], _, h => cases h
            | _ :: _ :: _, _, h => cases h
            | [_], _ :: _, h => cases h
          | _ => cases h
        | _ => cases h
      | _ => cases h
    | _ => cases h
  | .bad, sc, a, X, G, h => ps_wk (t := fun _ _ _ => False) ⟨fun _ _ _ _ _ _ z => z.elim⟩ fun E σ H ⟨_, _, _, _, _, _, _, z, _⟩ => (nomatch z)
theorem sSs : ∀ (ss : Ss) {sc : Scope} {as : List Stmt} {X : Cx}, Good Z N sc sc X → mSs Z.St N sc ss as = true → PSs X as (RdS Z.g (xSs Z.C ss))
  | .nil, sc, as, X, G, h => by
    cases as with
    | nil => exact xs_nil
    | cons _ _ => cases h
  | .cons st ss, sc, as, X, G, h => by
    cases as with
    | nil => cases h
    | cons a as =>
      simp only [mSs, Bool.and_eq_true] at h
      exact xs_cons (sS st G h.1) (sSs ss G h.2)
  | .frz i ss, sc, as, X, G, h => by
    simp only [mSs] at h
    exact xs_frz (sSs ss G h)
  | .bad, sc, as, X, G, h => pss_wk (t := fun _ _ _ => False) ⟨fun _ _ _ _ _ _ z => z.elim⟩ fun E σ H ⟨_, _, _, _, _, _, _, z, _⟩ => (nomatch z)
end
theorem ret_frz {X : Cx} {g : Gh} {rest : List Stmt} {i : Nat} {fb : Rho → M Out} (h2 : RetOk X rest g fb) : RetOk X rest g (xSeq (xFrz i) fb) := by
  intro s σ H F0 H0 F ρ n d n' Q I e m k
  obtain ⟨o1, n1, e1, e⟩ := M.bind_some e
  unfold xFrz at e1
  split at e1
  · rename_i d' hd
    cases e1
    obtain ⟨a, u, _, hu, mu, q⟩ := m.freeze hd
    obtain ⟨od, I2⟩ := Inv.frz I hu mu
    obtain ⟨F', s', m'⟩ := q od
    exact h2 _ σ _ F0 H0 F' _ n d n' Q I2 e m' k
  · cases e1
    exact h2 _ σ _ F0 H0 F _ n d n' Q I e m k
theorem mSsR_cons {St : Stt} {N : List Str} {sc : Scope} {st : S} {ss : Ss} {a : Stmt} {as : List Stmt} (h : mSsR St N sc (.cons st ss) (a :: as) = true) :
    (∃ j caps nc N' ps e p body scope lp rp, st = .retL j caps nc N' ps e ∧ ss = .nil ∧ a = .Return (some (.Lambda p body scope lp)) rp ∧ as = []) ∨ (mS St N sc st a && mSsR St N sc ss as) = true := by
  rw [mSsR.eq_def] at h
  split at h
  · rename_i h1 h2
    cases h1
    cases h2
    exact .inl ⟨_, _, _, _, _, _, _, _, _, _, _, rfl, rfl, rfl, rfl⟩
  · rename_i h1 h2
    cases h1
    cases h2
    exact .inr h
  · rename_i h1
    cases h1
  · cases h
theorem sSsR : ∀ (ss : Ss) {sc : Scope} {as : List Stmt} {X : Cx}, Good Z N sc sc X → MkG Z.g X → mSsR Z.St N sc ss as = true → RetOk X as Z.g (xSs Z.C ss)
  | .nil, sc, as, X, G, mk, h => by simp [mSsR] at h
  | .bad, sc, as, X, G, mk, h => by simp [mSsR] at h
  | .frz i ss, sc, as, X, G, mk, h => by
    simp only [mSsR] at h
    exact ret_frz (sSsR ss G mk h)
  | .cons st ss, sc, as, X, G, mk, h => by
    cases as with
    | nil =>
      cases st <;> first | (simp [mSsR] at h; done) | (cases ss <;> simp [mSsR] at h)
    | cons a as =>
      have val : (mS Z.St N sc st a && mSsR Z.St N sc ss as) = true → RetOk X (a :: as) Z.g (xSs Z.C (.cons st ss)) := fun h => by
        simp only [Bool.and_eq_true] at h
        exact ret_cons (sS Z N st G h.1) (sSsR ss G mk h.2)
      by_cases hl : ∃ j caps nc N' ps e p body scope lp rp, st = .retL j caps nc N' ps e ∧ ss = .nil ∧ a = .Return (some (.Lambda p body scope lp)) rp ∧ as = []
      · obtain ⟨j, caps, nc, N', ps, e, p, body, scope, lp, rp, rfl, rfl, rfl, rfl⟩ := hl
        simp only [mSsR, Bool.and_eq_true] at h
        have q := ret_lam (lp := lp) (pos := rp) mk.ok mk.fn ((lamC_of h.1).here G h.2)
        intro s σ H F0 H0 F ρ n d n' Q I e' m k
        refine q s σ H F0 H0 F ρ n d n' Q I ?_ m k
        obtain ⟨o, n1, e1, e2⟩ := M.bind_some e'
        obtain ⟨d', n2, e3, e4⟩ := M.bind_some e1
        cases e4
        cases e2
        show (do let d ← evLam j caps ρ; pure (.rt d) : M Out) n = _
        rw [M.bind_ap, e3]
        rfl
      · refine val ?_
        rcases mSsR_cons h with z | z
        · exact absurd z hl
        · exact z
end

/-! ### defs -/
structure FD where
  name : Str
  np : Nat
  N : List Str
  body : Ss
  /-- it makes lambdas -/
  mkr : Bool
inductive Fn where
  | defn (fd : FD)
  | prim (c : List D → M D)
  /-- one that calls back -/
  | primC (c : (Nat → List D → M D) → List D → M D)
  /-- the making of an instance of the class c -/
  | init (fd : FD) (c : Nat)
abbrev Tab := List (Nat × Fn)
def runF (o : Out) : M D := match o with
  | .rt d => pure d
  | .nx _ => pure .none
  | _ => M.fail
def initF (o : Out) : M D := match o with
  | .nx ρ => match (ρ[0]? : Option Sl) with
    | some (.slf d) => pure d
    | _ => M.fail
  | _ => M.fail
def rho0 (N : List Str) (ds : List D) : Rho := ds.map Sl.val ++ List.replicate (N.length - ds.length) .un
def rhoI (N : List Str) (c : Nat) (ds : List D) : Rho := .slf (.obj c [] []) :: (ds.map Sl.val ++ List.replicate (N.length - (ds.length + 1)) .un)
def callF (T : Tab) : Nat → Nat → List D → M D
  | 0, _, _ => M.fail
  | k + 1, f, ds => match T.lookup f with
    | some (.defn fd) => if ds.length = fd.np then (do let o ← xSs (callF T k) fd.body (rho0 fd.N ds); runF o) else M.fail
    | some (.prim c) => c ds
    | some (.primC c) => c (callF T k) ds
    | some (.init fd c) => if ds.length + 1 = fd.np then (do let o ← xSs (callF T k) fd.body (rhoI fd.N c ds); initF o) else M.fail
    | none => M.fail

theorem mdl_start {g : Gh} {F H : Hp} {n : Nat} {N : List Str} {ds : List D} {vs : List V} (hl : ds.length ≤ N.length) (s : Same F (vis g H)) (P : PoolAt g n H) (r : RepAll g F vs ds) : Mdl g F H F (rho0 N ds) n (L2.start N vs) H := by
  have hlen := r.length
  refine ⟨Grow.refl, P.p0, s, P, by simp [rho0, L2.start, hlen], fun i sl e => ?_, fun i j di dj a e1 e2 e3 e4 => ?_⟩
  · unfold rho0 at e
    by_cases hi : i < ds.length
    · rw [List.getElem?_append_left (by simpa using hi), List.getElem?_map, Option.map_eq_some_iff] at e
      obtain ⟨d, e, rfl⟩ := e
      obtain ⟨v, hv, rv⟩ := r.get e
      refine ⟨v, ?_, rv⟩
      unfold L2.start
      rw [List.getElem?_append_left (by simp; omega), List.getElem?_map, hv]
      rfl
    · rw [List.getElem?_append_right (by simpa using hi), List.getElem?_replicate] at e
      split at e
      · cases e; trivial
      · cases e
  · exfalso
    unfold rho0 at e1
    by_cases hi : i < ds.length
    · rw [List.getElem?_append_left (by simpa using hi), List.getElem?_map, Option.map_eq_some_iff] at e1
      obtain ⟨d, e1, z⟩ := e1
      cases z
    · rw [List.getElem?_append_right (by simpa using hi), List.getElem?_replicate] at e1
      split at e1 <;> cases e1
theorem mdl_startI {g : Gh} {F B : Hp} {n c : Nat} {N : List Str} {ds : List D} {vs : List V} {dx A : Addr} (hl : ds.length + 1 ≤ N.length) (s : Same F (vis g B)) (P : PoolAt g n B) (r : RepAll g F vs ds) (hc : g.cls c = some A) (h1 : B g.slf = none) (h2 : B dx = none) (ne : dx ≠ g.slf) :
    Mdl g F B F (rhoI N c ds) n (L2.start N (.ref g.slf :: vs)) (upd (upd B dx (.own g.slf)) g.slf (.ins A dx [])) := by
  have hlen := r.length
  have P1 : PoolAt g n (upd B dx (.own g.slf)) := P.upd h2
  have h3 : upd B dx (.own g.slf) g.slf = none := by rw [upd_ne ne.symm]; exact h1
  have s1 : Same F (vis g (upd B dx (.own g.slf))) := sub_new s P h2
  refine ⟨(Grow.new P h2).trans (Grow.new P1 h3), P.p0, sub_new s1 P1 h3, P1.upd h3, by simp [rhoI, L2.start, hlen], fun i sl e => ?_, fun i j di dj a e1 e2 e3 e4 => ?_⟩
  · cases i with
    | zero =>
      cases e
      exact ⟨A, dx, c, [], [], [], rfl, rfl, hc, upd_same, rfl, .nil, sub_none s h1, h1⟩
    | succ i =>
      have e2 : (ds.map Sl.val ++ List.replicate (N.length - (ds.length + 1)) .un)[i]? = some sl := e
      clear e
      by_cases hi : i < ds.length
      · rw [List.getElem?_append_left (by simpa using hi), List.getElem?_map, Option.map_eq_some_iff] at e2
        obtain ⟨d, e3, rfl⟩ := e2
        obtain ⟨v, hv, rv⟩ := r.get e3
        refine ⟨v, ?_, rv⟩
        unfold L2.start
        rw [List.getElem?_append_left (by simp; omega), List.map_cons, List.getElem?_cons_succ, List.getElem?_map, hv]
        rfl
      · rw [List.getElem?_append_right (by simpa using hi), List.getElem?_replicate] at e2
        split at e2
        · cases e2; trivial
        · cases e2
  · exfalso
    cases i with
    | zero => cases e1
    | succ i =>
      have e1 : (ds.map Sl.val ++ List.replicate (N.length - (ds.length + 1)) .un)[i]? = some (.own di) := e1
      by_cases hi : i < ds.length
      · rw [List.getElem?_append_left (by simpa using hi), List.getElem?_map, Option.map_eq_some_iff] at e1
        obtain ⟨d, e1, z⟩ := e1
        cases z
      · rw [List.getElem?_append_right (by simpa using hi), List.getElem?_replicate] at e1
        split at e1 <;> cases e1

/-! ### the frame's own part of what is known -/
def Gh.fr (g : Gh) (l : LamT → List (Str × Addr)) (a : Addr) : Gh := { g with lcl := l, slf := a }
section
variable {g : Gh} {l : LamT → List (Str × Addr)} {a : Addr}
mutual
theorem Rep.fr : ∀ {F : Hp} {v : V} {d : D}, Rep g F v d → Rep (g.fr l a) F v d
  | _, _, _, .non => .non
  | _, _, _, .bl b => .bl b
  | _, _, _, .int i => .int i
  | _, _, _, .str x => .str x
  | _, _, _, .tup h r => .tup h (RepAll.fr r)
  | _, _, _, .lst h r => .lst h (RepAll.fr r)
  | _, _, _, .pool => .pool
  | _, _, _, .scr h => .scr h
  | _, _, _, .dictK h r => .dictK h (RepAll.fr r)
  | _, _, _, .dictT h o r1 r2 => .dictT h ⟨o.key, o.hash, o.nd⟩ (RepAll.fr r1) (RepAll.fr r2)
  | _, _, _, .clo h1 h2 h3 h0 h4 r => .clo h1 h2 h3 h0 h4 (RepAll.fr r)
  | _, _, _, .obj h1 h2 h3 r => .obj h1 h2 h3 (RepAll.fr r)
theorem RepAll.fr : ∀ {F : Hp} {vs : List V} {ds : List D}, RepAll g F vs ds → RepAll (g.fr l a) F vs ds
  | _, _, _, .nil => .nil
  | _, _, _, .cons h r => .cons (Rep.fr h) (RepAll.fr r)
end
theorem Rep.unfr {F : Hp} {v : V} {d : D} (r : Rep (g.fr l a) F v d) : Rep g F v d := Rep.fr (g := g.fr l a) (l := g.lcl) (a := g.slf) r
theorem RepAll.unfr {F : Hp} {vs : List V} {ds : List D} (r : RepAll (g.fr l a) F vs ds) : RepAll g F vs ds := RepAll.fr (g := g.fr l a) (l := g.lcl) (a := g.slf) r
theorem PoolAt.fr {n : Nat} {H : Hp} (P : PoolAt g n H) : PoolAt (g.fr l a) n H := ⟨fun hl => have Q := P.pool hl; ⟨Q.p, Q.r, Q.c, Q.np, Q.nr⟩, P.tabs⟩
theorem PoolAt.unfr {n : Nat} {H : Hp} (P : PoolAt (g.fr l a) n H) : PoolAt g n H := PoolAt.fr (g := g.fr l a) (l := g.lcl) (a := g.slf) P
theorem Grow.fr {F H F' H' : Hp} (x : Grow g F H F' H') : Grow (g.fr l a) F H F' H' := ⟨x.f, x.h, x.c, x.nw⟩
theorem Grow.unfr {F H F' H' : Hp} (x : Grow (g.fr l a) F H F' H') : Grow g F H F' H' := Grow.fr (g := g.fr l a) (l := g.lcl) (a := g.slf) x
variable {P : Program} {w : World} {K : PySem.W.Frag} {mg : Str → Option Value} {base : Heap} {k : Nat}
theorem CallOk.fr {u : Value} {C : List D → M D} (L : CallOk P w K mg base g k u C) : CallOk P w K mg base (g.fr l a) k u C :=
  fun A outer s H F us vs ds n d n' Q E hr e0 sm P1 r rv e kk => L A outer s H F us vs ds n d n' Q E hr e0 sm P1.unfr r.unfr rv e fun v F' H' g1 s1 P2 r2 => kk v F' H' g1.fr s1 P2.fr r2.fr
theorem LamOk.fr {C : Nat → List D → M D} (L : LamOk P w K mg base g k C) : LamOk P w K mg base (g.fr l a) k C :=
  fun n A outer s H F f caps args us ws nn d n' Q E hr e0 sm P1 r r2 hn rv e kk => L n A outer s H F f caps args us ws nn d n' Q E hr e0 sm P1.unfr r.unfr r2.unfr hn rv e fun v F' H' g1 s1 P2 r2 => kk v F' H' g1.fr s1 P2.fr r2.fr
end

/-! ### what stands behind a name -/
/-- a def at a -/
structure DefAt (K : PySem.W.Frag) (base : Heap) (mg : Str → Option Value) (g : Gh) (St : Stt) (fd : FD) (a : Addr) : Prop where
  ex : ∃ d nm qual st, Fun K nm qual st a d ∧ Binds K d (fd.N.take fd.np) [] ∧ FnScope fd.N (fd.N.take fd.np) (defScope st) ∧ fd.np ≤ fd.N.length ∧
    (if fd.mkr = true then (mSs St.on fd.N (defScope st) fd.body (defBody st) = true ∨ mSsR St.on fd.N (defScope st) fd.body (defBody st) = true) ∧
        ∃ c T : Addr, d.code = .ref c ∧ LamX.TabB base mg c T ∧ (T, (qual ++ ".<locals>.") ++ "<lambda>") ∈ g.tabs ∧ ∀ p ∈ g.tabs, p.1 = T → p.2 = (qual ++ ".<locals>.") ++ "<lambda>"
      else mSs St.off fd.N (defScope st) fd.body (defBody st) = true)
structure InitAt (K : PySem.W.Frag) (base : Heap) (mg : Str → Option Value) (g : Gh) (St : Stt) (fd : FD) (c : Nat) (A : Addr) : Prop where
  ex : ∃ f, L2.Mk K A f ∧ g.cls c = some A ∧ 1 ≤ fd.np ∧ (∃ d nm qual st, Fun K nm qual st f d ∧ Binds K d (fd.N.take fd.np) [] ∧ FnScope fd.N (fd.N.take fd.np) (defScope st) ∧ fd.np ≤ fd.N.length ∧
    (if fd.mkr = true then mSs St.on fd.N (defScope st) fd.body (defBody st) = true ∧
        ∃ c T : Addr, d.code = .ref c ∧ LamX.TabB base mg c T ∧ (T, (qual ++ ".<locals>.") ++ "<lambda>") ∈ g.tabs ∧ ∀ p ∈ g.tabs, p.1 = T → p.2 = (qual ++ ".<locals>.") ++ "<lambda>"
      else mSs St.off fd.N (defScope st) fd.body (defBody st) = true))
def FnVal (P : Program) (w : World) (K : PySem.W.Frag) (mg : Str → Option Value) (base : Heap) (g : Gh) (T : Tab) (St : Stt) (a : Addr) (f : Nat) : Prop :=
  (∃ fd, T.lookup f = some (.defn fd) ∧ DefAt K base mg g St fd a) ∨ (∃ c, T.lookup f = some (.prim c) ∧ CallOk P w K mg base g 1 (.ref a) c) ∨
    (∃ fd c, T.lookup f = some (.init fd c) ∧ InitAt K base mg g St fd c a) ∨ (∃ c, T.lookup f = some (.primC c) ∧ ∀ k C, LamOk P w K mg base g k C → CallOk P w K mg base g (k + 2) (.ref a) (c C))
def FnIs (P : Program) (w : World) (K : PySem.W.Frag) (mg : Str → Option Value) (base : Heap) (g : Gh) (T : Tab) (St : Stt) (f : Nat) (x : Str) : Prop :=
  ∃ a, mg x = some (.ref a) ∧ PySem.W.keepIn K (.ref a) = true ∧ FnVal P w K mg base g T St a f
/-- the text's defs, as they stand behind the top -/
structure TabOk (P : Program) (w : World) (K : PySem.W.Frag) (mg : Str → Option Value) (base : Heap) (g : Gh) (T : Tab) (St : Stt) : Prop where
  hK : g.K = K
  hw : g.w = w
  bi : ∀ x ∈ biNames, mg x = none
  cnOk : ∀ x d, (x, d) ∈ St.cns → ∃ v u, mg x = some u ∧ RelV v u ∧ ∀ F : Hp, Rep g F v d
  fns : ∀ f x, St.fns.lookup f = some x → FnIs P w K mg base g T St f x
  lamE : g.lam = LamP St.off
  lamT : ∀ j ld, St.lams.lookup j = some ld → ∃ nm m, T.lookup j = some (.defn ⟨nm, (ld.N.take ld.nc).length + ld.ps.length, ld.N, .cons (.ret ld.e) .nil, m⟩)
  fld : ∀ x cs, (x, cs) ∈ St.flds → FldOk K g x cs
  mth : ∀ x tb, (x, tb) ∈ St.mths → ∀ c j, tb.lookup c = some j → ∀ A, g.cls c = some A → ∃ f, Cls K A ∧ Meth K A x f ∧ FnVal P w K mg base g T St f j
end Ev

set_option Elab.async false
set_option linter.all false
set_option autoImplicit false
set_option maxRecDepth 100000
set_option maxHeartbeats 4000000
/-! Ev9b: all that the table tells is so. -/
namespace Ev
open PySem PySem.Spec PyProof.Rows L2

section
variable {P : Program} {w : World} {K : PySem.W.Frag} {mg : Str → Option Value} {base : Heap} {g : Gh}
theorem CallOk.mono {j k : Nat} {u : Value} {C : List D → M D} (L : CallOk P w K mg base g j u C) (h : j ≤ k) : CallOk P w K mg base g k u C :=
  fun A outer s H F us vs ds n d n' Q E hr => L A outer s H F us vs ds n d n' Q E (hr.mono h)
/-- a def whose body ends in a return, maybe of a lambda -/
theorem fn_ret {k : Nat} {f : Addr} {nm qual : Str} {prm : Arguments} {bd : List Stmt} {sc : Scope} {dV kV doc pm cdv ct oc : Value} {an od : Option Addr} {osl : Array (Option Value)} {N ps : List Str} {sp : Sp}
    (look : K.lookup f = some ⟨oc, od, .func (PySem.W.fnOf nm qual prm bd sc dV kV doc pm an cdv ct), osl⟩) (code : PySem.W.codeIn K cdv qual = true) (S : FnScope N ps sc) (len : ∀ vs H Q E, sp vs H Q E → vs.length = ps.length)
    (run : ∀ (A : Around) (outer : List Env) (s : Shared) (H : Hp) (vs : List V) (Q : VK) (E : XK) (s1 : Shared), Room k (A.deeper (envOfC qual sc s.heap.objs.size f cdv)) → sp vs H Q E → Inv (cxOf CX0 P w K mg base N qual sc f cdv A outer s H E).nox [] (L2.start N vs) H s1 →
      wpAny (model P w) (A.deeper (envOfC qual sc s.heap.objs.size f cdv)) (execs bd (envOfC qual sc s.heap.objs.size f cdv)) (fun fl s' => ∃ u, fl = .ret u ∧ ∃ v H', s'.os = s.os ∧ AllBare s'.gens ∧ Un (frs outer) [] H H' s.heap s'.heap ∧ HOk P w H' s'.heap ∧ RelV v u ∧ Q v H') (fun _ _ => False) s1) :
    FnOk P w K mg base CX0 (k + 1) f (PySem.W.fnOf nm qual prm bd sc dV kV doc pm an cdv ct) ps sp := by
  refine ⟨len, fun A outer s H args us vs Q E room e0 bind rel want => ?_⟩
  have nl := len _ _ _ _ want
  have inK := Env0.kin e0
  have nolim : s.heap.NoLimit := e0.mod.nolimit.keeps fun b o e => (e0.bs b o e).1
  have kinds : ∀ y ∈ ps.zip us, sc.names.lookup y.1 = some .local ∨ (sc.names.lookup y.1 = some .cell ∧ ((cellsFrom (s.heap.objs.size + 1) sc.names []).lookup y.1).isSome = true) := fun y hy =>
    (S.par y.1 (List.of_mem_zip hy).1).imp id fun z => ⟨z, PySem.W.cellsFrom_some _ _ _ (.inl z)⟩
  refine codeAny_call_function room.depth (inK _ _ look) rfl S.co S.gen rfl (PySem.W.codeRec_of inK code) (bind _ _ _ _ ?_)
  refine wpAny_newFunctionEnv_cells S.kind kinds fun env he s1 x => ?_
  subst he
  refine ⟨nolim.keeps x.toInCall.keep, codeAny_func ?_⟩
  have J : Inv (cxOf CX0 P w K mg base N qual sc f cdv A outer s H E) [] (L2.start N vs) H s1 := inv_start S room.hd e0 nl rel x
  refine wpAny_mono (run A outer s H vs Q E s1 (room.deeper _) want (J.wish _)) (fun fl s' ⟨u, ef, v, H', h1, h2, h3, h4, h5, h6⟩ => ?_) fun _ _ z => z.elim
  subst ef
  exact ⟨v, H', h1, h2, h3, h4, h5, h6⟩
end
def lvl (k : Nat) : Nat := 2 * k + 2
theorem noNx {St : Stt} {N : List Str} {C : Nat → List D → M D} : ∀ (ss : Ss) {sc : Scope} {as : List Stmt} {ρ ρ' : Rho} {n n' : Nat}, mSsR St N sc ss as = true → xSs C ss ρ n = some (.nx ρ', n') → False
  | .nil, sc, as, ρ, ρ', n, n', h, e => by simp [mSsR] at h
  | .bad, sc, as, ρ, ρ', n, n', h, e => by simp [mSsR] at h
  | .frz i ss, sc, as, ρ, ρ', n, n', h, e => by
    simp only [mSsR] at h
    obtain ⟨o, n1, e1, e2⟩ := M.bind_some e
    unfold xFrz at e1
    split at e1 <;> cases e1 <;> exact noNx ss h e2
  | .cons st ss, sc, as, ρ, ρ', n, n', h, e => by
    cases as with
    | nil => cases st <;> first | (simp [mSsR] at h; done) | (cases ss <;> simp [mSsR] at h)
    | cons a as =>
      obtain ⟨o, n1, e1, e2⟩ := M.bind_some e
      rcases mSsR_cons h with ⟨j, caps, nc, N', ps, e', p, body, scope, lp, rp, rfl, rfl, rfl, rfl⟩ | h
      · obtain ⟨d', n2, e3, e4⟩ := M.bind_some e1
        cases e4
        cases e2
      · simp only [Bool.and_eq_true] at h
        cases o with
        | nx ρ1 => exact noNx ss h.2 e2
        | rt _ => cases e2
        | bk _ => cases e2
        | ct _ => cases e2
section
variable {P : Program} {w : World} {K : PySem.W.Frag} {mg : Str → Option Value} {base : Heap} {g : Gh} {T : Tab} {St : Stt}
theorem cn_fr (O : TabOk P w K mg base g T St) {l : LamT → List (Str × Addr)} {a : Addr} : ∀ x d, (x, d) ∈ St.cns → ∃ v u, mg x = some u ∧ RelV v u ∧ ∀ F : Hp, Rep (g.fr l a) F v d := fun x d h => by
  obtain ⟨v, u, h1, h2, h3⟩ := O.cnOk x d h
  exact ⟨v, u, h1, h2, fun F => (h3 F).fr⟩
/-- what all is known in a frame -/
def sgOf (O : TabOk P w K mg base g T St) (k : Nat) (ih : (∀ a f, FnVal P w K mg base g T St a f → CallOk P w K mg base g (lvl k) (.ref a) (callF T k f)) ∧ LamOk P w K mg base g (lvl k) (callF T k)) (b : Bool) (l : LamT → List (Str × Addr)) (a : Addr) : Sg :=
  { P := P, w := w, K := K, mg := mg, base := base, g := g.fr l a, k := lvl k, C := callF T k, St := { St with mkr := b }, hK := O.hK, hw := O.hw, bi := O.bi, cn := cn_fr O,
    fn := fun f x hf => by
      obtain ⟨a, h1, h2, h3⟩ := O.fns f x hf
      exact ⟨a, h1, h2, (ih.1 a f h3).fr⟩
    lamE := O.lamE
    lamOk := ih.2.fr
    fld := O.fld
    mth := fun x tb h c j hj A hA => by
      obtain ⟨f, h1, h2, h3⟩ := O.mth x tb h c j hj A hA
      exact ⟨f, h1, h2, (ih.1 f j h3).fr⟩ }
theorem lam_sound (O : TabOk P w K mg base g T St) (k : Nat) (ih : (∀ a f, FnVal P w K mg base g T St a f → CallOk P w K mg base g (lvl k) (.ref a) (callF T k f)) ∧ LamOk P w K mg base g (lvl k) (callF T k)) : LamOk P w K mg base g (lvl k + 1) (callF T (k + 1)) := by
  intro j A outer s H F f caps args us ws nn d n' Q E hr e0 sm P1 r r2 hno rv e kk
  obtain ⟨f', c', L, cl, pm, ctv, cs, vs, ef, hL, hF, hc', cok, cF, rc⟩ := rep_clo r
  cases ef
  rw [O.lamE] at hL
  obtain ⟨ld, hld, tx⟩ := hL
  have hld : St.lams.lookup j = some ld := hld
  obtain ⟨nm, mm, hT⟩ := O.lamT j ld hld
  unfold callF at e
  rw [hT] at e
  simp only at e
  split at e
  case isFalse => cases e
  rename_i hlen
  obtain ⟨o, n1, e1, e2⟩ := M.bind_some e
  obtain ⟨o2, n2, e3, e4⟩ := M.bind_some e1
  obtain ⟨d2, n3, e5, e6⟩ := M.bind_some e3
  cases e6
  cases e4
  cases e2
  have l1 := cF.len
  have l2 := rc.length
  have l3 := r2.length
  rw [List.length_append, ← tx.caps] at hlen
  have hl : ws.length = ld.ps.length := by omega
  have hNl : (caps ++ args).length ≤ ld.N.length := by
    have := congrArg List.length tx.sc.pre
    rw [List.length_take, List.length_append] at this
    rw [List.length_append]
    omega
  have acH : AllCell H cs := fun c hc => by
    obtain ⟨o, h⟩ := cF.all c hc
    exact ⟨o, (vis_some (sm c _ h)).2⟩
  have hokc : ∀ c o, F c = some (CellP o) → s.heap.get? c = some o := fun c o h => (e0.hok c _ (vis_some (sm c _ h)).2).1
  have nf : ∀ c ∈ cs, c ∉ frs outer := fun c hc z => by
    obtain ⟨o, h⟩ := acH c hc
    rw [e0.frf c z] at h
    cases h
  obtain ⟨qf, _⟩ := e0.hok f _ (vis_some (sm _ _ hF)).2
  obtain ⟨⟨oc, vs', t, h1, h2, h3⟩, _⟩ := e0.hok c' _ (vis_some (sm _ _ hc')).2
  have caps_ok : CapsAre s.heap (eraseL H cs) cl L.caps vs := ⟨l1, fun j x v q1 q2 => by
    obtain ⟨c, o, u, a1, a2, a3, a4, a5⟩ := cF.at q1 q2
    exact ⟨c, u, a1, a4, ⟨o, hokc c o a2, a3⟩, er_in a5⟩⟩
  have args_ok : RepAll g (eraseL F cs) (vs ++ ws) (caps ++ args) := rc.append (r2.erase cF.all hno)
  let S := sgOf O k ih false (fun _ => []) 0
  have key := lam_run (CX := CX0) (E := E) (k := lvl k) (N := ld.N) (Q := fun v H' => ∃ F', Grow g (eraseL F cs) (eraseL H cs) F' H' ∧ Same F' (vis g H') ∧ PoolAt g n' H' ∧ Rep g F' v d) qf ⟨c', oc, vs', t, rfl, h1, h2, h3⟩ tx.sc cok caps_ok hr (Env0.erase acH e0)
    (tx.bd L.qual cl pm (.ref c') ctv us (by rw [← rv.length]; exact hl)) hl rv (fun hr' => by
      have G : Good S ld.N L.scope L.scope (lcx CX0 P w K mg base ld.N L.qual L.scope (cellsFrom (s.heap.objs.size + 1) L.scope.names cl) f c' A outer s (eraseL H cs) E).nox :=
        ⟨rfl, rfl, rfl, rfl, rfl, rfl, tx.sc.nd, rfl, fun x hx => by
          have q := loc_of hx
          rcases q with q | q
          · exact ⟨.inl q, .inr q⟩
          · exact ⟨.inr q, .inl (decide_eq_true q)⟩, tx.sc.kind, rfl, hr', rfl, fun z => nomatch z⟩
      refine ⟨_, ((sE ld.N ld.e G tx.ms).v tx.isV).nox, ?_⟩
      refine ⟨eraseL F cs, eraseL H cs, eraseL F cs, rho0 ld.N (caps ++ args), nn, d, n', e5, mdl_start hNl (sub_erase sm) (poolAt_erase acH P1).fr args_ok.fr, fun v F' H' g1 s1 P2 r3 => ⟨F', g1.unfr, s1, P2.unfr, r3.unfr⟩⟩)
  refine codeAny_mono key fun r s' hq => ?_
  cases r with
  | error e => exact hq
  | ok fl =>
    cases fl with
    | next => exact hq
    | brk => exact hq
    | cont => exact hq
    | ret u =>
      obtain ⟨v, H', os, bare, un, ok', rv', F', g1, s1, P2, r3⟩ := hq
      obtain ⟨un2, ok2, gone⟩ := un_pin acH e0.hok nf un ok'
      have hFH : ∀ c ∈ cs, F c = H c := fun c hc => by
        obtain ⟨o, h⟩ := cF.all c hc
        rw [h, (vis_some (sm c _ h)).2]
      have hh : ∀ c ∈ cs, ¬ hid g c := fun c hc => by
        obtain ⟨o, h⟩ := cF.all c hc
        exact (vis_some (sm c _ h)).1
      obtain ⟨g2, s2, s3⟩ := grow_pin hFH hh sm gone g1 s1
      exact ⟨v, pinL H H' cs, os, bare, un2, ok2, rv', kk v _ _ g2 s2 (pool_pin gone P2) (r3.mono s3)⟩
/-- a def -/
theorem def_sound (O : TabOk P w K mg base g T St) (k : Nat) (ih : (∀ a f, FnVal P w K mg base g T St a f → CallOk P w K mg base g (lvl k) (.ref a) (callF T k f)) ∧ LamOk P w K mg base g (lvl k) (callF T k)) {f : Nat} {a : Addr} {fd : FD} (h : T.lookup f = some (.defn fd)) (at_ : DefAt K base mg g St fd a) : CallOk P w K mg base g (lvl k + 1) (.ref a) (callF T (k + 1) f) := by
  obtain ⟨d, nm, qual, st, hfn, hb, sc, hnp, hbody⟩ := at_.ex
  have inv : ∀ {ds : List D} {n : Nat} {r : D × Nat}, callF T (k + 1) f ds n = some r → ds.length = fd.np ∧ ∃ o n1, xSs (callF T k) fd.body (rho0 fd.N ds) n = some (o, n1) ∧ runF o n1 = some r := fun {ds n r} q => by
    unfold callF at q
    rw [h] at q
    simp only at q
    split at q
    · rename_i hl
      obtain ⟨o, n1, e1, e2⟩ := M.bind_some q
      exact ⟨hl, o, n1, e1, e2⟩
    · cases q
  have len : ∀ vs H Q E, spF g (callF T (k + 1) f) vs H Q E → vs.length = (fd.N.take fd.np).length := fun vs H Q E ⟨F, n, ds, d', n', q1, q2, q3, q4, q5⟩ => by
    have := (inv q4).1
    rw [q3.length, this, List.length_take]
    omega
  obtain ⟨oc, od, kV, doc, pm, an, cdv, ct, osl, ed, lk, hcd⟩ := hfn.ex
  subst ed
  refine callOk_fn (ps := fd.N.take fd.np) ?_ hb
  have goodAt : ∀ (b : Bool) (A : Around) (outer : List Env) (s : Shared) (H : Hp) (E : XK), (b = true → ∃ c T : Addr, LamX.TabB base mg c T ∧ cdv = .ref c ∧ (T, (qual ++ ".<locals>.") ++ "<lambda>") ∈ g.tabs ∧ ∀ p ∈ g.tabs, p.1 = T → p.2 = (qual ++ ".<locals>.") ++ "<lambda>") →
      Room (lvl k) (A.deeper (envOfC qual (defScope st) s.heap.objs.size a cdv)) → Good (sgOf O k ih b (fun L => cloFrom (cellsFrom (s.heap.objs.size + 1) (defScope st).names []) L.scope.names []) 0) fd.N (defScope st) (defScope st) (cxOf CX0 P w K mg base fd.N qual (defScope st) a cdv A outer s H E).nox := fun b A outer s H E mk hr =>
    ⟨rfl, rfl, rfl, rfl, rfl, rfl, sc.nd, rfl, fun x hx => ⟨loc_of hx, .inl rfl⟩, sc.kind, rfl, hr, rfl, fun z => ⟨⟨mk z⟩, fun _ => rfl, fun _ => rfl⟩⟩
  have plain : ∀ (b : Bool), (b = true → ∃ c T : Addr, LamX.TabB base mg c T ∧ cdv = .ref c ∧ (T, (qual ++ ".<locals>.") ++ "<lambda>") ∈ g.tabs ∧ ∀ p ∈ g.tabs, p.1 = T → p.2 = (qual ++ ".<locals>.") ++ "<lambda>") → mSs { St with mkr := b } fd.N (defScope st) fd.body (defBody st) = true →
      FnOk P w K mg base CX0 (lvl k + 1) a (PySem.W.fnOf nm qual (defArgs st) (defBody st) (defScope st) .none kV doc pm an cdv ct) (fd.N.take fd.np) (spF g (callF T (k + 1) f)) := fun b mk hm => by
    refine fn_of lk hcd sc len fun A outer s H vs Q E hr ⟨F, n, ds, d', n', q1, q2, q3, q4, q5⟩ => ?_
    obtain ⟨hl, o, n1, e1, e2⟩ := inv q4
    refine ⟨_, (sSs _ fd.N fd.body (goodAt b A outer s H E mk hr) hm).nox, ?_⟩
    have m := mdl_start (g := g.fr (fun L => cloFrom (cellsFrom (s.heap.objs.size + 1) (defScope st).names []) L.scope.names []) 0) (N := fd.N) (by omega) q1 q2.fr q3.fr
    refine ⟨F, H, F, rho0 fd.N ds, n, o, n1, e1, m, ?_⟩
    cases o with
    | rt r =>
      cases e2
      exact fun v F' H' gr s' P' rv => q5 v F' H' gr.unfr s' P'.unfr rv.unfr
    | nx ρ =>
      cases e2
      exact fun F' σ' H' sm m' => q5 .non F' H' m'.gr.unfr m'.sub m'.pool.unfr .non
    | bk ρ => cases e2
    | ct ρ => cases e2
  split at hbody
  · obtain ⟨hbody, c, Tb, hc, hTB, hin, hun⟩ := hbody
    have hc : cdv = .ref c := hc
    have mk : ∃ c T : Addr, LamX.TabB base mg c T ∧ cdv = .ref c ∧ (T, (qual ++ ".<locals>.") ++ "<lambda>") ∈ g.tabs ∧ ∀ p ∈ g.tabs, p.1 = T → p.2 = (qual ++ ".<locals>.") ++ "<lambda>" := ⟨c, Tb, hTB, hc, hin, hun⟩
    rcases hbody with hm | hm
    · exact plain true (fun _ => mk) hm
    · refine fn_ret lk hcd sc len fun A outer s H vs Q E s1 hr ⟨F, n, ds, d', n', q1, q2, q3, q4, q5⟩ J => ?_
      obtain ⟨hl, o, n1, e1, e2⟩ := inv q4
      have G := goodAt true A outer s H E (fun _ => mk) hr
      have m := mdl_start (g := g.fr (fun L => cloFrom (cellsFrom (s.heap.objs.size + 1) (defScope st).names []) L.scope.names []) 0) (N := fd.N) (by omega) q1 q2.fr q3.fr
      cases o with
      | rt r =>
        cases e2
        exact sSsR _ fd.N fd.body G (G.mkg rfl) hm s1 _ H F H F (rho0 fd.N ds) n d' n' Q J e1 m fun v F' H' g1 s' P' rv => q5 v F' H' g1.unfr s' P'.unfr rv.unfr
      | nx ρ => exact (noNx fd.body hm e1).elim
      | bk ρ => cases e2
      | ct ρ => cases e2
  · exact plain false (fun z => nomatch z) hbody
/-- the making of an instance -/
theorem init_sound (O : TabOk P w K mg base g T St) (k : Nat) (ih : (∀ a f, FnVal P w K mg base g T St a f → CallOk P w K mg base g (lvl k) (.ref a) (callF T k f)) ∧ LamOk P w K mg base g (lvl k) (callF T k)) {f c : Nat} {a : Addr} {fd : FD} (h : T.lookup f = some (.init fd c)) (at_ : InitAt K base mg g St fd c a) : CallOk P w K mg base g (lvl k + 2) (.ref a) (callF T (k + 1) f) := by
  obtain ⟨fi, hmk, hcls, hp1, d, nm, qual, st, hfn, hb, sc, hnp, hbody⟩ := at_.ex
  have inv : ∀ {ds : List D} {n : Nat} {r : D × Nat}, callF T (k + 1) f ds n = some r → ds.length + 1 = fd.np ∧ ∃ o n1, xSs (callF T k) fd.body (rhoI fd.N c ds) n = some (o, n1) ∧ initF o n1 = some r := fun {ds n r} q => by
    unfold callF at q
    rw [h] at q
    simp only at q
    split at q
    · rename_i hl
      obtain ⟨o, n1, e1, e2⟩ := M.bind_some q
      exact ⟨hl, o, n1, e1, e2⟩
    · cases q
  have len : ∀ vs H Q E, spI g c (callF T (k + 1) f) vs H Q E → vs.length = (fd.N.take fd.np).length := fun vs H Q E ⟨x, dx, A, ws, B, F, n, ds, d', n', q0, _, _, _, _, _, _, _, q3, q4, _⟩ => by
    have := (inv q4).1
    rw [q0, List.length_cons, q3.length, this, List.length_take]
    omega
  obtain ⟨oc, od, kV, doc, pm, an, cdv, ct, osl, ed, lk, hcd⟩ := hfn.ex
  subst ed
  refine callOk_make (k := lvl k + 1) (ps := fd.N.take fd.np) hmk hcls ?_ hb
  have plain : ∀ (b : Bool), (b = true → ∃ c T : Addr, LamX.TabB base mg c T ∧ cdv = .ref c ∧ (T, (qual ++ ".<locals>.") ++ "<lambda>") ∈ g.tabs ∧ ∀ p ∈ g.tabs, p.1 = T → p.2 = (qual ++ ".<locals>.") ++ "<lambda>") → mSs { St with mkr := b } fd.N (defScope st) fd.body (defBody st) = true →
      FnOk P w K mg base CX0 (lvl k + 1) fi (PySem.W.fnOf nm qual (defArgs st) (defBody st) (defScope st) .none kV doc pm an cdv ct) (fd.N.take fd.np) (spI g c (callF T (k + 1) f)) := fun b mk hm => by
    refine fn_of lk hcd sc len fun A outer s H vs Q E hr ⟨x, dx, Ac, ws, B, F, n, ds, d', n', q0, qc, qx, qdx, qne, qH, q1, q2, q3, q4, q5⟩ => ?_
    subst q0
    obtain ⟨hl, o, n1, e1, e2⟩ := inv q4
    have G : Good (sgOf O k ih b (fun L => cloFrom (cellsFrom (s.heap.objs.size + 1) (defScope st).names []) L.scope.names []) x) fd.N (defScope st) (defScope st) (cxOf CX0 P w K mg base fd.N qual (defScope st) fi cdv A outer s H E).nox :=
      ⟨rfl, rfl, rfl, rfl, rfl, rfl, sc.nd, rfl, fun x hx => ⟨loc_of hx, .inl rfl⟩, sc.kind, rfl, hr, rfl, fun z => ⟨⟨mk z⟩, fun _ => rfl, fun _ => rfl⟩⟩
    refine ⟨_, (sSs _ fd.N fd.body G hm).nox, ?_⟩
    have m := mdl_startI (g := g.fr (fun L => cloFrom (cellsFrom (s.heap.objs.size + 1) (defScope st).names []) L.scope.names []) x) (N := fd.N) (c := c) (A := Ac) (dx := dx) (by omega) q1 q2.fr q3.fr qc qx qdx qne
    subst qH
    refine ⟨F, B, F, rhoI fd.N c ds, n, o, n1, e1, m, ?_⟩
    cases o with
    | rt r => cases e2
    | bk ρ => cases e2
    | ct ρ => cases e2
    | nx ρ =>
      have e2 : (match (ρ[0]? : Option Sl) with
        | some (.slf d) => (pure d : M D)
        | _ => M.fail) n1 = some (d', n') := e2
      cases hd : (ρ[0]? : Option Sl) with
      | none => rw [hd] at e2; cases e2
      | some sl =>
      rw [hd] at e2
      cases sl with
      | un => cases e2
      | val _ => cases e2
      | own _ => cases e2
      | lam _ => cases e2
      | slf dd =>
      cases e2
      intro F' σ' H' sm m'
      obtain ⟨C2, dx2, c2, ns, vs2, ds2, rfl, h1, h2, h3, h4, h5, h6, h7⟩ := m'.slot 0 _ hd
      have h3 : H' x = some (.ins C2 dx2 (ns.zip vs2)) := h3
      have h6 : F' x = none := h6
      have ne := H0_ne m'.p0 h7
      have nc : ¬ hid g x := ne.nh
      refine q5 (upd F' x (.ins C2 dx2 (ns.zip vs2))) H' (m'.gr.unfr.freeze qx h6) (sub_frz m'.sub h3 nc) m'.pool.unfr (.obj h2 upd_same h4 (h5.unfr.mono (same_upd h6)))
  split at hbody
  · obtain ⟨hm, c, Tb, hc, hTB, hin, hun⟩ := hbody
    have hc : cdv = .ref c := hc
    exact plain true (fun _ => ⟨c, Tb, hTB, hc, hin, hun⟩) hm
  · exact plain false (fun z => nomatch z) hbody
theorem fns_sound (O : TabOk P w K mg base g T St) : ∀ k, (∀ a f, FnVal P w K mg base g T St a f → CallOk P w K mg base g (lvl k) (.ref a) (callF T k f)) ∧ LamOk P w K mg base g (lvl k) (callF T k)
  | 0 => ⟨fun a f _ A outer s H F us vs ds n d n' Q E _ _ _ _ _ _ z _ => (by cases z), fun j A outer s H F f caps args us ws nn d n' Q E _ _ _ _ _ _ _ _ z _ => (by cases z)⟩
  | k + 1 => by
    have ih := fns_sound O k
    have up : lvl k + 2 = lvl (k + 1) := by unfold lvl; omega
    refine ⟨fun a f h => ?_, fun j A outer s H F f caps args us ws nn d n' Q E hr => lam_sound O k ih j A outer s H F f caps args us ws nn d n' Q E (hr.mono (by unfold lvl; omega))⟩
    rcases h with ⟨fd, h, D⟩ | ⟨c, h, L⟩ | ⟨fd, c, h, D⟩ | ⟨c, h, L⟩
    · exact (def_sound O k ih h D).mono (by omega)
    · have e : callF T (k + 1) f = c := by
        funext ds
        unfold callF
        rw [h]
      rw [e]
      exact L.mono (by unfold lvl; omega)
    · exact (init_sound O k ih h D).mono (by omega)
    · have e : callF T (k + 1) f = c (callF T k) := by
        funext ds
        conv => lhs; unfold callF
        rw [h]
      rw [e]
      exact (L _ _ ih.2).mono (by omega)
end
end Ev

set_option Elab.async false
set_option linter.all false
set_option autoImplicit false
set_option maxRecDepth 100000
set_option maxHeartbeats 4000000
/-! Ev10: the law's pool and its draws, the law's own def. -/
namespace Ev
open PySem PySem.Spec PyProof.Rows L2

/-! ### a draw -/
def drawI (rows : List Int) (n : Nat) (m : Int) : Int := (rows.getD (n % rows.length) 0 + ((n / rows.length : Nat) : Int) * 1013 + ((n / rows.length : Nat) : Int) * (n : Int) * 7).fmod m
def drawC (rows : List Int) : List D → M D := fun ds n => match ds with
  | [.pool, .int m] => if 0 < m ∧ 0 < rows.length ∧ rows.length < 1073741824 ∧ n < 1152921504606846976 then some (.int (drawI rows n m), n + 1) else none
  | _ => none
/-- the body of the law's draw, at any places -/
inductive DrawBody : List Stmt → Prop
  | mk (p1 p2 p3 p4 p5 p6 p7 p8 p9 p10 p11 p12 p13 p14 p15 p16 p17 p18 p19 p20 p21 p22 p23 p24 p25 p26 p27 p28 p29 p30 p31 p32 p33 p34 p35 p36 p37 p38 p39 p40 p41 p42 p43 p44 p45 p46 p47 p48 p49 p50 p51 : Pos) : DrawBody [.Assign [(.Name "at" p1)] (.Subscript (.Subscript (.Name "pool" p2) (.Constant (.int 1) 0 p3) p4) (.Constant (.int 0) 0 p5) p6) p7,
    .Assign [(.Subscript (.Subscript (.Name "pool" p8) (.Constant (.int 1) 0 p9) p10) (.Constant (.int 0) 0 p11) p12)] (.BinOp (.Name "at" p13) .Add (.Constant (.int 1) 0 p14) p15) p16,
    .Assign [(.Name "turn" p17)] (.BinOp (.Name "at" p18) .FloorDiv (.Call (.Name "len" p19) [(.Subscript (.Name "pool" p20) (.Constant (.int 0) 0 p21) p22)] [] p23) p24) p25,
    .Return (some (.BinOp (.Call (.Name "int" p47) [(.BinOp (.BinOp (.Subscript (.Subscript (.Name "pool" p26) (.Constant (.int 0) 0 p27) p28) (.BinOp (.Name "at" p29) .Mod (.Call (.Name "len" p30) [(.Subscript (.Name "pool" p31) (.Constant (.int 0) 0 p32) p33)] [] p34) p35) p36) .Add (.BinOp (.Name "turn" p37) .Mult (.Constant (.int 1013) 0 p38) p39) p40) .Add (.BinOp (.BinOp (.Name "turn" p41) .Mult (.Name "at" p42) p43) .Mult (.Constant (.int 7) 0 p44) p45) p46)] [] p48) .Mod (.Name "many" p49) p50)) p51]
def drawScope : Scope := { kind := .function, names := [("pool", .local), ("many", .local), ("at", .local), ("turn", .local), ("len", .globalImplicit), ("int", .globalImplicit)], isGenerator := false, isCoroutine := false, more := [] }
theorem drawFS : FnScope ["pool", "many", "at", "turn"] ["pool", "many"] drawScope := ⟨rfl, rfl, rfl, by decide +kernel, rfl, by decide +kernel, by decide +kernel⟩
theorem tabs_at {T : List (Addr × Str)} {H : Hp} {p : Addr} {vs : List V} {o : HO} (t : LamX.Tabs T H) (hp : H p = some (.lst vs)) : LamX.Tabs T (upd H p o) := fun x hx => by
  obtain ⟨ps, h1, h2, h3⟩ := t x hx
  have ne : ∀ b u, H b = some u → (∀ vs, u ≠ .lst vs) → b ≠ p := fun b u e k z => by
    rw [z, hp] at e
    exact k vs (Option.some.inj e).symm
  refine ⟨ps, by rw [upd_ne (ne _ _ h1 fun _ z => nomatch z)]; exact h1, h2, fun pos cv hc => ?_⟩
  obtain ⟨c, e1, e2⟩ := h3 pos cv hc
  exact ⟨c, e1, by rw [upd_ne (ne _ _ e2 fun _ z => nomatch z)]; exact e2⟩
section
variable {P : Program} {w : World} {K : PySem.W.Frag} {mg : Str → Option Value} {base : Heap}
theorem seq0 {α : Type} {xs : List α} {v : α} (h : xs[0]? = some v) : atI xs 0 = some v := atI_nat (j := 0) h
theorem seq1 {α : Type} {xs : List α} {v : α} (h : xs[1]? = some v) : atI xs 1 = some v := atI_nat (j := 1) h
theorem draw_ok {g : Gh} {a : Addr} {d : FuncData} {st : Stmt} (hl : g.live = true) (F : Fun K "_law_draw" "_law_draw" st a d) (hs : defScope st = drawScope) (hb : DrawBody (defBody st)) (m1 : mg "len" = none) (m2 : mg "int" = none) :
    FnOk P w K mg base CX0 1 a d ["pool", "many"] (spF g (drawC g.rows)) := by
  refine F.ok (by rw [hs]; exact drawFS) (fun vs H Q E ⟨F, n, ds, dd, n', q1, q2, q3, q4, q5⟩ => ?_) (fun cdv A outer s H vs Q E hr ⟨F, n, ds, dd, n', q1, q2, q3, q4, q5⟩ => ?_)
  · unfold drawC at q4
    split at q4
    · cases q3 with
      | cons _ t => cases t with
        | cons _ t => cases t; rfl
    · cases q4
  · unfold drawC at q4
    split at q4
    case h_2 => cases q4
    rename_i m
    split at q4
    case isFalse => cases q4
    rename_i hc
    obtain ⟨hm, hr0, hr1, hn⟩ := hc
    cases q4
    cases q3 with
    | cons r1 t =>
    cases t with
    | cons r2 t =>
    cases t
    cases r1
    cases r2
    have Q2 := q2.pool hl
    have hu := hu_of hr
    rw [hs]
    generalize defBody st = bd at hb
    cases hb
    have nd := drawFS.nd
    refine ⟨_, pss_cons (ps_set (i := 2) nd rfl (.inl rfl) (pe_ix ix_list (pe_ix ix_list (pv 0) pe_int (fun _ _ => rfl)) pe_int (fun _ _ => rfl)))
      (pss_cons (ps_asg (pe_op op_add (pv 2) pe_int) (pg_sub (pe_ix ix_list (pv 0) pe_int (fun _ _ => rfl)) pe_int set_list))
      (pss_cons (ps_set (i := 3) nd rfl (.inl rfl) (pe_op op_fdivN (pv 2) (pe_callB call_len_seq (by rfl) m1 PySem.boot_len (pa_cons (pe_ix ix_list (pv 0) pe_int (fun _ _ => rfl)) pa_nil))))
      (pss_one (ps_ret (pe_op op_modN (pe_callTy call_int1 (by rfl) m2 boot_int (pa_cons (pe_op op_add (pe_op op_add (pe_ix ix_list (pe_ix ix_list (pv 0) pe_int (fun _ _ => rfl)) (pe_op op_modN (pv 2) (pe_callB call_len_seq (by rfl) m1 PySem.boot_len (pa_cons (pe_ix ix_list (pv 0) pe_int (fun _ _ => rfl)) pa_nil))) (fun _ _ => rfl)) (pe_op op_mul (pv 3) pe_int)) (pe_op op_mul (pe_op op_mul (pv 3) (pv 2)) pe_int)) pa_nil)) (pv 1)))))), ?_⟩
    have hp2 : ∀ o, (upd H g.pc o) g.pp = some (.lst [.ref g.pr, .ref g.pc]) := fun o => by rw [upd_ne Q2.np.symm]; exact Q2.p
    have hr2 : ∀ o, (upd H g.pc o) g.pr = some (.lst (g.rows.map V.int)) := fun o => by rw [upd_ne Q2.nr.symm]; exact Q2.r
    have hL : ((g.rows.map V.int).length : Int) = (g.rows.length : Int) := by rw [List.length_map]
    -- at = pool[1][0]
    refine ⟨_, rfl, g.pp, _, 1, .ref g.pc, rfl, rfl, .of Q2.p, seq1 rfl, g.pc, _, 0, .int n, rfl, rfl, .of Q2.c, seq0 rfl, ?_⟩
    -- pool[1][0] = at + 1
    refine ⟨_, rfl, _, 1, rfl, rfl, _, rfl, g.pp, _, 1, .ref g.pc, rfl, rfl, .of Q2.p, seq1 rfl, g.pc, _, 0, 0, rfl, rfl, Q2.c, rfl, ?_⟩
    -- turn = at // len(pool[0])
    refine ⟨_, rfl, _, rfl, g.pp, _, 0, .ref g.pr, rfl, rfl, .of (hp2 _), seq0 rfl, g.pr, _, rfl, .inl (.of (hr2 _)), _, _, rfl, rfl, ⟨by rw [hL]; omega, by rw [hL]; omega⟩, ?_⟩
    -- return
    have e1 : Int.fdiv (n : Int) ((g.rows.map V.int).length : Int) = ((n / g.rows.length : Nat) : Int) := by
      rw [hL, Int.fdiv_eq_ediv_of_nonneg _ (by omega)]; rfl
    have e2 : Int.fmod (n : Int) ((g.rows.map V.int).length : Int) = ((n % g.rows.length : Nat) : Int) := by
      rw [hL, Int.fmod_eq_emod_of_nonneg _ (by omega)]; rfl
    have hlt : n % g.rows.length < g.rows.length := Nat.mod_lt _ hr0
    have hd : n / g.rows.length ≤ n := Nat.div_le_self _ _
    have ht0 : -(2 ^ 64) < ((n / g.rows.length : Nat) : Int) := Int.lt_of_lt_of_le (by decide) (Int.natCast_nonneg _)
    have ht1 : ((n / g.rows.length : Nat) : Int) < 2 ^ 64 := Int.lt_of_le_of_lt (Int.ofNat_le.mpr hd) (by omega)
    refine ⟨_, rfl, g.pp, _, 0, .ref g.pr, rfl, rfl, .of (hp2 _), seq0 rfl, _, rfl, _, rfl, g.pp, _, 0, .ref g.pr, rfl, rfl, .of (hp2 _), seq0 rfl, g.pr, _, rfl, .inl (.of (hr2 _)), _, _, rfl, rfl, by rw [hL]; omega, ?_⟩
    refine ⟨g.pr, _, _, .int (g.rows.getD (n % g.rows.length) 0), rfl, rfl, .of (hr2 _), ?_, ?_⟩
    · rw [e2]
      refine atI_nat ?_
      rw [List.getElem?_map, List.getD_eq_getElem?_getD, List.getElem?_eq_getElem hlt]
      rfl
    refine ⟨_, rfl, _, _, rfl, rfl, .inr ⟨by decide, by decide⟩, _, _, rfl, rfl, _, rfl, _, rfl, _, _, rfl, rfl, .inl ⟨by rw [e1]; exact ht0, by rw [e1]; exact ht1⟩, _, _, rfl, rfl, .inr ⟨by decide, by decide⟩, _, _, rfl, rfl, ?_⟩
    refine .inl ⟨_, rfl, _, rfl, _, _, rfl, rfl, by omega, ?_⟩
    rw [e1]
    refine q5 (.int (drawI g.rows n m)) F _ ⟨Same.refl _, fun b o e => ?_, fun b _ z => ?_, fun _ _ _ _ => rfl⟩ (fun b o e => ?_) ⟨fun _ => ?_, tabs_at q2.tabs Q2.c⟩ (.int _)
    · obtain ⟨h1, h2⟩ := vis_some e
      rw [vis_ne h1, upd_ne (fun z => h1 (.inl ⟨hl, z⟩))]
      exact h2
    · by_cases hb : b = g.pc
      · rw [hb, upd_same]; rfl
      · rw [upd_ne hb]; exact z
    · obtain ⟨h1, h2⟩ := vis_some (q1 b o e)
      rw [vis_ne h1, upd_ne (fun z => h1 (.inl ⟨hl, z⟩))]
      exact h2
    · exact ⟨hp2 _, hr2 _, by rw [upd_same]; rfl, Q2.np, Q2.nr⟩
end
end Ev

set_option Elab.async false
set_option linter.all false
set_option autoImplicit false
set_option maxRecDepth 100000
set_option maxHeartbeats 4000000
/-! Ev11: weakest preconditions of evaluations. -/
namespace Ev
open PySem PySem.Spec PyProof.Rows L2

def wq {α : Type} (x : M α) (n : Nat) (Q : α → Nat → Prop) : Prop := ∃ a n', x n = some (a, n') ∧ Q a n'
theorem wq.mono {α : Type} {x : M α} {n : Nat} {Q Q' : α → Nat → Prop} (h : wq x n Q) (k : ∀ a n', Q a n' → Q' a n') : wq x n Q' :=
  let ⟨a, n', e, q⟩ := h; ⟨a, n', e, k a n' q⟩
theorem wq_of {α : Type} {x : M α} {n n' : Nat} {a : α} {Q : α → Nat → Prop} (e : x n = some (a, n')) (q : Q a n') : wq x n Q := ⟨a, n', e, q⟩
theorem wq_eq {α : Type} {x : M α} {n n' : Nat} {a : α} {Q : α → Nat → Prop} (e : x n = some (a, n')) : wq x n Q ↔ Q a n' :=
  by
  refine ⟨fun ⟨a', n'', e', q⟩ => ?_, fun q => ⟨a, n', e, q⟩⟩
  rw [e] at e'
  cases e'
  exact q
theorem wq_out {α : Type} {x : M α} {n n' : Nat} {a : α} (h : wq x n fun b m => b = a ∧ m = n') : x n = some (a, n') := by
  obtain ⟨b, m, e, rfl, rfl⟩ := h; exact e
@[simp] theorem wq_pure {α : Type} {a : α} {n : Nat} {Q : α → Nat → Prop} : wq (pure a : M α) n Q ↔ Q a n := wq_eq rfl
@[simp] theorem wq_ret {α : Type} {a : α} {n : Nat} {Q : α → Nat → Prop} : wq (M.ret a : M α) n Q ↔ Q a n := wq_eq rfl
@[simp] theorem wq_fail {α : Type} {n : Nat} {Q : α → Nat → Prop} : wq (M.fail : M α) n Q ↔ False := by
  refine ⟨fun ⟨_, _, e, _⟩ => ?_, False.elim⟩
  cases e
@[simp] theorem wq_bind {α β : Type} {x : M α} {f : α → M β} {n : Nat} {Q : β → Nat → Prop} : wq (x >>= f) n Q ↔ wq x n fun a n' => wq (f a) n' Q := by
  constructor
  · rintro ⟨b, n', e, q⟩
    obtain ⟨a, n1, e1, e2⟩ := M.bind_some e
    exact ⟨a, n1, e1, b, n', e2, q⟩
  · rintro ⟨a, n1, e1, b, n', e2, q⟩
    refine ⟨b, n', ?_, q⟩
    rw [M.bind_ap, e1]
    exact e2
@[simp] theorem wq_opt {α : Type} {o : Option α} {n : Nat} {Q : α → Nat → Prop} : wq (M.opt o) n Q ↔ ∃ a, o = some a ∧ Q a n := by
  constructor
  · rintro ⟨a, n', e, q⟩
    obtain ⟨h1, h2⟩ := M.opt_ok e
    simp only at h1 h2
    subst h2
    exact ⟨a, h1, q⟩
  · rintro ⟨a, rfl, q⟩
    exact ⟨a, n, rfl, q⟩
@[simp] theorem wq_ite {α : Type} {c : Prop} [Decidable c] {x y : M α} {n : Nat} {Q : α → Nat → Prop} : wq (if c then x else y) n Q ↔ if c then wq x n Q else wq y n Q := by
  split <;> rfl

theorem opt_bmap {o : Option Bool} {Q : D → Prop} : (∃ a, o.map D.bool = some a ∧ Q a) ↔ ∃ b, o = some b ∧ Q (.bool b) := by
  cases o <;> simp only [Option.map_none, Option.map_some, reduceCtorEq, false_and, exists_false, Option.some.injEq, exists_eq_left']
section
variable {fa fb fc : Rho → M D} {ft : Rho → M Bool} {fr : Rho → M (List D)} {fo fo' : Rho → M (Option Int)} {ρ : Rho} {n : Nat} {Q : D → Nat → Prop}
@[simp] theorem wq_bin {o : BinO} : wq (evBin o fa fb ρ) n Q ↔ wq (fa ρ) n fun x n1 => wq (fb ρ) n1 fun y n2 => ∃ z, binD o x y = some z ∧ Q z n2 := by simp [evBin]
@[simp] theorem wq_cmp {o : CmpO} : wq (evCmp o fa fb ρ) n Q ↔ wq (fa ρ) n fun x n1 => wq (fb ρ) n1 fun y n2 => ∃ z, cmpD o x y = some z ∧ Q (.bool z) n2 := by
  simp only [evCmp, wq_bind, wq_opt, opt_bmap]
@[simp] theorem wq_chain {o o' : CmpO} : wq (evChain o o' fa fb fc ρ) n Q ↔ wq (fa ρ) n fun x n1 => wq (fb ρ) n1 fun y n2 => ∃ c, cmpD o x y = some c ∧ if c = true then wq (fc ρ) n2 fun z n3 => ∃ r, cmpD o' y z = some r ∧ Q (.bool r) n3 else Q (.bool false) n2 := by
  simp only [evChain, wq_bind, wq_opt, wq_ite, wq_pure, opt_bmap]
@[simp] theorem wq_tst {Q : Bool → Nat → Prop} : wq (tst fa ρ) n Q ↔ wq (fa ρ) n fun x n1 => ∃ b, truD x = some b ∧ Q b n1 := by simp [tst]
@[simp] theorem wq_not : wq (evNot fa ρ) n Q ↔ wq (fa ρ) n fun x n1 => ∃ b, x = .bool b ∧ Q (.bool (!b)) n1 := by
  simp only [evNot, wq_bind, wq_opt]
  constructor <;> refine fun h => h.mono fun x n1 => ?_
  · rintro ⟨a, e, q⟩
    cases x <;> simp only [notD, reduceCtorEq] at e
    cases e
    exact ⟨_, rfl, q⟩
  · rintro ⟨b, rfl, q⟩
    exact ⟨_, rfl, q⟩
@[simp] theorem wq_and : wq (evAnd fa fb ρ) n Q ↔ wq (fa ρ) n fun x n1 => ∃ b, x = .bool b ∧ if b = true then wq (fb ρ) n1 Q else Q (.bool false) n1 := by
  simp only [evAnd, wq_bind]
  constructor <;> refine fun h => h.mono fun x n1 => ?_
  · intro h
    cases x <;> try (exact absurd h (by simp))
    rename_i b
    cases b
    · exact ⟨_, rfl, by simpa using h⟩
    · exact ⟨_, rfl, by simpa using h⟩
  · rintro ⟨b, rfl, q⟩
    cases b
    · simpa using q
    · simpa using q
@[simp] theorem wq_or : wq (evOr fa fb ρ) n Q ↔ wq (fa ρ) n fun x n1 => ∃ b, x = .bool b ∧ if b = true then Q (.bool true) n1 else wq (fb ρ) n1 Q := by
  simp only [evOr, wq_bind]
  constructor <;> refine fun h => h.mono fun x n1 => ?_
  · intro h
    cases x <;> try (exact absurd h (by simp))
    rename_i b
    cases b
    · exact ⟨_, rfl, by simpa using h⟩
    · exact ⟨_, rfl, by simpa using h⟩
  · rintro ⟨b, rfl, q⟩
    cases b
    · simpa using q
    · simpa using q
@[simp] theorem wq_if : wq (evIf ft fa fb ρ) n Q ↔ wq (ft ρ) n fun c n1 => if c = true then wq (fa ρ) n1 Q else wq (fb ρ) n1 Q := by simp [evIf]
@[simp] theorem wq_neg : wq (evNeg fa ρ) n Q ↔ wq (fa ρ) n fun x n1 => ∃ z, negD x = some z ∧ Q z n1 := by simp [evNeg]
@[simp] theorem wq_getV {i : Nat} : wq (getV i ρ) n Q ↔ ∃ d, ρ[i]? = some (.val d) ∧ Q d n := by
  constructor
  · rintro ⟨a, n', e, q⟩
    unfold getV at e
    split at e
    · cases e; exact ⟨_, by assumption, q⟩
    · cases e
  · rintro ⟨d, e, q⟩
    exact ⟨d, n, by unfold getV; rw [e], q⟩
def datR : Option Sl → Option D
  | some (.val d) => some d
  | some (.own d) => some d
  | _ => none
@[simp] theorem datR_val (d : D) : datR (some (.val d)) = some d := rfl
@[simp] theorem datR_own (d : D) : datR (some (.own d)) = some d := rfl
@[simp] theorem wq_getP {i : Nat} : wq (getP i ρ) n Q ↔ ∃ d, datR ρ[i]? = some d ∧ Q d n := by
  constructor
  · rintro ⟨a, n', e, q⟩
    unfold getP at e
    split at e
    · rename_i h; cases e; exact ⟨_, by rw [h]; rfl, q⟩
    · rename_i h; cases e; exact ⟨_, by rw [h]; rfl, q⟩
    · cases e
  · rintro ⟨d, e, q⟩
    refine ⟨d, n, ?_, q⟩
    unfold datR at e
    unfold getP
    split at e
    · rename_i h; cases e; first | rw [h] | rfl
    · rename_i h; cases e; first | rw [h] | rfl
    · cases e
@[simp] theorem wq_cst {d : D} : wq (cst d ρ) n Q ↔ Q d n := wq_eq rfl
@[simp] theorem wq_nil {Q : List D → Nat → Prop} : wq (evNil ρ) n Q ↔ Q [] n := wq_eq rfl
@[simp] theorem wq_cons {Q : List D → Nat → Prop} : wq (evCons fa fr ρ) n Q ↔ wq (fa ρ) n fun x n1 => wq (fr ρ) n1 fun r n2 => Q (x :: r) n2 := by simp [evCons]
@[simp] theorem wq_tup : wq (evTup fr ρ) n Q ↔ wq (fr ρ) n fun r n1 => r.length ≤ 16777216 ∧ Q (.tup r) n1 := by
  simp only [evTup, wq_bind, wq_ite, wq_pure, wq_fail]
  constructor <;> refine fun h => h.mono fun x n1 => ?_
  · intro h; split at h
    · exact ⟨by assumption, h⟩
    · exact h.elim
  · rintro ⟨h, q⟩; rw [if_pos h]; exact q
@[simp] theorem wq_lst : wq (evLst fr ρ) n Q ↔ wq (fr ρ) n fun r n1 => r.length ≤ 16777216 ∧ Q (.lst r) n1 := by
  simp only [evLst, wq_bind, wq_ite, wq_pure, wq_fail]
  constructor <;> refine fun h => h.mono fun x n1 => ?_
  · intro h; split at h
    · exact ⟨by assumption, h⟩
    · exact h.elim
  · rintro ⟨h, q⟩; rw [if_pos h]; exact q
@[simp] theorem wq_ix : wq (evIx fa fb ρ) n Q ↔ wq (fa ρ) n fun x n1 => wq (fb ρ) n1 fun y n2 => ∃ z, ixD x y = some z ∧ Q z n2 := by simp [evIx]
@[simp] theorem wq_sl : wq (evSl fa fo fo' ρ) n Q ↔ wq (fa ρ) n fun x n1 => wq (fo ρ) n1 fun l n2 => wq (fo' ρ) n2 fun h n3 => ∃ z, slD x l h = some z ∧ Q z n3 := by simp [evSl]
@[simp] theorem wq_noPart {Q : Option Int → Nat → Prop} : wq (evNoPart ρ) n Q ↔ Q none n := wq_eq rfl
@[simp] theorem wq_part {Q : Option Int → Nat → Prop} : wq (evPart fa ρ) n Q ↔ wq (fa ρ) n fun x n1 => ∃ i, x = .int i ∧ Q (some i) n1 := by
  simp only [evPart, wq_bind, wq_opt]
  constructor <;> refine fun h => h.mono fun x n1 => ?_
  · rintro ⟨a, e, q⟩
    cases x <;> simp only [partD, reduceCtorEq] at e
    cases e
    exact ⟨_, rfl, q⟩
  · rintro ⟨b, rfl, q⟩
    exact ⟨_, rfl, q⟩
@[simp] theorem wq_b {op : List D → Option D} : wq (evB op fr ρ) n Q ↔ wq (fr ρ) n fun xs n1 => ∃ z, op xs = some z ∧ Q z n1 := by simp [evB]
@[simp] theorem wq_bl {op : List D → Option (List D)} : wq (evBL op fr ρ) n Q ↔ wq (fr ρ) n fun xs n1 => ∃ z, op xs = some z ∧ Q (.lst z) n1 := by simp [evBL]
@[simp] theorem wq_isi {t : TyK} : wq (evIsi t fa ρ) n Q ↔ wq (fa ρ) n fun x n1 => ∃ b, isiD t x = some b ∧ Q (.bool b) n1 := by
  simp only [evIsi, wq_bind, wq_opt, opt_bmap]
@[simp] theorem wq_upper : wq (evUpper fa ρ) n Q ↔ wq (fa ρ) n fun x n1 => ∃ z, upperD x = some z ∧ Q z n1 := by simp [evUpper]
@[simp] theorem wq_c {C : List D → M D} : wq (evC C fr ρ) n Q ↔ wq (fr ρ) n fun xs n1 => wq (C xs) n1 Q := by simp [evC]
@[simp] theorem wq_items {Q : List D → Nat → Prop} : wq (evItems fa ρ) n Q ↔ wq (fa ρ) n fun x n1 => ∃ ds, itemsD x = some ds ∧ Q ds n1 := by simp [evItems]
@[simp] theorem wq_it {op : List D → Option (List D)} {Q : List D → Nat → Prop} : wq (evIt op fr ρ) n Q ↔ wq (fr ρ) n fun xs n1 => ∃ ds, op xs = some ds ∧ Q ds n1 := by simp [evIt]
@[simp] theorem wq_yes {Q : Bool → Nat → Prop} : wq (evYes ρ) n Q ↔ Q true n := wq_eq rfl
@[simp] theorem wq_lc {own : List Nat} {t : Tgt} {fi : Rho → M (List D)} {fcd : Rho → M Bool} : wq (evLc own t fi fcd fa ρ) n Q ↔ wq (fi ρ) n fun ds n1 => ds.length ≤ 16777216 ∧ wq (lcGo (lcBody own t fcd fa ρ) ds) n1 fun rs n2 => Q (.lst rs) n2 := by
  simp only [evLc, wq_bind, wq_ite, wq_pure, wq_fail]
  constructor <;> refine fun h => h.mono fun x n1 => ?_
  · intro h; split at h
    · exact ⟨by assumption, h⟩
    · exact h.elim
  · rintro ⟨h, q⟩; rw [if_pos h]; exact q
@[simp] theorem wq_body {own : List Nat} {t : Tgt} {fcd : Rho → M Bool} {d : D} {Q : Option D → Nat → Prop} : wq (lcBody own t fcd fa ρ d) n Q ↔ ∃ ρ', bindT t d (wipeR ρ own) = some ρ' ∧ wq (fcd ρ') n fun c n1 => if c = true then wq (fa ρ') n1 fun y n2 => Q (some y) n2 else Q none n1 := by simp [lcBody]
end

section
variable {fa : Rho → M D} {fi : Rho → M D} {ft : Rho → M Bool} {xa xb : Rho → M Out} {ρ : Rho} {n : Nat} {Q : Out → Nat → Prop}
@[simp] theorem wq_xNext : wq (xNext ρ) n Q ↔ Q (.nx ρ) n := wq_eq rfl
@[simp] theorem wq_xBreak : wq (xBreak ρ) n Q ↔ Q (.bk ρ) n := wq_eq rfl
@[simp] theorem wq_xCont : wq (xCont ρ) n Q ↔ Q (.ct ρ) n := wq_eq rfl
/-- what follows a statement -/
def Out.goq (Q : Out → Nat → Prop) (n : Nat) (k : Rho → Prop) : Out → Prop
  | .nx ρ => k ρ
  | .rt d => Q (.rt d) n
  | .bk ρ => Q (.bk ρ) n
  | .ct ρ => Q (.ct ρ) n
@[simp] theorem goq_nx {k : Rho → Prop} : Out.goq Q n k (.nx ρ) = k ρ := rfl
@[simp] theorem goq_rt {k : Rho → Prop} {d : D} : Out.goq Q n k (.rt d) = Q (.rt d) n := rfl
@[simp] theorem goq_bk {k : Rho → Prop} : Out.goq Q n k (.bk ρ) = Q (.bk ρ) n := rfl
@[simp] theorem goq_ct {k : Rho → Prop} : Out.goq Q n k (.ct ρ) = Q (.ct ρ) n := rfl
@[simp] theorem wq_xSeq : wq (xSeq xa xb ρ) n Q ↔ wq (xa ρ) n fun o n1 => o.goq Q n1 fun ρ' => wq (xb ρ') n1 Q := by
  simp only [xSeq, wq_bind]
  constructor <;> refine fun h => h.mono fun o n1 => ?_
  · intro h; cases o <;> simpa using h
  · intro h; cases o <;> simpa using h
@[simp] theorem wq_xRet : wq (xRet fa ρ) n Q ↔ wq (fa ρ) n fun d n1 => Q (.rt d) n1 := by simp [xRet]
@[simp] theorem wq_xDrop : wq (xDrop fa ρ) n Q ↔ wq (fa ρ) n fun d n1 => Q (.nx ρ) n1 := by simp [xDrop]
@[simp] theorem wq_xAsg {t : Tgt} : wq (xAsg t fa ρ) n Q ↔ wq (fa ρ) n fun d n1 => ∃ ρ', bindT t d ρ = some ρ' ∧ Q (.nx ρ') n1 := by simp [xAsg]
@[simp] theorem wq_xOwn {i : Nat} : wq (xOwn i fa ρ) n Q ↔ wq (fa ρ) n fun d n1 => Q (.nx (ρ.set i (.own d))) n1 := by simp [xOwn]
@[simp] theorem wq_xIf : wq (xIf ft xa xb ρ) n Q ↔ wq (ft ρ) n fun c n1 => if c = true then wq (xa ρ) n1 Q else wq (xb ρ) n1 Q := by simp [xIf]
def frzR (ρ : Rho) (i : Nat) : Rho := match ρ[i]? with
  | some (.own d) => ρ.set i (.val d)
  | _ => ρ
@[simp] theorem wq_xFrz {i : Nat} : wq (xFrz i ρ) n Q ↔ Q (.nx (frzR ρ i)) n := by
  refine wq_eq ?_
  unfold xFrz frzR
  cases h : ρ[i]? with
  | none => rfl
  | some s => cases s <;> rfl
@[simp] theorem wq_xApp {i : Nat} : wq (xApp i fa ρ) n Q ↔ wq (fa ρ) n fun d n1 => ∃ ρ', appR ρ i d = some ρ' ∧ Q (.nx ρ') n1 := by simp [xApp]
@[simp] theorem wq_xSet {i : Nat} : wq (xSet i fi fa ρ) n Q ↔ wq (fa ρ) n fun d n1 => wq (fi ρ) n1 fun k n2 => ∃ ρ', setR ρ i k d = some ρ' ∧ Q (.nx ρ') n2 := by simp [xSet]
@[simp] theorem wq_xAug {i : Nat} {o : BinO} : wq (xAug i o fa ρ) n Q ↔ ∃ x, ρ[i]? = some (.val x) ∧ wq (fa ρ) n fun d n1 => ∃ y, augD o x d = some y ∧ Q (.nx (ρ.set i (.val y))) n1 := by simp [xAug]
@[simp] theorem wq_xFor {t : Tgt} {fit : Rho → M (List D)} : wq (xFor t fit xa ρ) n Q ↔ wq (fit ρ) n fun ds n1 => wq (forGo (forBody t xa) ds ρ) n1 Q := by simp [xFor]
@[simp] theorem wq_forBody {t : Tgt} {d : D} : wq (forBody t xa d ρ) n Q ↔ ∃ ρ', bindT t d ρ = some ρ' ∧ wq (xa ρ') n Q := by simp [forBody]
@[simp] theorem wq_runF {o : Out} {Q : D → Nat → Prop} : wq (runF o) n Q ↔ o.goq (fun o n => match o with | .rt d => Q d n | _ => False) n (fun _ => Q .none n) := by
  cases o <;> simp [runF]

/-! ### loops -/
theorem wq_for_nil {fb : D → Rho → M Out} : wq (forGo fb [] ρ) n Q ↔ Q (.nx ρ) n := wq_eq rfl
/-- a loop, by what holds between its turns: I turn slots draws -/
theorem wq_for {fb : D → Rho → M Out} (I : Nat → Rho → Nat → Prop) {ds : List D} (h0 : I 0 ρ n)
    (turn : ∀ i d ρ n, ds[i]? = some d → I i ρ n → wq (fb d ρ) n fun o n1 => match o with
      | .nx ρ' => I (i + 1) ρ' n1
      | .ct ρ' => I (i + 1) ρ' n1
      | .bk ρ' => Q (.nx ρ') n1
      | .rt r => Q (.rt r) n1)
    (hd : ∀ ρ n, I ds.length ρ n → Q (.nx ρ) n) : wq (forGo fb ds ρ) n Q := by
  have go : ∀ (m i : Nat) (ρ : Rho) (n : Nat), m + i = ds.length → I i ρ n → wq (forGo fb (ds.drop i) ρ) n Q := by
    intro m
    induction m with
    | zero =>
      intro i ρ n e hI
      have : i = ds.length := by omega
      subst this
      rw [List.drop_length]
      exact wq_for_nil.mpr (hd ρ n hI)
    | succ m ih =>
      intro i ρ n e hI
      have hi : i < ds.length := by omega
      rw [List.drop_eq_getElem_cons hi]
      show wq (fb ds[i] ρ >>= _) n Q
      rw [wq_bind]
      refine (turn i ds[i] ρ n (by simp [hi]) hI).mono fun o n1 h => ?_
      cases o with
      | nx ρ' => exact ih (i + 1) ρ' n1 (by omega) h
      | ct ρ' => exact ih (i + 1) ρ' n1 (by omega) h
      | bk ρ' => exact wq_pure.mpr h
      | rt r => exact wq_pure.mpr h
  simpa using go ds.length 0 ρ n (by omega) h0
/-- a list comprehension, likewise: I turn list draws -/
theorem wq_lcGo {body : D → M (Option D)} {Q : List D → Nat → Prop} (I : Nat → List D → Nat → Prop) {ds : List D} (h0 : I 0 [] n)
    (turn : ∀ i d acc n, ds[i]? = some d → I i acc n → wq (body d) n fun r n1 => I (i + 1) (acc ++ r.toList) n1)
    (hd : ∀ rs n, I ds.length rs n → Q rs n) : wq (lcGo body ds) n Q := by
  have go : ∀ (m i : Nat) (acc : List D) (n : Nat), m + i = ds.length → I i acc n → wq (lcGo body (ds.drop i)) n fun rs n' => Q (acc ++ rs) n' := by
    intro m
    induction m with
    | zero =>
      intro i acc n e hI
      have : i = ds.length := by omega
      subst this
      rw [List.drop_length]
      refine wq_of rfl ?_
      rw [List.append_nil]
      exact hd acc n hI
    | succ m ih =>
      intro i acc n e hI
      have hi : i < ds.length := by omega
      rw [List.drop_eq_getElem_cons hi]
      show wq (body ds[i] >>= _) n _
      rw [wq_bind]
      refine (turn i ds[i] acc n (by simp [hi]) hI).mono fun r n1 h => ?_
      rw [wq_bind]
      refine (ih (i + 1) _ n1 (by omega) h).mono fun rs n2 q => ?_
      rw [wq_pure, ← List.append_assoc]
      exact q
  have := go ds.length 0 [] n (by omega) h0
  simpa using this
/-- .. where no turn draws, and each is a function of its item -/
theorem lcGo_fun {body : D → M (Option D)} (f : D → Option D) : ∀ {ds : List D}, (∀ d ∈ ds, body d n = some (f d, n)) → lcGo body ds n = some (ds.filterMap f, n)
  | [], _ => rfl
  | d :: ds, h => by
    show (body d >>= _) n = _
    rw [M.bind_ap, h d List.mem_cons_self]
    show (lcGo body ds >>= _) n = _
    rw [M.bind_ap, lcGo_fun f fun d' hd => h d' (List.mem_cons_of_mem _ hd)]
    show some (_, n) = _
    rw [List.filterMap_cons]
    cases f d <;> rfl
theorem wq_lc_fun {body : D → M (Option D)} {ds : List D} {Q : List D → Nat → Prop} (f : D → Option D) (h : ∀ d ∈ ds, wq (body d) n fun r m => r = f d ∧ m = n) (q : Q (ds.filterMap f) n) : wq (lcGo body ds) n Q :=
  wq_of (lcGo_fun f fun d hd => wq_out (h d hd)) q
theorem filterMap_some {α β : Type} (f : α → β) (l : List α) : l.filterMap (fun x => some (f x)) = l.map f := by
  induction l with
  | nil => rfl
  | cons a l ih => simp [ih]
theorem wq_lc_map {body : D → M (Option D)} {ds : List D} {Q : List D → Nat → Prop} (f : D → D) (h : ∀ d ∈ ds, wq (body d) n fun r m => r = some (f d) ∧ m = n) (q : Q (ds.map f) n) : wq (lcGo body ds) n Q :=
  wq_lc_fun (fun d => some (f d)) h (by rw [filterMap_some]; exact q)
theorem wq_while_turn {ft : Rho → M Bool} {fb : Rho → M Out} {k : Nat} : wq (whileGo ft fb (k + 1) ρ) n Q ↔ wq (ft ρ) n fun c n1 => if c = true then wq (fb ρ) n1 (fun o n2 => match o with
      | .nx ρ' => wq (whileGo ft fb k ρ') n2 Q
      | .ct ρ' => wq (whileGo ft fb k ρ') n2 Q
      | .bk ρ' => Q (.nx ρ') n2
      | .rt r => Q (.rt r) n2) else Q (.nx ρ) n1 := by
  show wq (ft ρ >>= _) n Q ↔ _
  rw [wq_bind]
  constructor <;> refine fun h => h.mono fun c n1 h => ?_
  · cases c with
    | false => simpa using h
    | true =>
      simp only [if_true, wq_bind] at h ⊢
      refine h.mono fun o n2 h => ?_
      cases o <;> simpa using h
  · cases c with
    | false => simpa using h
    | true =>
      simp only [if_true, wq_bind] at h ⊢
      refine h.mono fun o n2 h => ?_
      cases o <;> simpa using h
/-- a while, by what holds between its turns and a number that falls -/
theorem wq_while {ft : Rho → M Bool} {fb : Rho → M Out} (I : Rho → Nat → Prop) (μ : Rho → Nat) (h0 : I ρ n) (hμ : μ ρ < WFUEL)
    (turn : ∀ ρ n, I ρ n → wq (ft ρ) n fun c n1 => if c = true then wq (fb ρ) n1 (fun o n2 => match o with
      | .nx ρ' => I ρ' n2 ∧ μ ρ' < μ ρ
      | .ct ρ' => I ρ' n2 ∧ μ ρ' < μ ρ
      | .bk ρ' => Q (.nx ρ') n2
      | .rt r => Q (.rt r) n2) else Q (.nx ρ) n1) : wq (xWhile ft fb ρ) n Q := by
  have go : ∀ (k : Nat) (ρ : Rho) (n : Nat), μ ρ < k → I ρ n → wq (whileGo ft fb k ρ) n Q := by
    intro k
    induction k with
    | zero => intro ρ n h; omega
    | succ k ih =>
      intro ρ n hk hI
      rw [wq_while_turn]
      refine (turn ρ n hI).mono fun c n1 h => ?_
      cases c with
      | false => simpa using h
      | true =>
        simp only [if_true] at h ⊢
        refine h.mono fun o n2 h => ?_
        cases o with
        | nx ρ' => exact ih ρ' n2 (by omega) h.1
        | ct ρ' => exact ih ρ' n2 (by omega) h.1
        | bk ρ' => exact h
        | rt r => exact h
  exact go WFUEL ρ n hμ h0
end

/-! ### calls -/
theorem wq_def {T : Tab} {k f : Nat} {fd : FD} {ds : List D} {n : Nat} {Q : D → Nat → Prop} (h : T.lookup f = some (.defn fd)) (hl : ds.length = fd.np) :
    wq (callF T (k + 1) f ds) n Q ↔ wq (xSs (callF T k) fd.body (rho0 fd.N ds)) n fun o n1 => o.goq (fun o n => match o with | .rt d => Q d n | _ => False) n1 (fun _ => Q .none n1) := by
  have e : callF T (k + 1) f ds = (do let o ← xSs (callF T k) fd.body (rho0 fd.N ds); runF o) := by
    conv => lhs; unfold callF
    rw [h]
    simp only
    rw [if_pos hl]
  rw [e, wq_bind]
  simp only [wq_runF]
theorem wq_prim {T : Tab} {k f : Nat} {c : List D → M D} {ds : List D} {n : Nat} {Q : D → Nat → Prop} (h : T.lookup f = some (.prim c)) : wq (callF T (k + 1) f ds) n Q ↔ wq (c ds) n Q := by
  conv => lhs; unfold callF
  rw [h]
/-- a draw: any number below m -/
theorem wq_draw {rows : List Int} {n : Nat} {m : Int} {Q : D → Nat → Prop} (hm : 0 < m) (hr : 0 < rows.length ∧ rows.length < 1073741824) (hn : n < 1152921504606846976) (h : ∀ i, 0 ≤ i → i < m → Q (.int i) (n + 1)) : wq (drawC rows [.pool, .int m]) n Q := by
  refine wq_of (a := .int (drawI rows n m)) (n' := n + 1) ?_ (h _ ?_ ?_)
  · unfold drawC
    simp only
    rw [if_pos ⟨hm, hr.1, hr.2, hn⟩]
  · unfold drawI
    rw [Int.fmod_eq_emod_of_nonneg _ (by omega)]
    exact Int.emod_nonneg _ (by omega)
  · unfold drawI
    rw [Int.fmod_eq_emod_of_nonneg _ (by omega)]
    exact Int.emod_lt_of_pos _ hm
end Ev

set_option Elab.async false
set_option linter.all false
set_option autoImplicit false
set_option maxRecDepth 100000
/-! Ev12: equations of the evaluation, for simp. -/
namespace Ev
open PySem PySem.Spec PyProof.Rows L2

/-- keeps simp out of what it marks -/
inductive Tg {α : Type} (a : α) : Type
  | mk
def wp {α : Type} (x : M α) (n : Nat) (Q : α → Nat → Prop) (_t : Tg Q := .mk) : Prop := wq x n Q
theorem wp.mono {α : Type} {x : M α} {n : Nat} {Q Q' : α → Nat → Prop} (h : wp x n Q) (k : ∀ a n', Q a n' → Q' a n') : wp x n Q' := wq.mono h k
theorem wp_out {α : Type} {x : M α} {n n' : Nat} {a : α} (h : wp x n fun b m => b = a ∧ m = n') : x n = some (a, n') := wq_out h
theorem wp_eq {α : Type} {x : M α} {n n' : Nat} {a : α} {Q : α → Nat → Prop} (e : x n = some (a, n')) : wp x n Q ↔ Q a n' := wq_eq e
theorem lcGo_fun' {body : D → M (Option D)} {n : Nat} (f : D → Option D) {ds : List D} (h : ∀ d ∈ ds, body d n = some (f d, n)) : lcGo body ds n = some (ds.filterMap f, n) := lcGo_fun f h
def Out.go (Q : Out → Nat → Prop) (n : Nat) (k : Rho → Prop) (o : Out) (_t : Tg (Q, k) := .mk) : Prop := o.goq Q n k
section
variable {Q : Out → Nat → Prop} {n : Nat}
@[simp] theorem go_nx {k : Rho → Prop} {ρ : Rho} : Out.go Q n k (.nx ρ) = k ρ := rfl
@[simp] theorem go_rt {k : Rho → Prop} {d : D} : Out.go Q n k (.rt d) = Q (.rt d) n := rfl
@[simp] theorem go_bk {k : Rho → Prop} {ρ : Rho} : Out.go Q n k (.bk ρ) = Q (.bk ρ) n := rfl
@[simp] theorem go_ct {k : Rho → Prop} {ρ : Rho} : Out.go Q n k (.ct ρ) = Q (.ct ρ) n := rfl
end
/-- an option's value, and what follows: simp looks into the value alone -/
def Ex1 {α : Type} (o : Option α) (Q : α → Prop) (_t : Tg Q := .mk) : Prop := ∃ a, o = some a ∧ Q a
theorem ex1_of {α : Type} {o : Option α} {Q : α → Prop} {a : α} (h : o = some a) (q : Q a) : Ex1 o Q := ⟨a, h, q⟩
@[simp] theorem ex1_some {α : Type} {Q : α → Prop} {a : α} : Ex1 (some a) Q ↔ Q a := ⟨fun ⟨b, h, q⟩ => by cases h; exact q, fun q => ⟨a, rfl, q⟩⟩
@[simp] theorem ex1_none {α : Type} {Q : α → Prop} : Ex1 none Q ↔ False := ⟨fun ⟨b, h, q⟩ => (by cases h), False.elim⟩
@[simp] theorem ex1_ite {α : Type} {Q : α → Prop} {a : α} {c : Prop} [Decidable c] : Ex1 (if c then some a else none) Q ↔ c ∧ Q a := by
  split
  · rename_i h; rw [ex1_some]; exact ⟨fun q => ⟨h, q⟩, fun q => q.2⟩
  · rename_i h; rw [ex1_none]; exact ⟨False.elim, fun q => h q.1⟩
@[simp] theorem ex1_map {α β : Type} {o : Option α} {f : α → β} {Q : β → Prop} : Ex1 (o.map f) Q ↔ Ex1 o fun a => Q (f a) := by
  cases o
  · simp only [Option.map_none, ex1_none]
  · simp only [Option.map_some, ex1_some]
@[simp] theorem ex1_bind {α β : Type} {o : Option α} {f : α → Option β} {Q : β → Prop} : Ex1 (o.bind f) Q ↔ Ex1 o fun a => Ex1 (f a) Q := by
  cases o
  · simp only [Option.bind_none, ex1_none]
  · simp only [Option.bind_some, ex1_some]
def boolD : D → Option Bool
  | .bool b => some b
  | _ => none
def intO : D → Option Int
  | .int i => some i
  | _ => none
def valR : Option Sl → Option D
  | some (.val d) => some d
  | _ => none
@[simp] theorem boolD_b {b : Bool} : boolD (.bool b) = some b := rfl
@[simp] theorem intO_i {i : Int} : intO (.int i) = some i := rfl
@[simp] theorem valR_v {d : D} : valR (some (.val d)) = some d := rfl
theorem ex1_bool {x : D} {P : Bool → Prop} : (∃ b, x = .bool b ∧ P b) ↔ Ex1 (boolD x) P := by
  constructor
  · rintro ⟨b, rfl, q⟩; exact ⟨b, rfl, q⟩
  · rintro ⟨b, h, q⟩; cases x <;> cases h; exact ⟨_, rfl, q⟩
theorem ex1_int {x : D} {P : Int → Prop} : (∃ b, x = .int b ∧ P b) ↔ Ex1 (intO x) P := by
  constructor
  · rintro ⟨b, rfl, q⟩; exact ⟨b, rfl, q⟩
  · rintro ⟨b, h, q⟩; cases x <;> cases h; exact ⟨_, rfl, q⟩
theorem ex1_val {x : Option Sl} {P : D → Prop} : (∃ d, x = some (.val d) ∧ P d) ↔ Ex1 (valR x) P := by
  constructor
  · rintro ⟨b, rfl, q⟩; exact ⟨b, rfl, q⟩
  · rintro ⟨b, h, q⟩
    cases x with
    | none => cases h
    | some s => cases s <;> cases h; exact ⟨_, rfl, q⟩
theorem wp_of {α : Type} {x : M α} {n n' : Nat} {a : α} {Q : α → Nat → Prop} (e : x n = some (a, n')) (q : Q a n') : wp x n Q := wq_of e q
@[simp] theorem wp_pure {α : Type} {a : α} {n : Nat} {Q : α → Nat → Prop} : wp (pure a : M α) n Q ↔ Q a n := wq_pure
@[simp] theorem wp_ret {α : Type} {a : α} {n : Nat} {Q : α → Nat → Prop} : wp (M.ret a : M α) n Q ↔ Q a n := wq_ret
@[simp] theorem wp_fail {α : Type} {n : Nat} {Q : α → Nat → Prop} : wp (M.fail : M α) n Q ↔ False := wq_fail
@[simp] theorem wp_bind {α β : Type} {x : M α} {f : α → M β} {n : Nat} {Q : β → Nat → Prop} : wp (x >>= f) n Q ↔ wp x n fun a n' => wp (f a) n' Q := wq_bind
@[simp] theorem wp_opt {α : Type} {o : Option α} {n : Nat} {Q : α → Nat → Prop} : wp (M.opt o) n Q ↔ Ex1 (o) fun a => Q a n := wq_opt
@[simp] theorem wp_ite {α : Type} {c : Prop} [Decidable c] {x y : M α} {n : Nat} {Q : α → Nat → Prop} : wp (if c then x else y) n Q ↔ if c then wp x n Q else wp y n Q := wq_ite
section
variable {fa fb fc : Rho → M D} {ft : Rho → M Bool} {fr : Rho → M (List D)} {fo fo' : Rho → M (Option Int)} {ρ : Rho} {n : Nat} {Q : D → Nat → Prop}
@[simp] theorem wp_bin {o : BinO} : wp (evBin o fa fb ρ) n Q ↔ wp (fa ρ) n fun x n1 => wp (fb ρ) n1 fun y n2 => Ex1 (binD o x y) fun z => Q z n2 := wq_bin
@[simp] theorem wp_cmp {o : CmpO} : wp (evCmp o fa fb ρ) n Q ↔ wp (fa ρ) n fun x n1 => wp (fb ρ) n1 fun y n2 => Ex1 (cmpD o x y) fun z => Q (.bool z) n2 := wq_cmp
@[simp] theorem wp_chain {o o' : CmpO} : wp (evChain o o' fa fb fc ρ) n Q ↔ wp (fa ρ) n fun x n1 => wp (fb ρ) n1 fun y n2 => Ex1 (cmpD o x y) fun c => if c = true then wp (fc ρ) n2 fun z n3 => Ex1 (cmpD o' y z) fun r => Q (.bool r) n3 else Q (.bool false) n2 := wq_chain
@[simp] theorem wp_tst {Q : Bool → Nat → Prop} : wp (tst fa ρ) n Q ↔ wp (fa ρ) n fun x n1 => Ex1 (truD x) fun b => Q b n1 := wq_tst
@[simp] theorem wp_not : wp (evNot fa ρ) n Q ↔ wp (fa ρ) n fun x n1 => Ex1 (boolD x) fun b => Q (.bool (!b)) n1 := (wq_not).trans (by simp only [ex1_bool] <;> exact Iff.rfl)
@[simp] theorem wp_and : wp (evAnd fa fb ρ) n Q ↔ wp (fa ρ) n fun x n1 => Ex1 (boolD x) fun b => if b = true then wp (fb ρ) n1 Q else Q (.bool false) n1 := (wq_and).trans (by simp only [ex1_bool] <;> exact Iff.rfl)
@[simp] theorem wp_or : wp (evOr fa fb ρ) n Q ↔ wp (fa ρ) n fun x n1 => Ex1 (boolD x) fun b => if b = true then Q (.bool true) n1 else wp (fb ρ) n1 Q := (wq_or).trans (by simp only [ex1_bool] <;> exact Iff.rfl)
@[simp] theorem wp_if : wp (evIf ft fa fb ρ) n Q ↔ wp (ft ρ) n fun c n1 => if c = true then wp (fa ρ) n1 Q else wp (fb ρ) n1 Q := wq_if
@[simp] theorem wp_neg : wp (evNeg fa ρ) n Q ↔ wp (fa ρ) n fun x n1 => Ex1 (negD x) fun z => Q z n1 := wq_neg
@[simp] theorem wp_getV {i : Nat} : wp (getV i ρ) n Q ↔ Ex1 (valR ρ[i]?) fun d => Q d n := (wq_getV).trans (by simp only [ex1_val] <;> exact Iff.rfl)
@[simp] theorem wp_getP {i : Nat} : wp (getP i ρ) n Q ↔ Ex1 (datR ρ[i]?) fun d => Q d n := wq_getP
@[simp] theorem wp_cst {d : D} : wp (cst d ρ) n Q ↔ Q d n := wq_cst
@[simp] theorem wp_nil {Q : List D → Nat → Prop} : wp (evNil ρ) n Q ↔ Q [] n := wq_nil
@[simp] theorem wp_cons {Q : List D → Nat → Prop} : wp (evCons fa fr ρ) n Q ↔ wp (fa ρ) n fun x n1 => wp (fr ρ) n1 fun r n2 => Q (x :: r) n2 := wq_cons
@[simp] theorem wp_tup : wp (evTup fr ρ) n Q ↔ wp (fr ρ) n fun r n1 => r.length ≤ 16777216 ∧ Q (.tup r) n1 := wq_tup
@[simp] theorem wp_lst : wp (evLst fr ρ) n Q ↔ wp (fr ρ) n fun r n1 => r.length ≤ 16777216 ∧ Q (.lst r) n1 := wq_lst
@[simp] theorem wp_ix : wp (evIx fa fb ρ) n Q ↔ wp (fa ρ) n fun x n1 => wp (fb ρ) n1 fun y n2 => Ex1 (ixD x y) fun z => Q z n2 := wq_ix
@[simp] theorem wp_sl : wp (evSl fa fo fo' ρ) n Q ↔ wp (fa ρ) n fun x n1 => wp (fo ρ) n1 fun l n2 => wp (fo' ρ) n2 fun h n3 => Ex1 (slD x l h) fun z => Q z n3 := wq_sl
@[simp] theorem wp_noPart {Q : Option Int → Nat → Prop} : wp (evNoPart ρ) n Q ↔ Q none n := wq_noPart
@[simp] theorem wp_part {Q : Option Int → Nat → Prop} : wp (evPart fa ρ) n Q ↔ wp (fa ρ) n fun x n1 => Ex1 (intO x) fun i => Q (some i) n1 := (wq_part).trans (by simp only [ex1_int] <;> exact Iff.rfl)
@[simp] theorem wp_b {op : List D → Option D} : wp (evB op fr ρ) n Q ↔ wp (fr ρ) n fun xs n1 => Ex1 (op xs) fun z => Q z n1 := wq_b
@[simp] theorem wp_bl {op : List D → Option (List D)} : wp (evBL op fr ρ) n Q ↔ wp (fr ρ) n fun xs n1 => Ex1 (op xs) fun z => Q (.lst z) n1 := wq_bl
@[simp] theorem wp_isi {t : TyK} : wp (evIsi t fa ρ) n Q ↔ wp (fa ρ) n fun x n1 => Ex1 (isiD t x) fun b => Q (.bool b) n1 := wq_isi
@[simp] theorem wp_upper : wp (evUpper fa ρ) n Q ↔ wp (fa ρ) n fun x n1 => Ex1 (upperD x) fun z => Q z n1 := wq_upper
@[simp] theorem wp_c {C : List D → M D} : wp (evC C fr ρ) n Q ↔ wp (fr ρ) n fun xs n1 => wp (C xs) n1 Q := wq_c
@[simp] theorem wp_items {Q : List D → Nat → Prop} : wp (evItems fa ρ) n Q ↔ wp (fa ρ) n fun x n1 => Ex1 (itemsD x) fun ds => Q ds n1 := wq_items
@[simp] theorem wp_it {op : List D → Option (List D)} {Q : List D → Nat → Prop} : wp (evIt op fr ρ) n Q ↔ wp (fr ρ) n fun xs n1 => Ex1 (op xs) fun ds => Q ds n1 := wq_it
@[simp] theorem wp_yes {Q : Bool → Nat → Prop} : wp (evYes ρ) n Q ↔ Q true n := wq_yes
@[simp] theorem wp_lc {own : List Nat} {t : Tgt} {fi : Rho → M (List D)} {fcd : Rho → M Bool} : wp (evLc own t fi fcd fa ρ) n Q ↔ wp (fi ρ) n fun ds n1 => ds.length ≤ 16777216 ∧ wp (lcGo (lcBody own t fcd fa ρ) ds) n1 fun rs n2 => Q (.lst rs) n2 := wq_lc
@[simp] theorem wp_body {own : List Nat} {t : Tgt} {fcd : Rho → M Bool} {d : D} {Q : Option D → Nat → Prop} : wp (lcBody own t fcd fa ρ d) n Q ↔ Ex1 (bindT t d (wipeR ρ own)) fun ρ' => wp (fcd ρ') n fun c n1 => if c = true then wp (fa ρ') n1 fun y n2 => Q (some y) n2 else Q none n1 := wq_body
end
section
variable {fa : Rho → M D} {fi : Rho → M D} {ft : Rho → M Bool} {xa xb : Rho → M Out} {ρ : Rho} {n : Nat} {Q : Out → Nat → Prop}
@[simp] theorem wp_xNext : wp (xNext ρ) n Q ↔ Q (.nx ρ) n := wq_xNext
@[simp] theorem wp_xBreak : wp (xBreak ρ) n Q ↔ Q (.bk ρ) n := wq_xBreak
@[simp] theorem wp_xCont : wp (xCont ρ) n Q ↔ Q (.ct ρ) n := wq_xCont
@[simp] theorem wp_xSeq : wp (xSeq xa xb ρ) n Q ↔ wp (xa ρ) n fun o n1 => o.go Q n1 fun ρ' => wp (xb ρ') n1 Q := wq_xSeq
@[simp] theorem wp_xRet : wp (xRet fa ρ) n Q ↔ wp (fa ρ) n fun d n1 => Q (.rt d) n1 := wq_xRet
@[simp] theorem wp_xDrop : wp (xDrop fa ρ) n Q ↔ wp (fa ρ) n fun d n1 => Q (.nx ρ) n1 := wq_xDrop
@[simp] theorem wp_xAsg {t : Tgt} : wp (xAsg t fa ρ) n Q ↔ wp (fa ρ) n fun d n1 => Ex1 (bindT t d ρ) fun ρ' => Q (.nx ρ') n1 := wq_xAsg
@[simp] theorem wp_xOwn {i : Nat} : wp (xOwn i fa ρ) n Q ↔ wp (fa ρ) n fun d n1 => Q (.nx (ρ.set i (.own d))) n1 := wq_xOwn
@[simp] theorem wp_xIf : wp (xIf ft xa xb ρ) n Q ↔ wp (ft ρ) n fun c n1 => if c = true then wp (xa ρ) n1 Q else wp (xb ρ) n1 Q := wq_xIf
@[simp] theorem wp_xFrz {i : Nat} : wp (xFrz i ρ) n Q ↔ Q (.nx (frzR ρ i)) n := wq_xFrz
@[simp] theorem wp_xApp {i : Nat} : wp (xApp i fa ρ) n Q ↔ wp (fa ρ) n fun d n1 => Ex1 (appR ρ i d) fun ρ' => Q (.nx ρ') n1 := wq_xApp
@[simp] theorem wp_xSet {i : Nat} : wp (xSet i fi fa ρ) n Q ↔ wp (fa ρ) n fun d n1 => wp (fi ρ) n1 fun k n2 => Ex1 (setR ρ i k d) fun ρ' => Q (.nx ρ') n2 := wq_xSet
@[simp] theorem wp_xAug {i : Nat} {o : BinO} : wp (xAug i o fa ρ) n Q ↔ Ex1 (valR ρ[i]?) fun x => wp (fa ρ) n fun d n1 => Ex1 (augD o x d) fun y => Q (.nx (ρ.set i (.val y))) n1 := (wq_xAug).trans (by simp only [ex1_val] <;> exact Iff.rfl)
@[simp] theorem wp_xFor {t : Tgt} {fit : Rho → M (List D)} : wp (xFor t fit xa ρ) n Q ↔ wp (fit ρ) n fun ds n1 => wp (forGo (forBody t xa) ds ρ) n1 Q := wq_xFor
@[simp] theorem wp_forBody {t : Tgt} {d : D} : wp (forBody t xa d ρ) n Q ↔ Ex1 (bindT t d ρ) fun ρ' => wp (xa ρ') n Q := wq_forBody
@[simp] theorem wp_runF {o : Out} {Q : D → Nat → Prop} : wp (runF o) n Q ↔ o.go (fun o n => match o with | .rt d => Q d n | _ => False) n (fun _ => Q .none n) := wq_runF
theorem wp_for_nil {fb : D → Rho → M Out} : wp (forGo fb [] ρ) n Q ↔ Q (.nx ρ) n := wq_for_nil
theorem wp_for {fb : D → Rho → M Out} (I : Nat → Rho → Nat → Prop) {ds : List D} (h0 : I 0 ρ n)
    (turn : ∀ i d ρ n, ds[i]? = some d → I i ρ n → wp (fb d ρ) n fun o n1 => match o with
      | .nx ρ' => I (i + 1) ρ' n1
      | .ct ρ' => I (i + 1) ρ' n1
      | .bk ρ' => Q (.nx ρ') n1
      | .rt r => Q (.rt r) n1)
    (hd : ∀ ρ n, I ds.length ρ n → Q (.nx ρ) n) : wp (forGo fb ds ρ) n Q := wq_for I h0 turn hd
theorem wp_lcGo {body : D → M (Option D)} {Q : List D → Nat → Prop} (I : Nat → List D → Nat → Prop) {ds : List D} (h0 : I 0 [] n)
    (turn : ∀ i d acc n, ds[i]? = some d → I i acc n → wp (body d) n fun r n1 => I (i + 1) (acc ++ r.toList) n1)
    (hd : ∀ rs n, I ds.length rs n → Q rs n) : wp (lcGo body ds) n Q := wq_lcGo I h0 turn hd
theorem wp_lc_fun {body : D → M (Option D)} {ds : List D} {Q : List D → Nat → Prop} (f : D → Option D) (h : ∀ d ∈ ds, wp (body d) n fun r m => r = f d ∧ m = n) (q : Q (ds.filterMap f) n) : wp (lcGo body ds) n Q := wq_lc_fun f h q
theorem wp_lc_map {body : D → M (Option D)} {ds : List D} {Q : List D → Nat → Prop} (f : D → D) (h : ∀ d ∈ ds, wp (body d) n fun r m => r = some (f d) ∧ m = n) (q : Q (ds.map f) n) : wp (lcGo body ds) n Q := wq_lc_map f h q
theorem wp_while_turn {ft : Rho → M Bool} {fb : Rho → M Out} {k : Nat} : wp (whileGo ft fb (k + 1) ρ) n Q ↔ wp (ft ρ) n fun c n1 => if c = true then wp (fb ρ) n1 (fun o n2 => match o with
      | .nx ρ' => wp (whileGo ft fb k ρ') n2 Q
      | .ct ρ' => wp (whileGo ft fb k ρ') n2 Q
      | .bk ρ' => Q (.nx ρ') n2
      | .rt r => Q (.rt r) n2) else Q (.nx ρ) n1 := wq_while_turn
theorem wp_while {ft : Rho → M Bool} {fb : Rho → M Out} (I : Rho → Nat → Prop) (μ : Rho → Nat) (h0 : I ρ n) (hμ : μ ρ < WFUEL)
    (turn : ∀ ρ n, I ρ n → wp (ft ρ) n fun c n1 => if c = true then wp (fb ρ) n1 (fun o n2 => match o with
      | .nx ρ' => I ρ' n2 ∧ μ ρ' < μ ρ
      | .ct ρ' => I ρ' n2 ∧ μ ρ' < μ ρ
      | .bk ρ' => Q (.nx ρ') n2
      | .rt r => Q (.rt r) n2) else Q (.nx ρ) n1) : wp (xWhile ft fb ρ) n Q := wq_while I μ h0 hμ turn
end
theorem wp_def {T : Tab} {k f : Nat} {fd : FD} {ds : List D} {n : Nat} {Q : D → Nat → Prop} (h : T.lookup f = some (.defn fd)) (hl : ds.length = fd.np) :
    wp (callF T (k + 1) f ds) n Q ↔ wp (xSs (callF T k) fd.body (rho0 fd.N ds)) n fun o n1 => o.go (fun o n => match o with | .rt d => Q d n | _ => False) n1 (fun _ => Q .none n1) := wq_def h hl
theorem wp_prim {T : Tab} {k f : Nat} {c : List D → M D} {ds : List D} {n : Nat} {Q : D → Nat → Prop} (h : T.lookup f = some (.prim c)) : wp (callF T (k + 1) f ds) n Q ↔ wp (c ds) n Q := wq_prim h
theorem wp_draw {rows : List Int} {n : Nat} {m : Int} {Q : D → Nat → Prop} (hm : 0 < m) (hr : 0 < rows.length ∧ rows.length < 1073741824) (hn : n < 1152921504606846976) (h : ∀ i, 0 ≤ i → i < m → Q (.int i) (n + 1)) : wp (drawC rows [.pool, .int m]) n Q := wq_draw hm hr hn h
section
variable {C : Nat → List D → M D} {e a b c l h x : E} {es : Es} {o o' : CmpO} {s : S} {ss ss' : Ss} {t : Tgt} {it : It}
@[simp] theorem ev_0 {i : Nat} : ev C (.var i) = getV i := rfl
@[simp] theorem ev_1 {i : Nat} : ev C (.pk i) = getP i := rfl
@[simp] theorem ev_2 {i : Int} : ev C (.int i) = cst (.int i) := rfl
@[simp] theorem ev_3 {i : Bool} : ev C (.bool i) = cst (.bool i) := rfl
@[simp] theorem ev_4  : ev C .none = cst .none := rfl
@[simp] theorem ev_5 {i : Str} : ev C (.str i) = cst (.str i) := rfl
@[simp] theorem ev_6 {y : Str} {d : D} : ev C (.glob y d) = cst d := rfl
@[simp] theorem ev_7  : ev C (.tup es) = evTup (evs C es) := rfl
@[simp] theorem ev_8  : ev C (.lst es) = evLst (evs C es) := rfl
@[simp] theorem ev_9 {o : BinO} : ev C (.bin o a b) = evBin o (ev C a) (ev C b) := rfl
@[simp] theorem ev_10  : ev C (.neg a) = evNeg (ev C a) := rfl
@[simp] theorem ev_11  : ev C (.not a) = evNot (ev C a) := rfl
@[simp] theorem ev_12  : ev C (.and es) = evAnds C es := rfl
@[simp] theorem ev_13  : ev C (.or es) = evOrs C es := rfl
@[simp] theorem ev_14  : ev C (.cmp o a b) = evCmp o (ev C a) (ev C b) := rfl
@[simp] theorem ev_15  : ev C (.chain o o' a b c) = evChain o o' (ev C a) (ev C b) (ev C c) := rfl
@[simp] theorem ev_16  : ev C (.ite c a b) = evIf (tst (ev C c)) (ev C a) (ev C b) := rfl
@[simp] theorem ev_17  : ev C (.ix a b) = evIx (ev C a) (ev C b) := rfl
@[simp] theorem ev_18  : ev C (.slU a h) = evSl (ev C a) evNoPart (evPart (ev C h)) := rfl
@[simp] theorem ev_19  : ev C (.slL a l) = evSl (ev C a) (evPart (ev C l)) evNoPart := rfl
@[simp] theorem ev_20  : ev C (.slLU a l h) = evSl (ev C a) (evPart (ev C l)) (evPart (ev C h)) := rfl
@[simp] theorem ev_21  : ev C (.slA a) = evSl (ev C a) evNoPart evNoPart := rfl
@[simp] theorem ev_22 {i : Bi} : ev C (.bi i es) = evB i.op (evs C es) := rfl
@[simp] theorem ev_23 {i : Bf} : ev C (.bf i es) = evBL i.op (evs C es) := rfl
@[simp] theorem ev_24 {i : TyK} : ev C (.isi i a) = evIsi i (ev C a) := rfl
@[simp] theorem ev_25  : ev C (.upper a) = evUpper (ev C a) := rfl
@[simp] theorem ev_26 {i : Nat} : ev C (.call i es) = evC (C i) (evs C es) := rfl
@[simp] theorem ev_27 {own : List (Str × Nat)} {t1 : Tgt} {it1 : It} {es1 : Es} : ev C (.lc2 own t it es t1 it1 es1 e) = evLc2 (own.map (·.2)) t (evI C it) (evCond C es) t1.slots t1 (evI C it1) (evCond C es1) (ev C e) := rfl
@[simp] theorem ev_28 {own : List (Str × Nat)} : ev C (.dc own t it es a b) = evDc (own.map (·.2)) t (evI C it) (evCond C es) (ev C a) (ev C b) := rfl
@[simp] theorem ev_29  : ev C .d0 = evD0 := rfl
@[simp] theorem ev_30  : ev C (.l2 true a b) = evL2 catLD (ev C a) (ev C b) := rfl
@[simp] theorem ev_31  : ev C (.l2 false a b) = evL2 repLD (ev C a) (ev C b) := rfl
@[simp] theorem ev_32  : ev C (.tupRg1 a) = evTupRg ev0 (ev C a) := rfl
@[simp] theorem ev_33  : ev C (.tupRg2 a b) = evTupRg (ev C a) (ev C b) := rfl
@[simp] theorem ev_34  : ev C (.lstRg1 a) = evLstRg ev0 (ev C a) := rfl
@[simp] theorem ev_35  : ev C (.lstRg2 a b) = evLstRg (ev C a) (ev C b) := rfl
@[simp] theorem ev_36  : ev C (.d1 a b) = evD1 (ev C a) (ev C b) := rfl
@[simp] theorem ev_37 {i : Mk} : ev C (.mk i a b) = evMk i (evCons (ev C a) evNil) (ev C b) := rfl
@[simp] theorem ev_38 {own : List (Str × Nat)} : ev C (.lc own t it es e) = evLc (own.map (·.2)) t (evI C it) (evCond C es) (ev C e) := rfl
@[simp] theorem evx_0  : evs C .nil = evNil := rfl
@[simp] theorem evx_1  : evs C (.cons e es) = evCons (ev C e) (evs C es) := rfl
@[simp] theorem evx_2  : evAnds C (.cons e .nil) = ev C e := rfl
@[simp] theorem evx_3  : evAnds C (.cons e (.cons a es)) = evAnd (ev C e) (evAnds C (.cons a es)) := rfl
@[simp] theorem evx_4  : evOrs C (.cons e .nil) = ev C e := rfl
@[simp] theorem evx_5  : evOrs C (.cons e (.cons a es)) = evOr (ev C e) (evOrs C (.cons a es)) := rfl
@[simp] theorem evx_6  : evI C (.enum e) = evIt enumD (evCons (ev C e) evNil) := rfl
@[simp] theorem evx_7  : evI C (.seq e) = evItems (ev C e) := rfl
@[simp] theorem evx_8  : evI C (.range1 a) = evIt range1D (evCons (ev C a) evNil) := rfl
@[simp] theorem evx_9  : evI C (.range2 a b) = evIt range2D (evCons (ev C a) (evCons (ev C b) evNil)) := rfl
@[simp] theorem evx_10  : evI C (.zip a b) = evIt zipD (evCons (ev C a) (evCons (ev C b) evNil)) := rfl
@[simp] theorem evx_11  : evCond C .nil = evYes := rfl
@[simp] theorem evx_12  : evCond C (.cons e .nil) = tst (ev C e) := rfl
@[simp] theorem evx_13  : xS C (.ret e) = xRet (ev C e) := rfl
@[simp] theorem evx_14  : xS C (.asg t e) = xAsg t (ev C e) := rfl
@[simp] theorem evx_15 {i : Nat} : xS C (.own i e) = xOwn i (ev C e) := rfl
@[simp] theorem evx_16 {i : Nat} : xS C (.app i e) = xApp i (ev C e) := rfl
@[simp] theorem evx_17 {i : Nat} : xS C (.set i a e) = xSetA i (ev C a) (ev C e) := rfl
@[simp] theorem evx_18 {i : Nat} {o : BinO} : xS C (.augIx i o a e) = xAugIx i o (ev C a) (ev C e) := rfl
@[simp] theorem evx_19 {i : Nat} {o : BinO} : xS C (.aug i o e) = xAug i o (ev C e) := rfl
@[simp] theorem evx_20  : xS C (.drop e) = xDrop (ev C e) := rfl
@[simp] theorem evx_21  : xS C (.ite c ss ss') = xIf (tst (ev C c)) (xSs C ss) (xSs C ss') := rfl
@[simp] theorem evx_22  : xS C (.for_ t it ss) = xFor t (evI C it) (xSs C ss) := rfl
@[simp] theorem evx_23  : xS C (.while_ c ss) = xWhile (tst (ev C c)) (xSs C ss) := rfl
@[simp] theorem evx_24  : xS C .pass = xNext := rfl
@[simp] theorem evx_25  : xS C .brk = xBreak := rfl
@[simp] theorem evx_26  : xS C .cont = xCont := rfl
@[simp] theorem evx_27  : xSs C .nil = xNext := rfl
@[simp] theorem evx_28  : xSs C (.cons s ss) = xSeq (xS C s) (xSs C ss) := rfl
@[simp] theorem evx_29 {i : Nat} : xSs C (.frz i ss) = xSeq (xFrz i) (xSs C ss) := rfl
end
section
variable {i j : Int} {x y : Str} {xs ys : List D} {b c : Bool} {n m : Nat} {d : D}
@[simp] theorem op_0 : binD .add (.int i) (.int j) = some (.int (i + j)) := rfl
@[simp] theorem op_1 : binD .sub (.int i) (.int j) = some (.int (i - j)) := rfl
@[simp] theorem op_2 : binD .add (.tup xs) (.tup ys) = if xs.length + ys.length ≤ 16777216 then some (.tup (xs ++ ys)) else none := rfl
@[simp] theorem op_3 : binD .add (.lst xs) (.lst ys) = if xs.length + ys.length ≤ 16777216 then some (.lst (xs ++ ys)) else none := rfl
@[simp] theorem op_4 : binD .add (.str x) (.str y) = if x.length + y.length ≤ 16777216 then some (.str (x ++ y)) else none := rfl
@[simp] theorem op_5 : cmpD .lt (.int i) (.int j) = some (decide (i < j)) := rfl
@[simp] theorem op_6 : cmpD .le (.int i) (.int j) = some (decide (i ≤ j)) := rfl
@[simp] theorem op_7 : cmpD .gt (.int i) (.int j) = some (decide (j < i)) := rfl
@[simp] theorem op_8 : cmpD .ge (.int i) (.int j) = some (decide (j ≤ i)) := rfl
@[simp] theorem op_9 : cmpD .is (.bool b) (.bool c) = some (decide (b = c)) := rfl
@[simp] theorem op_10 : cmpD .is .none .none = some true := rfl
@[simp] theorem op_11 : cmpD .is (.int i) .none = some false := rfl
@[simp] theorem op_12 : cmpD .is (.bool b) .none = some false := rfl
@[simp] theorem op_13 : cmpD .is (.str x) .none = some false := rfl
@[simp] theorem op_14 : cmpD .is (.tup xs) .none = some false := rfl
@[simp] theorem op_15 : cmpD .is (.lst xs) .none = some false := rfl
@[simp] theorem op_16 : cmpD .isNot .none .none = some false := rfl
@[simp] theorem op_17 : cmpD .isNot (.int i) .none = some true := rfl
@[simp] theorem op_18 : cmpD .isNot (.tup xs) .none = some true := rfl
@[simp] theorem op_19 : cmpD .isNot (.lst xs) .none = some true := rfl
@[simp] theorem op_20 : truD (.bool b) = some b := rfl
@[simp] theorem op_21 : truD .none = some false := rfl
@[simp] theorem op_22 : truD (.tup xs) = some (!xs.isEmpty) := rfl
@[simp] theorem op_23 : truD (.lst xs) = some (!xs.isEmpty) := rfl
@[simp] theorem op_24 : truD (.int i) = some (i != 0) := rfl
@[simp] theorem op_25 : negD (.int i) = some (.int (-i)) := rfl
@[simp] theorem op_26 : ixD (.tup xs) (.int i) = atI xs i := rfl
@[simp] theorem op_27 : ixD (.lst xs) (.int i) = atI xs i := rfl
@[simp] theorem op_28 {lo hi : Option Int} : slD (.tup xs) lo hi = some (.tup (cutD xs lo hi)) := rfl
@[simp] theorem op_29 {lo hi : Option Int} : slD (.lst xs) lo hi = some (.lst (cutD xs lo hi)) := rfl
@[simp] theorem op_30 : Bi.op .len [.tup xs] = some (.int xs.length) := rfl
@[simp] theorem op_31 : Bi.op .len [.lst xs] = some (.int xs.length) := rfl
@[simp] theorem op_32 {ns : List Int} : Bi.op .len [.scr ns] = some (.int ns.length) := rfl
@[simp] theorem op_33 : Bi.op .all [.lst xs] = (boolsD xs).map fun bs => .bool (bs.all id) := rfl
@[simp] theorem op_34 : Bi.op .any [.lst xs] = (boolsD xs).map fun bs => .bool (bs.any id) := rfl
@[simp] theorem op_35 : Bi.op .sum [.lst xs] = (intsD xs).map fun ns => .int ns.sum := rfl
@[simp] theorem op_36 : Bi.op .max [.int i, .int j] = some (.int (if j > i then j else i)) := rfl
@[simp] theorem op_37 : Bi.op .min [.int i, .int j] = some (.int (if j < i then j else i)) := rfl
@[simp] theorem op_38 : Bi.op .int [.int i] = some (.int i) := rfl
@[simp] theorem op_39 : Bi.op .int [.bool b] = some (.int (if b then 1 else 0)) := rfl
@[simp] theorem op_40 : Bi.op .tuple [.tup xs] = some (.tup xs) := rfl
@[simp] theorem op_41 : Bi.op .tuple [.lst xs] = some (.tup xs) := rfl
@[simp] theorem op_42 : Bf.op .list [.tup xs] = some xs := rfl
@[simp] theorem op_43 : Bf.op .list [.lst xs] = some xs := rfl
@[simp] theorem op_44 {t : TyK} : isiD t (.bool b) = some (t == .bool || t == .int) := rfl
@[simp] theorem op_45 {t : TyK} : isiD t (.int i) = some (t == .int) := rfl
@[simp] theorem op_46 {t : TyK} : isiD t (.str x) = some (t == .str) := rfl
@[simp] theorem op_47 {t : TyK} : isiD t (.tup xs) = some (t == .tuple) := rfl
@[simp] theorem op_48 {t : TyK} : isiD t (.lst xs) = some (t == .list) := rfl
@[simp] theorem op_49 {t : TyK} : isiD t .none = some false := rfl
@[simp] theorem op_50 : Bi.op .len [.dict xs ys] = some (.int xs.length) := rfl
@[simp] theorem op_51 : Bf.op .list [.dict xs ys] = some xs := rfl
@[simp] theorem op_52 : itemsD (.dict xs ys) = some xs := rfl
@[simp] theorem op_53 : enumD [.lst xs] = some (enumGo 0 xs) := rfl
@[simp] theorem op_54 : enumD [.tup xs] = some (enumGo 0 xs) := rfl
@[simp] theorem op_55 : itemsD (.tup xs) = some xs := rfl
@[simp] theorem op_56 : itemsD (.lst xs) = some xs := rfl
@[simp] theorem op_57 : zipD [.tup xs, .tup ys] = some ((xs.zip ys).map fun p => .tup [p.1, p.2]) := rfl
@[simp] theorem op_58 : zipD [.lst xs, .lst ys] = some ((xs.zip ys).map fun p => .tup [p.1, p.2]) := rfl
@[simp] theorem op_59 : augD .add (.int i) (.int j) = some (.int (i + j)) := rfl
@[simp] theorem op_60 : augD .sub (.int i) (.int j) = some (.int (i - j)) := rfl
@[simp] theorem op_61 {t u v : Tgt} {d' d'' : D} {ρ : Rho} : bindT (.nm n) d ρ = some (ρ.set n (.val d)) := rfl
@[simp] theorem op_62 {t u v : Tgt} {d' d'' : D} {ρ : Rho} : bindT (.tp t u) (.tup [d, d']) ρ = (bindT t d ρ).bind fun ρ' => bindT u d' ρ' := rfl
@[simp] theorem op_63 {t u v : Tgt} {d' d'' : D} {ρ : Rho} : bindT (.tp3 t u v) (.tup [d, d', d'']) ρ = (bindT t d ρ).bind fun ρ' => (bindT u d' ρ').bind fun ρ'' => bindT v d'' ρ'' := rfl
@[simp] theorem op_64 {ρ : Rho} {ms : List Nat} : wipeR ρ [] = ρ := rfl
@[simp] theorem op_65 {ρ : Rho} {ms : List Nat} : wipeR ρ (n :: ms) = (wipeR ρ ms).set n .un := rfl
@[simp] theorem mul_int : binD .mul (.int i) (.int j) = if (-(2 ^ 64) < i ∧ i < 2 ^ 64) ∨ (-(2 ^ 64) < j ∧ j < 2 ^ 64) then some (.int (i * j)) else none := by
  simp only [binD, mulD, Bool.or_eq_true, Bool.and_eq_true, decide_eq_true_eq]
@[simp] theorem mod_int : binD .mod (.int i) (.int j) = if j ≠ 0 then some (.int (i.fmod j)) else none := rfl
@[simp] theorem fdiv_int : binD .fdiv (.int i) (.int j) = if j ≠ 0 ∧ j.natAbs < 1073741824 then some (.int (i.fdiv j)) else none := by
  simp only [binD, fdivD, Bool.and_eq_true, decide_eq_true_eq]
@[simp] theorem pow_int : binD .pow (.int i) (.int j) = if 0 ≤ j ∧ j ≤ 1000000 ∧ i.natAbs < 2 ^ 64 then some (.int (i ^ j.toNat)) else none := by
  simp only [binD, powD, Bool.and_eq_true, decide_eq_true_eq, and_assoc]
@[simp] theorem okD_int : okD (.int i) = true := rfl
@[simp] theorem okD_bool : okD (.bool b) = true := rfl
@[simp] theorem okD_none : okD .none = true := rfl
theorem eqD_of {a c : D} (h : okD a = true) (h' : okD c = true) : eqD a c = some (PyData.eqv a.py c.py) := by
  unfold eqD; rw [h, h']; rfl
@[simp] theorem eq_int : cmpD .eq (.int i) (.int j) = some (decide (i = j)) := by
  show eqD _ _ = _
  rw [eqD_of okD_int okD_int]
  simp only [D.py, PyData.eqv]
  rfl
@[simp] theorem ne_int : cmpD .ne (.int i) (.int j) = some (!decide (i = j)) := by
  show (cmpD .eq (.int i) (.int j)).map (!·) = _
  rw [eq_int]; rfl
@[simp] theorem ex_cond {α : Type} {p : Prop} {a : α} {q : α → Prop} : (∃ z, (p ∧ a = z) ∧ q z) ↔ p ∧ q a :=
  ⟨fun ⟨z, ⟨h1, h2⟩, h3⟩ => ⟨h1, h2 ▸ h3⟩, fun ⟨h1, h2⟩ => ⟨a, ⟨h1, rfl⟩, h2⟩⟩
theorem range1_eq (h : -(2 ^ 62) ≤ i ∧ i < 2 ^ 62) : range1D [.int i] = some (rangeD 0 i.toNat) := by
  simp only [range1D, Bool.and_eq_true, decide_eq_true_eq, if_pos h]
theorem range2_eq (h : -(2 ^ 62) ≤ i ∧ i < 2 ^ 62 ∧ -(2 ^ 62) ≤ j ∧ j < 2 ^ 62) : range2D [.int i, .int j] = some (rangeD i (j - i).toNat) := by
  simp only [range2D, Bool.and_eq_true, decide_eq_true_eq, and_assoc, if_pos h]
@[simp] theorem rho0_eq {N : List Str} {ds : List D} : rho0 N ds = ds.map Sl.val ++ List.replicate (N.length - ds.length) .un := rfl
theorem range_get {lo : Int} {k : Nat} {d : D} : (rangeD lo n)[k]? = some d ↔ k < n ∧ d = .int (lo + k) := by
  simp only [rangeD, List.getElem?_map, Option.map_eq_some_iff]
  constructor
  · rintro ⟨a, h1, h2⟩
    rw [List.getElem?_eq_some_iff] at h1
    obtain ⟨h, h3⟩ := h1
    simp at h h3
    subst h3
    exact ⟨h, h2.symm⟩
  · rintro ⟨h, rfl⟩
    exact ⟨k, by simp [h], rfl⟩
@[simp] theorem range_len {lo : Int} : (rangeD lo n).length = n := by simp [rangeD]
end
end Ev

set_option Elab.async false
set_option linter.all false
set_option autoImplicit false
set_option maxRecDepth 100000
/-! Ev12b: equations for dicts, two clauses, defaults. -/
namespace Ev
open PySem PySem.Spec PyProof.Rows L2

theorem wp_iff {α : Type} {x y : M α} {n : Nat} {Q : α → Nat → Prop} : wp x n Q = wq x n Q := rfl
theorem wp_bind' {α β : Type} {x : M α} {f : α → M β} {n : Nat} {Q : β → Nat → Prop} : wp (x >>= f) n Q ↔ wp x n fun a n1 => wp (f a) n1 Q := by
  show wq _ _ _ ↔ wq _ _ _
  rw [wq_bind]
  rfl
theorem wp_pure' {α : Type} {a : α} {n : Nat} {Q : α → Nat → Prop} : wp (pure a) n Q ↔ Q a n := by
  show wq _ _ _ ↔ _
  rw [wq_pure]
theorem wp_fail' {α : Type} {n : Nat} {Q : α → Nat → Prop} : wp (M.fail : M α) n Q ↔ False := by
  show wq _ _ _ ↔ _
  rw [wq_fail]
theorem wp_opt' {α : Type} {o : Option α} {n : Nat} {Q : α → Nat → Prop} : wp (M.opt o) n Q ↔ Ex1 o fun a => Q a n := by
  show wq _ _ _ ↔ _
  rw [wq_opt]
  rfl
theorem wp_ite' {α : Type} {c : Prop} [Decidable c] {x : M α} {n : Nat} {Q : α → Nat → Prop} : wp (if c then x else M.fail) n Q ↔ c ∧ wp x n Q := by
  split
  · rename_i h; exact ⟨fun q => ⟨h, q⟩, fun q => q.2⟩
  · rename_i h; rw [wp_fail']; exact ⟨False.elim, fun q => h q.1⟩

section
variable {fa fb fi : Rho → M D} {fr : Rho → M (List D)} {ρ : Rho} {n : Nat} {Q : D → Nat → Prop}
theorem wq_ite' {α : Type} {c : Prop} [Decidable c] {x : M α} {n : Nat} {Q : α → Nat → Prop} : wq (if c then x else M.fail) n Q ↔ c ∧ wq x n Q := wp_ite'
@[simp] theorem wp_d0 : wp (evD0 ρ) n Q ↔ Q (.dict [] []) n := wp_pure'
theorem wq_d1 : wq (evD1 fa fb ρ) n Q ↔ wq (fa ρ) n fun k n1 => wq (fb ρ) n1 fun v n2 => kindOk [] k = true ∧ Q (.dict [k] [v]) n2 := by
  unfold evD1
  simp only [wq_bind, wq_ite', wq_pure]
@[simp] theorem wp_d1 : wp (evD1 fa fb ρ) n Q ↔ wp (fa ρ) n fun k n1 => wp (fb ρ) n1 fun v n2 => kindOk [] k = true ∧ Q (.dict [k] [v]) n2 := wq_d1
theorem wq_mk {b : Mk} : wq (evMk b fr fb ρ) n Q ↔ wq (fr ρ) n fun xs n1 => wq (fb ρ) n1 fun d n2 => ∃ z, b.op xs d = some z ∧ Q z n2 := by
  unfold evMk
  simp only [wq_bind, wq_opt]
@[simp] theorem wp_mk {b : Mk} : wp (evMk b fr fb ρ) n Q ↔ wp (fr ρ) n fun xs n1 => wp (fb ρ) n1 fun d n2 => Ex1 (b.op xs d) fun z => Q z n2 := wq_mk
theorem wq_dc {own : List Nat} {t : Tgt} {fit : Rho → M (List D)} {fc : Rho → M Bool} : wq (evDc own t fit fc fa fb ρ) n Q ↔ wq (fit ρ) n fun ds n1 => ds.length < 16777216 ∧ wq (dcGo (dcBody own t fc fa fb ρ) ds [] []) n1 fun r n2 => Q (.dict r.1 r.2) n2 := by
  unfold evDc
  simp only [wq_bind, wq_ite', wq_pure]
@[simp] theorem wp_dc {own : List Nat} {t : Tgt} {fit : Rho → M (List D)} {fc : Rho → M Bool} : wp (evDc own t fit fc fa fb ρ) n Q ↔ wp (fit ρ) n fun ds n1 => ds.length < 16777216 ∧ wp (dcGo (dcBody own t fc fa fb ρ) ds [] []) n1 fun r n2 => Q (.dict r.1 r.2) n2 := wq_dc
theorem wq_dcBody {own : List Nat} {t : Tgt} {fc : Rho → M Bool} {d : D} {Q : Option (D × D) → Nat → Prop} : wq (dcBody own t fc fa fb ρ d) n Q ↔ ∃ ρ', bindT t d (wipeR ρ own) = some ρ' ∧ wq (fc ρ') n fun c n1 => if c = true then wq (fa ρ') n1 (fun k n2 => wq (fb ρ') n2 fun v n3 => Q (some (k, v)) n3) else Q none n1 := by
  unfold dcBody
  simp only [wq_bind, wq_opt, wq_ite, wq_pure]
@[simp] theorem wp_dcBody {own : List Nat} {t : Tgt} {fc : Rho → M Bool} {d : D} {Q : Option (D × D) → Nat → Prop} : wp (dcBody own t fc fa fb ρ d) n Q ↔ Ex1 (bindT t d (wipeR ρ own)) fun ρ' => wp (fc ρ') n fun c n1 => if c = true then wp (fa ρ') n1 (fun k n2 => wp (fb ρ') n2 fun v n3 => Q (some (k, v)) n3) else Q none n1 := wq_dcBody
theorem wq_lc2 {own own1 : List Nat} {t t1 : Tgt} {fit fit1 : Rho → M (List D)} {fc fc1 : Rho → M Bool} : wq (evLc2 own t fit fc own1 t1 fit1 fc1 fa ρ) n Q ↔ wq (fit ρ) n fun ds n1 => wq (catGo (lc2Body own t fc own1 t1 fit1 fc1 fa ρ) ds) n1 fun rs n2 => rs.length ≤ 16777216 ∧ Q (.lst rs) n2 := by
  unfold evLc2
  simp only [wq_bind, wq_ite', wq_pure]
@[simp] theorem wp_lc2 {own own1 : List Nat} {t t1 : Tgt} {fit fit1 : Rho → M (List D)} {fc fc1 : Rho → M Bool} : wp (evLc2 own t fit fc own1 t1 fit1 fc1 fa ρ) n Q ↔ wp (fit ρ) n fun ds n1 => wp (catGo (lc2Body own t fc own1 t1 fit1 fc1 fa ρ) ds) n1 fun rs n2 => rs.length ≤ 16777216 ∧ Q (.lst rs) n2 := wq_lc2
theorem wq_lc2Body {own own1 : List Nat} {t t1 : Tgt} {fit1 : Rho → M (List D)} {fc fc1 : Rho → M Bool} {d : D} {Q : List D → Nat → Prop} : wq (lc2Body own t fc own1 t1 fit1 fc1 fa ρ d) n Q ↔ ∃ ρ', bindT t d (wipeR ρ own) = some ρ' ∧ wq (fc ρ') n fun c n1 => if c = true then wq (fit1 ρ') n1 (fun ds n2 => wq (lcGo (lcBody own1 t1 fc1 fa ρ') ds) n2 Q) else Q [] n1 := by
  unfold lc2Body
  simp only [wq_bind, wq_opt, wq_ite, wq_pure]
@[simp] theorem wp_lc2Body {own own1 : List Nat} {t t1 : Tgt} {fit1 : Rho → M (List D)} {fc fc1 : Rho → M Bool} {d : D} {Q : List D → Nat → Prop} : wp (lc2Body own t fc own1 t1 fit1 fc1 fa ρ d) n Q ↔ Ex1 (bindT t d (wipeR ρ own)) fun ρ' => wp (fc ρ') n fun c n1 => if c = true then wp (fit1 ρ') n1 (fun ds n2 => wp (lcGo (lcBody own1 t1 fc1 fa ρ') ds) n2 Q) else Q [] n1 := wq_lc2Body
theorem wq_xSetA {i : Nat} {Q : Out → Nat → Prop} : wq (xSetA i fi fa ρ) n Q ↔ wq (fa ρ) n fun d n1 => wq (fi ρ) n1 fun k n2 => ∃ ρ', setRA ρ i k d = some ρ' ∧ Q (.nx ρ') n2 := by
  unfold xSetA
  simp only [wq_bind, wq_opt, wq_pure]
@[simp] theorem wp_xSetA {i : Nat} {Q : Out → Nat → Prop} : wp (xSetA i fi fa ρ) n Q ↔ wp (fa ρ) n fun d n1 => wp (fi ρ) n1 fun k n2 => Ex1 (setRA ρ i k d) fun ρ' => Q (.nx ρ') n2 := wq_xSetA
theorem wq_xAugIx {i : Nat} {o : BinO} {Q : Out → Nat → Prop} : wq (xAugIx i o fi fa ρ) n Q ↔ wq (fi ρ) n fun k n1 => wq (fa ρ) n1 fun d n2 => ∃ ρ', augIx o ρ i k d = some ρ' ∧ Q (.nx ρ') n2 := by
  unfold xAugIx
  simp only [wq_bind, wq_opt, wq_pure]
@[simp] theorem wp_xAugIx {i : Nat} {o : BinO} {Q : Out → Nat → Prop} : wp (xAugIx i o fi fa ρ) n Q ↔ wp (fi ρ) n fun k n1 => wp (fa ρ) n1 fun d n2 => Ex1 (augIx o ρ i k d) fun ρ' => Q (.nx ρ') n2 := wq_xAugIx
end
section
variable {fa fb : Rho → M D} {ρ : Rho} {n : Nat} {Q : D → Nat → Prop}
@[simp] theorem wp_ev0 : wp (ev0 ρ) n Q ↔ Q (.int 0) n := wp_pure'
theorem wq_tupRg : wq (evTupRg fa fb ρ) n Q ↔ wq (fa ρ) n fun a n1 => wq (fb ρ) n1 fun b n2 => ∃ p, rgD a b = some p ∧ Q (.tup (rangeD p.1 (p.2 - p.1).toNat)) n2 := by
  unfold evTupRg
  simp only [wq_bind, wq_opt, wq_pure]
@[simp] theorem wp_tupRg : wp (evTupRg fa fb ρ) n Q ↔ wp (fa ρ) n fun a n1 => wp (fb ρ) n1 fun b n2 => Ex1 (rgD a b) fun p => Q (.tup (rangeD p.1 (p.2 - p.1).toNat)) n2 := wq_tupRg
theorem wq_lstRg : wq (evLstRg fa fb ρ) n Q ↔ wq (fa ρ) n fun a n1 => wq (fb ρ) n1 fun b n2 => ∃ p, rgD a b = some p ∧ Q (.lst (rangeD p.1 (p.2 - p.1).toNat)) n2 := by
  unfold evLstRg
  simp only [wq_bind, wq_opt, wq_pure]
@[simp] theorem wp_lstRg : wp (evLstRg fa fb ρ) n Q ↔ wp (fa ρ) n fun a n1 => wp (fb ρ) n1 fun b n2 => Ex1 (rgD a b) fun p => Q (.lst (rangeD p.1 (p.2 - p.1).toNat)) n2 := wq_lstRg
theorem wq_l2 {op : D → D → Option (List D)} : wq (evL2 op fa fb ρ) n Q ↔ wq (fa ρ) n fun a n1 => wq (fb ρ) n1 fun b n2 => ∃ l, op a b = some l ∧ Q (.lst l) n2 := by
  unfold evL2
  simp only [wq_bind, wq_opt, wq_pure]
@[simp] theorem wp_l2 {op : D → D → Option (List D)} : wp (evL2 op fa fb ρ) n Q ↔ wp (fa ρ) n fun a n1 => wp (fb ρ) n1 fun b n2 => Ex1 (op a b) fun l => Q (.lst l) n2 := wq_l2
@[simp] theorem catLD_lst {xs ys : List D} : catLD (.lst xs) (.lst ys) = if xs.length + ys.length ≤ 16777216 then some (xs ++ ys) else none := rfl
theorem repLD_one {x : D} {m : Nat} (h : m ≤ 1000) : repLD (.lst [x]) (.int m) = some (List.replicate m x) := by
  unfold repLD
  have h1 : (decide ((0 : Int) ≤ m) && decide ((m : Int) ≤ 1000) && decide ([x].length ≤ 1000)) = true := by simp; omega
  simp only [h1, if_true, Int.toNat_natCast]
  congr 1
  clear h h1
  induction m with
  | zero => rfl
  | succ m ih => rw [List.replicate_succ, List.flatten_cons, ih, List.replicate_succ]; rfl
@[simp] theorem rgD_int {a b : Int} : rgD (.int a) (.int b) = if -(2 ^ 62) ≤ a ∧ a < 2 ^ 62 ∧ -(2 ^ 62) ≤ b ∧ b < 2 ^ 62 ∧ (b - a).toNat ≤ 16777216 then some (a, b) else none := rfl
end
@[simp] theorem setRA_lst {ρ : Rho} {i : Nat} {k d : D} {ds : List D} (h : ρ[i]? = some (.own (.lst ds))) : setRA ρ i k d = setR ρ i k d := by
  unfold setRA
  rw [h]
theorem setRA_dict {ρ : Rho} {i : Nat} {k d : D} {ks vs : List D} (h : ρ[i]? = some (.own (.dict ks vs))) (hk : kindOk ks k = true) (hl : ks.length < 16777216) : setRA ρ i k d = some (ρ.set i (.own (.dict (dkeys ks k) (dvals ks vs k d)))) := by
  unfold setRA
  rw [h]
  simp only [hk, hl, decide_true, Bool.and_self, if_true]
theorem augIx_lst {o : BinO} {ρ : Rho} {i : Nat} {k : Int} {d y : D} {ds : List D} (h : ρ[i]? = some (.own (.lst ds))) (hk : 0 ≤ k) (hx : ds[k.toNat]? = some y) : augIx o ρ i (.int k) d = (augD o y d).map fun y => ρ.set i (.own (.lst (ds.set k.toNat y))) := by
  unfold augIx
  rw [h]
  simp only [hk, if_true, hx]
/-- a comprehension's walk with an invariant -/
theorem wp_catGo {body : D → M (List D)} {n : Nat} {Q : List D → Nat → Prop} : ∀ {ds : List D} (I : Nat → List D → Nat → Prop), I 0 [] n → (∀ i d acc n, ds[i]? = some d → I i acc n → wp (body d) n fun r n1 => I (i + 1) (acc ++ r) n1) → (∀ rs n, I ds.length rs n → Q rs n) → wp (catGo body ds) n Q := by
  have key : ∀ (ds : List D) (I : Nat → List D → Nat → Prop) (i : Nat) (acc : List D) (n : Nat), I i acc n → (∀ j d acc n, ds[j]? = some d → I (i + j) acc n → wp (body d) n fun r n1 => I (i + j + 1) (acc ++ r) n1) → wp (catGo body ds) n fun rs n1 => I (i + ds.length) (acc ++ rs) n1 := by
    intro ds
    induction ds with
    | nil => intro I i acc n h0 _; rw [show catGo body [] = pure [] from rfl, wp_pure', List.append_nil]; exact h0
    | cons d ds ih =>
      intro I i acc n h0 ht
      rw [show catGo body (d :: ds) = (body d >>= fun r => catGo body ds >>= fun rs => pure (r ++ rs)) from rfl]
      refine wp_bind'.mpr ((ht 0 d acc n rfl h0).mono fun r n1 h1 => wp_bind'.mpr ?_)
      refine (ih I (i + 1) (acc ++ r) n1 h1 fun j d' acc n hj h => ?_).mono fun rs n2 h2 => wp_pure'.mpr ?_
      · have := ht (j + 1) d' acc n (by simpa using hj) (by rw [show i + (j + 1) = i + 1 + j by omega]; exact h)
        rw [show i + 1 + j + 1 = i + (j + 1) + 1 by omega]
        exact this
      · rw [List.append_assoc] at h2
        rw [List.length_cons, show i + (ds.length + 1) = i + 1 + ds.length by omega]
        exact h2
  intro ds I h0 ht hq
  refine (key ds I 0 [] n h0 fun j d acc n hj h => ?_).mono fun rs n1 h => hq rs n1 (by simpa using h)
  rw [Nat.zero_add] at h ⊢
  exact ht j d acc n hj h
theorem wp_cat_map {α : Type} {body : D → M (List D)} {g : α → D} {n : Nat} {Q : List D → Nat → Prop} (f : α → List D) : ∀ {l : List α}, (∀ a ∈ l, wp (body (g a)) n fun r m => r = f a ∧ m = n) → Q (l.flatMap f) n → wp (catGo body (l.map g)) n Q := by
  intro l
  induction l generalizing Q with
  | nil => intro _ q; exact wp_pure'.mpr q
  | cons a l ih =>
    intro h q
    rw [List.map_cons, show catGo body (g a :: l.map g) = (body (g a) >>= fun r => catGo body (l.map g) >>= fun rs => pure (r ++ rs)) from rfl]
    refine wp_bind'.mpr ((h a List.mem_cons_self).mono fun r m ⟨e1, e2⟩ => wp_bind'.mpr ?_)
    subst e1 e2
    exact ih (Q := fun rs n2 => wp (pure (f a ++ rs)) n2 Q) (fun b hb => h b (List.mem_cons_of_mem _ hb)) (wp_pure'.mpr q)
end Ev

set_option Elab.async false
set_option linter.all false
set_option autoImplicit false
set_option maxRecDepth 100000
/-! Ev12c: equations for lambdas, instances, reversed lists. -/
namespace Ev
open PySem PySem.Spec PyProof.Rows L2

theorem wp_congr {α : Type} {x : M α} {n : Nat} {Q Q' : α → Nat → Prop} (h : ∀ a n', Q a n' ↔ Q' a n') : wp x n Q ↔ wp x n Q' := ⟨fun q => q.mono fun a n' => (h a n').mp, fun q => q.mono fun a n' => (h a n').mpr⟩
@[simp] theorem bind_tn {is : List Nat} {xs : List D} {ρ : Rho} : bindT (.tn is) (.tup xs) ρ = bindNs is xs ρ := rfl
@[simp] theorem bind_ns0 {ρ : Rho} : bindNs [] [] ρ = some ρ := rfl
@[simp] theorem bind_ns1 {i : Nat} {is : List Nat} {d : D} {ds : List D} {ρ : Rho} : bindNs (i :: is) (d :: ds) ρ = bindNs is ds (ρ.set i (.val d)) := rfl
def cloD : D → Option (Nat × List D)
  | .clo j caps => some (j, caps)
  | _ => none
def objD (x : Str) (tb : List (Nat × Nat)) : D → Option Nat
  | .obj c ns ds => if ns.contains x then none else tb.lookup c
  | _ => none
def lamR (j : Nat) : Option Sl → Option Unit
  | some (.lam k) => if k = j then some () else none
  | _ => none
def slfR : Option Sl → Option D
  | some (.slf d) => some d
  | _ => none
@[simp] theorem cloD_c {j : Nat} {caps : List D} : cloD (.clo j caps) = some (j, caps) := rfl
@[simp] theorem lamR_l {j : Nat} : lamR j (some (.lam j)) = some () := if_pos rfl
@[simp] theorem slfR_s {d : D} : slfR (some (.slf d)) = some d := rfl
@[simp] theorem objD_o {x : Str} {tb : List (Nat × Nat)} {c : Nat} {ns : List Str} {ds : List D} : objD x tb (.obj c ns ds) = if ns.contains x = true then none else tb.lookup c := rfl
@[simp] theorem fldD_o {x : Str} {cs : List Nat} {c : Nat} {ns : List Str} {ds : List D} : fldD x cs (.obj c ns ds) = if cs.contains c = true then (ns.zip ds).lookup x else none := rfl
@[simp] theorem revD_l {xs : List D} : revD (.lst xs) = some (.lst xs.reverse) := rfl
section
variable {C : Nat → List D → M D} {C1 : List D → M D} {fa ff : Rho → M D} {fr : Rho → M (List D)} {ρ : Rho} {n : Nat} {Q : D → Nat → Prop} {QO : Out → Nat → Prop} {x : Str} {cs : List Nat} {i j : Nat} {caps : List Nat}
@[simp] theorem wp_callv : wp (evCV C ff fr ρ) n Q ↔ wp (ff ρ) n fun c n1 => wp (fr ρ) n1 fun xs n2 => Ex1 (cloD c) fun p => noClos xs = true ∧ wp (C p.1 (p.2 ++ xs)) n2 Q := by
  unfold evCV
  rw [wp_bind]
  refine wp_congr fun c n1 => ?_
  rw [wp_bind]
  refine wp_congr fun xs n2 => ?_
  constructor <;> intro h
  · cases c with
    | clo j caps =>
      refine ⟨_, rfl, ?_⟩
      simp only at h
      split at h
      · exact ⟨by assumption, h⟩
      · exact (wp_fail.mp h).elim
    | _ => exact (wp_fail.mp h).elim
  · obtain ⟨p, e, h1, h2⟩ := h
    cases c <;> cases e
    simp only
    rw [if_pos h1]
    exact h2
@[simp] theorem wp_callL : wp (evCL C1 fr ρ) n Q ↔ wp (fr ρ) n fun xs n1 => wp (C1 xs) n1 fun d n2 => noClo d = true ∧ Q d n2 := by
  unfold evCL
  rw [wp_bind]
  refine wp_congr fun c n1 => ?_
  rw [wp_bind]
  refine wp_congr fun d n2 => ?_
  constructor <;> intro h
  · split at h
    · exact ⟨by assumption, wp_pure.mp h⟩
    · exact (wp_fail.mp h).elim
  · rw [if_pos h.1]
    exact wp_pure.mpr h.2
@[simp] theorem wp_getVs0 {Q : List D → Nat → Prop} : wp (getVs [] ρ) n Q ↔ Q [] n := wp_nil
@[simp] theorem wp_getVs1 {Q : List D → Nat → Prop} : wp (getVs (i :: caps) ρ) n Q ↔ Ex1 (valR ρ[i]?) fun d => wp (getVs caps ρ) n fun r n1 => Q (d :: r) n1 := by
  show wp (evCons (getV i) (getVs caps) ρ) n Q ↔ _
  rw [wp_cons, wp_getV]
@[simp] theorem wp_lam : wp (evLam j caps ρ) n Q ↔ wp (getVs caps ρ) n fun ds n1 => Q (.clo j ds) n1 := by
  unfold evLam
  rw [wp_bind]
  exact wp_congr fun _ _ => wp_pure
@[simp] theorem wp_loc : wp (evLoc i j caps ρ) n Q ↔ Ex1 (lamR j ρ[i]?) fun _ => wp (getVs caps ρ) n fun ds n1 => Q (.clo j ds) n1 := by
  rw [← wp_lam]
  constructor
  · rintro ⟨a, n', e, q⟩
    unfold evLoc at e
    split at e
    · rename_i k h
      split at e
      · rename_i hk
        subst hk
        rw [h]
        exact ⟨(), lamR_l, a, n', e, q⟩
      · cases e
    · cases e
  · rintro ⟨u, e, a, n', e2, q⟩
    refine ⟨a, n', ?_, q⟩
    unfold lamR at e
    split at e
    · rename_i k h
      split at e
      · rename_i hk
        subst hk
        unfold evLoc
        rw [h]
        simp only [if_pos]
        exact e2
      · cases e
    · cases e
@[simp] theorem wp_fld : wp (evFld x cs fa ρ) n Q ↔ wp (fa ρ) n fun a n1 => Ex1 (fldD x cs a) fun d => Q d n1 := by
  unfold evFld
  rw [wp_bind]
  exact wp_congr fun _ _ => wp_opt
@[simp] theorem wp_fldS : wp (evFldS i x cs ρ) n Q ↔ Ex1 (slfR ρ[i]?) fun d => Ex1 (fldD x cs d) fun y => Q y n := by
  constructor
  · rintro ⟨a, n', e, q⟩
    unfold evFldS at e
    split at e
    · rename_i d h
      rw [Option.map_eq_some_iff] at e
      obtain ⟨y, e1, e2⟩ := e
      cases e2
      rw [h]
      exact ⟨d, rfl, _, e1, q⟩
    · cases e
  · rintro ⟨d, e, y, e1, q⟩
    unfold slfR at e
    split at e
    · rename_i d' h
      cases e
      refine ⟨y, n, ?_, q⟩
      unfold evFldS
      rw [h]
      simp only [e1]
      rfl
    · cases e
@[simp] theorem wp_meth {tb : List (Nat × Nat)} : wp (evMeth C x tb fa fr ρ) n Q ↔ wp (fa ρ) n fun o n1 => wp (fr ρ) n1 fun xs n2 => Ex1 (objD x tb o) fun j => wp (C j (o :: xs)) n2 Q := by
  unfold evMeth
  rw [wp_bind]
  refine wp_congr fun o n1 => ?_
  rw [wp_bind]
  refine wp_congr fun xs n2 => ?_
  constructor <;> intro h
  · cases o with
    | obj c ns ds =>
      simp only at h
      split at h
      · exact (wp_fail.mp h).elim
      · rename_i hn
        split at h
        · rename_i j hj
          exact ⟨j, by rw [objD_o, if_neg hn]; exact hj, h⟩
        · exact (wp_fail.mp h).elim
    | _ => exact (wp_fail.mp h).elim
  · obtain ⟨j, e, h2⟩ := h
    cases o with
    | obj c ns ds =>
      rw [objD_o] at e
      split at e
      · cases e
      · rename_i hn
        simp only
        rw [if_neg hn, e]
        exact h2
    | _ => cases e
@[simp] theorem wp_rev : wp (evRev fa ρ) n Q ↔ wp (fa ρ) n fun a n1 => Ex1 (revD a) fun d => Q d n1 := by
  unfold evRev
  rw [wp_bind]
  exact wp_congr fun _ _ => wp_opt
@[simp] theorem wp_setf : wp (xSetF x cs fa ρ) n QO ↔ wp (fa ρ) n fun d n1 => Ex1 (setFD x cs d ρ) fun ρ' => QO (.nx ρ') n1 := by
  unfold xSetF
  rw [wp_bind]
  refine wp_congr fun d n1 => ?_
  rw [wp_bind, wp_opt]
  exact ⟨fun ⟨a, e, q⟩ => ⟨a, e, wp_pure.mp q⟩, fun ⟨a, e, q⟩ => ⟨a, e, wp_pure.mpr q⟩⟩
@[simp] theorem wp_ext : wp (xExt i fa ρ) n QO ↔ wp (fa ρ) n fun d n1 => Ex1 (extR ρ i d) fun ρ' => QO (.nx ρ') n1 := by
  unfold xExt
  rw [wp_bind]
  refine wp_congr fun d n1 => ?_
  rw [wp_bind, wp_opt]
  exact ⟨fun ⟨a, e, q⟩ => ⟨a, e, wp_pure.mp q⟩, fun ⟨a, e, q⟩ => ⟨a, e, wp_pure.mpr q⟩⟩
@[simp] theorem wp_xLam : wp (xLam i j ρ) n QO ↔ QO (.nx (ρ.set i (.lam j))) n := by
  unfold xLam
  rw [wp_pure]
@[simp] theorem wp_retL : wp (xRetL j caps ρ) n QO ↔ wp (getVs caps ρ) n fun ds n1 => QO (.rt (.clo j ds)) n1 := by
  unfold xRetL
  rw [wp_bind, wp_lam]
  exact wp_congr fun _ _ => wp_pure
theorem extR_at {d : D} {ds es : List D} (h : ρ[i]? = some (.own (.lst ds))) (hl : ds.length + es.length < 16777216) : extR ρ i (.lst es) = some (ρ.set i (.own (.lst (ds ++ es)))) := by
  unfold extR
  rw [h]
  simp only [if_pos hl]
end
section
variable {T : Tab} {k f : Nat} {fd : FD} {ds : List D} {n c : Nat} {Q : D → Nat → Prop}
theorem wp_primC {C : (Nat → List D → M D) → List D → M D} (h : T.lookup f = some (.primC C)) : wp (callF T (k + 1) f ds) n Q ↔ wp (C (callF T k) ds) n Q := by
  rw [callF, h]
theorem wp_init (h : T.lookup f = some (.init fd c)) (hl : ds.length + 1 = fd.np) : wp (callF T (k + 1) f ds) n Q ↔ wp (xSs (callF T k) fd.body (rhoI fd.N c ds)) n fun o n1 => o.go (fun _ _ => False) n1 (fun ρ => Ex1 (slfR ρ[0]?) fun d => Q d n1) := by
  rw [callF, h]
  simp only [if_pos hl]
  rw [wp_bind]
  refine wp_congr fun o n1 => ?_
  constructor <;> intro h
  · cases o with
    | nx ρ =>
      show Ex1 _ _
      unfold initF at h
      simp only at h
      cases e : (ρ[0]? : Option Sl) with
      | none =>
        rw [e] at h
        exact (wp_fail.mp h).elim
      | some s =>
        rw [e] at h
        cases s with
        | slf d => exact ⟨d, rfl, wp_pure.mp h⟩
        | _ => exact (wp_fail.mp h).elim
    | _ => exact (wp_fail.mp h).elim
  · cases o with
    | nx ρ =>
      obtain ⟨d, e, q⟩ := (show Ex1 _ _ from h)
      unfold slfR at e
      split at e
      · rename_i d' h'
        cases e
        unfold initF
        simp only [h']
        exact wp_pure.mpr q
      · cases e
    | _ => exact False.elim h
end
section
variable {C : Nat → List D → M D} {e a f : E} {es : Es} {caps : List Nat} {nc i j : Nat} {N ps : List Str} {x : Str} {cs : List Nat} {tb : List (Nat × Nat)}
@[simp] theorem evc_0 : ev C (.rev a) = evRev (ev C a) := rfl
@[simp] theorem evc_1 : ev C (.callv f es) = evCV C (ev C f) (evs C es) := rfl
@[simp] theorem evc_2 : ev C (.callL i es) = evCL (C i) (evs C es) := rfl
@[simp] theorem evc_3 : ev C (.lam j caps nc N ps e) = evLam j caps := rfl
@[simp] theorem evc_4 : ev C (.lloc i j caps) = evLoc i j caps := rfl
@[simp] theorem evc_5 : ev C (.fld x cs a) = evFld x cs (ev C a) := rfl
@[simp] theorem evc_6 : ev C (.fldS i x cs) = evFldS i x cs := rfl
@[simp] theorem evc_7 : ev C (.meth x tb a es) = evMeth C x tb (ev C a) (evs C es) := rfl
@[simp] theorem evc_8 : ev C .bad = fun _ => M.fail := rfl
@[simp] theorem evc_9 : xS C (.lamS i j caps nc N ps e) = xLam i j := rfl
@[simp] theorem evc_10 : xS C (.retL j caps nc N ps e) = xRetL j caps := rfl
@[simp] theorem evc_11 : xS C (.setf x cs e) = xSetF x cs (ev C e) := rfl
@[simp] theorem evc_12 : xS C (.ext i e) = xExt i (ev C e) := rfl
@[simp] theorem evc_13 : xS C .bad = fun _ => M.fail := rfl
@[simp] theorem evc_14 : xSs C .bad = fun _ => M.fail := rfl
end
end Ev

set_option Elab.async false
set_option linter.all false
set_option autoImplicit false
set_option maxRecDepth 100000
set_option maxHeartbeats 4000000
/-! Ev13: the pool. -/
namespace Ev
open PySem PySem.Spec PyProof.Rows L2

def cellB : Ss := (Ss.cons (S.ite (E.cmp .lt (E.var 1) (E.bi .len (Es.cons (E.var 0) Es.nil))) (Ss.cons (S.ret (E.ix (E.var 0) (E.var 1))) Ss.nil) Ss.nil) (Ss.cons (S.ret (E.int 0)) Ss.nil))
def cellN : List Str := [(Str.ofString "script"), (Str.ofString "k")]
def numB : Ss := (Ss.cons (S.own 2 (E.lst Es.nil)) (Ss.cons (S.asg (Tgt.nm 3) (E.var 0)) (Ss.cons (S.for_ (Tgt.nm 4) (It.range1 (E.var 1)) (Ss.cons (S.ite (E.and (Es.cons (E.cmp .ge (E.var 0) (E.bin .pow (E.int 10) (E.int 18))) (Es.cons (E.cmp .gt (E.var 3) (E.int 0)) Es.nil))) (Ss.cons (S.app 2 (E.bin .mod (E.bi .int (Es.cons (E.var 3) Es.nil)) (E.int 4099))) (Ss.cons (S.asg (Tgt.nm 3) (E.bin .fdiv (E.var 3) (E.int 4099))) Ss.nil)) (Ss.cons (S.asg (Tgt.nm 5) (E.bin .mod (E.bi .int (Es.cons (E.bin .add (E.bin .mul (E.var 0) (E.int 69621)) (E.bin .mul (E.bin .add (E.var 4) (E.int 1)) (E.int 48271))) Es.nil)) (E.int 2147483647))) (Ss.cons (S.asg (Tgt.nm 5) (E.bin .mod (E.bi .int (Es.cons (E.bin .add (E.bin .add (E.bin .mul (E.var 5) (E.var 5)) (E.bin .mul (E.var 5) (E.int 16807))) (E.bin .mul (E.var 4) (E.int 7919))) Es.nil)) (E.int 2147483629))) (Ss.cons (S.asg (Tgt.nm 5) (E.bin .mod (E.bi .int (Es.cons (E.bin .add (E.bin .add (E.bin .mul (E.var 5) (E.var 5)) (E.var 0)) (E.bin .mul (E.int 17) (E.var 4))) Es.nil)) (E.int 2147483587))) (Ss.cons (S.app 2 (E.bin .mod (E.bin .fdiv (E.var 5) (E.int 5)) (E.int 4099))) Ss.nil))))) Ss.nil)) (Ss.frz 2 (Ss.cons (S.ret (E.var 2)) Ss.nil)))))
def numN : List Str := [(Str.ofString "cell"), (Str.ofString "many"), (Str.ofString "rows"), (Str.ofString "left"), (Str.ofString "k"), (Str.ofString "mixed")]
def poolB : Ss := (Ss.cons (S.asg (Tgt.nm 1) (E.lst Es.nil)) (Ss.cons (S.for_ (Tgt.nm 2) (It.range1 (E.bi .min (Es.cons (E.int 6) (Es.cons (E.bi .max (Es.cons (E.int 1) (Es.cons (E.bi .len (Es.cons (E.var 0) Es.nil)) Es.nil))) Es.nil)))) (Ss.cons (S.asg (Tgt.nm 1) (E.bin .add (E.var 1) (E.call 1 (Es.cons (E.bin .add (E.call 0 (Es.cons (E.var 0) (Es.cons (E.var 2) Es.nil))) (E.bin .mul (E.int 11) (E.var 2))) (Es.cons (E.int 24) Es.nil))))) Ss.nil)) (Ss.cons (S.ret (E.lst (Es.cons (E.var 1) (Es.cons (E.lst (Es.cons (E.int 0) Es.nil)) Es.nil)))) Ss.nil)))
def poolN : List Str := [(Str.ofString "script"), (Str.ofString "rows"), (Str.ofString "k")]
def cellD : FD := ⟨Str.ofString "_law_cell", 2, cellN, cellB, false⟩
def numD : FD := ⟨Str.ofString "_law_numbers", 2, numN, numB, false⟩
def poolD : FD := ⟨Str.ofString "_law_pool", 1, poolN, poolB, false⟩
def T0 : Tab := [(0, .defn cellD), (1, .defn numD), (2, .defn poolD)]
theorem t0_0 : T0.lookup 0 = some (.defn cellD) := rfl
theorem t0_1 : T0.lookup 1 = some (.defn numD) := rfl
theorem t0_2 : T0.lookup 2 = some (.defn poolD) := rfl
@[simp] theorem scr_ix {ns : List Int} {i : Int} : ixD (.scr ns) (.int i) = (atI ns i).map D.int := rfl

theorem atI_ok {α : Type} {xs : List α} {k : Nat} (h : k < xs.length) : atI xs (k : Int) = some xs[k] := atI_nat (j := k) (by simp [h])
theorem cell_ok {ns : List Int} {k k' n : Nat} : ∃ i : Int, wp (callF T0 (k' + 1) 0 [.scr ns, .int k]) n fun d _ => d = .int i := by
  by_cases h : k < ns.length
  · refine ⟨ns[k], ?_⟩
    rw [wp_def t0_0 rfl]
    have h' : (k : Int) < (ns.length : Int) := by omega
    simp [cellD, cellN, cellB, h', atI_ok h]
  · refine ⟨0, ?_⟩
    rw [wp_def t0_0 rfl]
    have h' : ¬ (k : Int) < (ns.length : Int) := by omega
    simp [cellD, cellN, cellB, h']
theorem fmod_bound {i m : Int} (h : 0 < m) : 0 ≤ i.fmod m ∧ i.fmod m < m := by
  rw [Int.fmod_eq_emod_of_nonneg _ (by omega)]
  exact ⟨Int.emod_nonneg _ (by omega), Int.emod_lt_of_pos _ h⟩
@[simp] theorem appR_own {ρ : Rho} {i : Nat} {d : D} : appR ρ i d = match ρ[i]? with
  | some (.own (.lst ds)) => if ds.length < 16777216 then some (ρ.set i (.own (.lst (ds ++ [d])))) else none
  | _ => none := rfl
theorem num_ok {c : Int} {k' n : Nat} : wp (callF T0 (k' + 1) 1 [.int c, .int 24]) n fun d _ => ∃ rows : List Int, d = .lst (rows.map .int) ∧ rows.length = 24 := by
  rw [wp_def t0_1 rfl]
  simp [numD, numN, numB, range1_eq]
  refine wp_for (I := fun i ρ n => ∃ (rows : List Int) (l : Int) (x4 x5 : Sl), ρ = [.val (.int c), .val (.int 24), .own (.lst (rows.map .int)), .val (.int l), x4, x5] ∧ rows.length = i) ⟨[], c, _, _, rfl, rfl⟩ ?_ ?_
  · rintro i d ρ n hd ⟨rows, l, x4, x5, rfl, rfl⟩
    obtain ⟨hi, rfl⟩ := range_get.mp hd
    have hl : rows.length < 16777216 := by omega
    simp [hl, -Bool.exists_bool]
    have f1 : ∀ x : Int, -18446744073709551616 < x.fmod 2147483647 ∧ x.fmod 2147483647 < 18446744073709551616 := fun x => by
      have := @fmod_bound x 2147483647 (by decide)
      omega
    have f2 : ∀ x : Int, -18446744073709551616 < x.fmod 2147483629 ∧ x.fmod 2147483629 < 18446744073709551616 := fun x => by
      have := @fmod_bound x 2147483629 (by decide)
      omega
    have more : ∀ x : Int, ∃ rows_1 : List Int, List.map D.int rows ++ [D.int x] = List.map D.int rows_1 ∧ rows_1.length = rows.length + 1 := fun x => ⟨rows ++ [x], by simp, by simp⟩
    split
    · split
      · exact more _
      · exact ⟨f1 _, f2 _, more _⟩
    · exact ⟨f1 _, f2 _, more _⟩
  · rintro ρ n ⟨rows, l, x4, x5, rfl, h⟩
    simp at h
    simp [frzR]
    exact ⟨rows, rfl, h⟩
theorem pool_ok {ns : List Int} {k' n : Nat} (hn : ns.length ≤ 63) : wp (callF T0 (k' + 2) 2 [.scr ns]) n fun d _ => ∃ rows : List Int, d = .lst [.lst (rows.map .int), .lst [.int 0]] ∧ 24 ≤ rows.length ∧ rows.length ≤ 144 := by
  have hm : ∃ m : Nat, 1 ≤ m ∧ m ≤ 6 ∧ (if (if 1 < (ns.length : Int) then (ns.length : Int) else 1) < 6 then (if 1 < (ns.length : Int) then (ns.length : Int) else 1) else 6) = (m : Int) := by
    refine ⟨min 6 (max 1 ns.length), by omega, by omega, ?_⟩
    split <;> split at * <;> omega
  obtain ⟨m, h1, h6, em⟩ := hm
  rw [wp_def t0_2 rfl]
  simp [poolD, poolN, poolB, em]
  rw [range1_eq (by omega)]
  simp
  refine wp_for (I := fun i ρ n => ∃ (rows : List Int) (x2 : Sl), ρ = [.val (.scr ns), .val (.lst (rows.map .int)), x2] ∧ rows.length = 24 * i) ⟨[], _, rfl, rfl⟩ ?_ ?_
  · rintro i d ρ n hd ⟨rows, x2, rfl, hl⟩
    obtain ⟨hi, rfl⟩ := range_get.mp hd
    simp [hl]
    obtain ⟨c, hc⟩ := @cell_ok ns i k' n
    refine hc.mono ?_
    rintro _ n1 rfl
    simp
    refine num_ok.mono ?_
    rintro _ n2 ⟨r2, rfl, h2⟩
    simp [hl, h2]
    exact ⟨by omega, rows ++ r2, by simp, by simp [hl, h2]; omega⟩
  · rintro ρ n ⟨rows, x2, rfl, h⟩
    simp at h
    simp
    exact ⟨rows, rfl, by omega, by omega⟩
end Ev

set_option Elab.async false
set_option linter.all false
set_option autoImplicit false
set_option maxRecDepth 100000
set_option maxHeartbeats 4000000
/-! Ev14: the law's own def. -/
namespace Ev
open PySem PySem.Spec PyProof.Rows L2
def spLaw (K : PySem.W.Frag) (TB : List (Addr × Str)) : Sp := fun vs H Q _ => ∃ (a : Addr) (ns : List Int), vs = [.ref a] ∧ SqL K H a (ns.map V.int) ∧ ns.length ≤ 63 ∧ LamX.Tabs TB H ∧ ∀ H', Q (.bl true) H'
/-- what is known ahead of the pool -/
def gh0 (K : PySem.W.Frag) (w : World) (lam : Nat → LamT → Prop) (cls : Nat → Option Addr) (tabs : List (Addr × Str)) : Gh := { live := false, K := K, pp := 0, pr := 0, pc := 0, rows := [], w := w, lam := lam, cls := cls, tabs := tabs, lcl := fun _ => [], slf := 0 }
/-- .. behind it -/
def gh1 (K : PySem.W.Frag) (w : World) (lam : Nat → LamT → Prop) (cls : Nat → Option Addr) (tabs : List (Addr × Str)) (pp pr pc : Addr) (rows : List Int) : Gh := { live := true, K := K, pp := pp, pr := pr, pc := pc, rows := rows, w := w, lam := lam, cls := cls, tabs := tabs, lcl := fun _ => [], slf := 0 }
structure GhIs (g : Gh) (K : PySem.W.Frag) (w : World) (lam : Nat → LamT → Prop) (cls : Nat → Option Addr) (tabs : List (Addr × Str)) : Prop where
  K : g.K = K
  w : g.w = w
  lam : g.lam = lam
  cls : g.cls = cls
  tabs : g.tabs = tabs
theorem sql_vis {g : Gh} {H : Hp} {a : Addr} {xs : List V} (hl : g.live = false) (t : LamX.Tabs g.tabs H) (h : SqL g.K H a xs) : SqL g.K (vis g H) a xs := by
  have ne : ∀ u, H a = some u → (∀ ps, u ≠ .tbl ps) → vis g H a = some u := fun u e k => by
    rw [vis_ne]
    · exact e
    · rintro (⟨z, _⟩ | z)
      · rw [hl] at z; cases z
      · obtain ⟨x, hx, rfl⟩ := List.mem_map.mp z
        obtain ⟨ps, e2, _⟩ := t x hx
        rw [e] at e2
        exact k ps (Option.some.inj e2)
  rcases h with (h | ⟨o, h⟩) | h
  · exact .inl (.inl (ne _ h fun _ z => nomatch z))
  · exact .inl (.inr ⟨o, ne _ h fun _ z => nomatch z⟩)
  · exact .inr h
def St0 : Stt := ⟨[(0, Str.ofString "_law_cell"), (1, Str.ofString "_law_numbers"), (2, Str.ofString "_law_pool")], [], false, [], [], []⟩
def lawS : S := .asg (.nm 1) (.call 2 (.cons (.var 0) .nil))
def lawR (N : List Str) : Rho := .un :: .val .pool :: List.replicate (N.length - 2) .un
theorem pss_ex {X : Cx} {ss : List Stmt} {ι : Type} {t : ι → TS} (h : ∀ i, PSs X ss (t i)) : PSs X ss (fun D σ H => ∃ i, t i D σ H) := ⟨fun pins s σ H D I ⟨i, h'⟩ => (h i).run pins s σ H D I h'⟩
theorem law_ok {P : Program} {w : World} {K : PySem.W.Frag} {mg : Str → Option Value} {base : Heap} {a : Addr} {fd : FuncData} {st : Stmt} {N : List Str} {lawB : Ss} {first : Stmt} {rest : List Stmt} {T : List Int → Tab} {St : Stt} {k : Nat} {lam lam0 : Nat → LamT → Prop} {cls cls0 : Nat → Option Addr} {tabs : List (Addr × Str)}
    (F : Fun K "law" "law" st a fd) (sc : FnScope N ["script"] (defScope st)) (hN : 2 ≤ N.length) (hb : defBody st = first :: rest)
    (m1 : mS St0 N (defScope st) lawS first = true) (m2 : mSs St.off N (defScope st) lawB rest = true) (O0 : TabOk P w K mg base (gh0 K w lam0 cls0 tabs) T0 St0)
    (O1 : ∀ g : Gh, g.live = true → GhIs g K w lam cls tabs → TabOk P w K mg base g (T g.rows) St)
    (law : ∀ rows : List Int, 24 ≤ rows.length → rows.length ≤ 144 → wp (xSs (callF (T rows) (k + 2)) lawB (lawR N)) 0 fun o _ => o = .rt (.bool true)) :
    FnOk P w K mg base CX0 (lvl (k + 2) + 1) a fd ["script"] (spLaw K tabs) := by
  refine F.ok sc (fun vs H Q E h => ?_) (fun cdv A outer s H vs Q E hr h => ?_)
  · obtain ⟨a, ns, rfl, _⟩ := h
    rfl
  · obtain ⟨a', ns, rfl, hS, hlen, hT, kk⟩ := h
    let S0 : Sg := sgOf O0 (k + 2) (fns_sound O0 (k + 2)) false (fun _ => []) 0
    let S1 : {g : Gh // g.live = true ∧ GhIs g K w lam cls tabs} → Sg := fun g => sgOf (O1 g.1 g.2.1 g.2.2) (k + 2) (fns_sound (O1 g.1 g.2.1 g.2.2) (k + 2)) false (fun _ => []) 0
    have G : ∀ S : Sg, S.P = P → S.w = w → S.K = K → S.mg = mg → S.base = base → S.k = lvl (k + 2) → S.St.mkr = false → Good S N (defScope st) (defScope st) (cxOf CX0 P w K mg base N "law" (defScope st) a cdv A outer s H E).nox := by
      rintro S rfl rfl rfl rfl rfl h hm
      exact ⟨rfl, rfl, rfl, rfl, rfl, rfl, sc.nd, rfl, fun x hx => ⟨loc_of hx, .inl rfl⟩, sc.kind, rfl, by rw [h]; exact hr, rfl, fun z => by rw [hm] at z; cases z⟩
    rw [hb]
    refine ⟨_, pss_cons (sS S0 N lawS (G S0 rfl rfl rfl rfl rfl rfl rfl) m1) (pss_ex fun g => sSs (S1 g) N lawB (G (S1 g) rfl rfl rfl rfl rfl rfl rfl) m2), ?_⟩
    have p0 : PoolAt (gh0 K w lam0 cls0 tabs) 0 H := ⟨(fun z => nomatch z), hT⟩
    have rep0 : RepAll (gh0 K w lam0 cls0 tabs) (vis (gh0 K w lam0 cls0 tabs) H) [.ref a'] [.scr ns] := .cons (.scr (sql_vis (g := gh0 K w lam0 cls0 tabs) rfl hT hS)) .nil
    have m := mdl_start (N := N) (ds := [.scr ns]) (by show 1 ≤ _; omega) (Same.refl _) p0 rep0
    have e : wp (xS (callF T0 (k + 2)) lawS (rho0 N [.scr ns])) 0 fun o _ => ∃ rows : List Int, o = .nx ((rho0 N [.scr ns]).set 1 (.val (.lst [.lst (rows.map .int), .lst [.int 0]]))) ∧ 24 ≤ rows.length ∧ rows.length ≤ 144 := by
      simp [lawS]
      refine (pool_ok hlen).mono ?_
      rintro _ n' ⟨rows, rfl, h1, h2⟩
      exact ex1_of rfl ⟨rows, rfl, h1, h2⟩
    obtain ⟨o, n', e, rows, rfl, h1, h2⟩ := e
    refine ⟨_, H, _, rho0 N [.scr ns], 0, _, n', e, m, fun F' σ' H' sm m' => ?_⟩
    have hl' := m'.len
    obtain ⟨v, hv', rv⟩ := m'.slot 1 (.val (.lst [.lst (rows.map .int), .lst [.int 0]])) (by
      rw [List.getElem?_set_self]
      simp; omega)
    have sb : Same F' H' := m'.sub.trans vis_same
    cases rv with
    | @lst _ pp vs _ hp r =>
    cases r with
    | cons ra r =>
    cases r with
    | cons rb r =>
    cases r
    cases ra with
    | @lst _ pr vs1 _ hpr r1 =>
    cases rb with
    | @lst _ pc vs2 _ hpc r2 =>
    have e1 := repAll_ints r1
    have e2 := repAll_ints (ns := [0]) r2
    subst e1 e2
    have Hp' := sb _ _ hp
    have Hr := sb _ _ hpr
    have Hc := sb _ _ hpc
    let g : Gh := gh1 K w lam cls tabs pp pr pc rows
    have n1 : pc ≠ pp := by
      intro z; subst z; rw [Hp'] at Hc; cases Hc
    have n2 : pc ≠ pr := by
      intro z; subst z; rw [Hr] at Hc
      have := congrArg (fun o : Option HO => match o with | some (.lst xs) => xs.length | _ => 0) Hc
      simp at this
      omega
    obtain ⟨_, n2', e3, rfl⟩ := law rows h1 h2
    have q : Mdl g (fun _ => none) H' (fun _ => none) (lawR N) 0 σ' H' := by
      have P1 : PoolAt g 0 H' := ⟨fun _ => ⟨Hp', Hr, Hc, n1, n2⟩, m'.pool.tabs⟩
      refine ⟨Grow.refl, P1.p0, fun b o z => (by cases z), P1, ?_, fun i sl z => ?_, fun i j di dj b z => ?_⟩
      · rw [← hl']; simp [lawR]; omega
      · unfold lawR at z
        match i, z with
        | 0, z => cases z; trivial
        | 1, z => cases z; exact ⟨_, hv', .pool⟩
        | i + 2, z =>
          rw [List.getElem?_cons_succ, List.getElem?_cons_succ, List.getElem?_replicate] at z
          split at z <;> cases z
          trivial
      · unfold lawR at z
        match i, z with
        | 0, z => cases z
        | 1, z => cases z
        | i + 2, z =>
          rw [List.getElem?_cons_succ, List.getElem?_cons_succ, List.getElem?_replicate] at z
          split at z <;> cases z
    refine ⟨⟨g, rfl, ⟨rfl, rfl, rfl, rfl, rfl⟩⟩, fun _ => none, H', fun _ => none, lawR N, 0, _, n2', e3, q, fun v F2 H2 _ _ _ r => ?_⟩
    cases r
    exact kk H2
end Ev

set_option Elab.async false
set_option linter.all false
set_option autoImplicit false
set_option maxRecDepth 100000
set_option maxHeartbeats 4000000
/-! Ev15: what a law's top has written, put together. -/
namespace Ev
open PySem PySem.Spec PyProof.Rows L2

/-- a def's object at f, its code value cd -/
def FactQ (K : PySem.W.Frag) (nm qual : Str) (st : Stmt) (f : Addr) (cd : Value) : Prop := ∃ (kV dc pm : Value) (an : Option Addr) (ct : Value), Fun K nm qual st f (PySem.W.fnOf nm qual (defArgs st) (defBody st) (defScope st) .none kV dc pm an cd ct)
theorem factQ {K : PySem.W.Frag} {nm qual : Str} {st : Stmt} {f : Addr} {oc : Value} {od an : Option Addr} {sl : Array (Option Value)} {kV dc pm cd ct : Value}
    (l : K.lookup f = some ⟨oc, od, .func (PySem.W.fnOf nm qual (defArgs st) (defBody st) (defScope st) .none kV dc pm an cd ct), sl⟩) (c : PySem.W.codeIn K cd qual = true) (k : PySem.W.keepIn K (.ref f) = true) : FactQ K nm qual st f cd :=
  ⟨kV, dc, pm, an, ct, fun_mk l c k⟩
def BindQ (nm qual : Str) (st : Stmt) (ps : List Str) : Prop := ∀ (kV doc pm : Value) (an : Option Addr) (cdv ct : Value) (us : List Value), us.length = ps.length → bindArgs (PySem.W.fnOf nm qual (defArgs st) (defBody st) (defScope st) .none kV doc pm an cdv ct) ⟨us, []⟩ = pure (ps.zip us)
/-- a class's statement of a number -/
def clsStmt (st : Stmt) (j : Nat) : Stmt := match st with
  | .ClassDef _ _ _ body _ _ _ _ _ _ _ => body.getD j (.Pass ⟨0, 0, 0, 0⟩)
  | _ => .Pass ⟨0, 0, 0, 0⟩
structure DefIs (St : Stt) (nm qual : Str) (fd : FD) (st : Stmt) : Prop where
  bd : BindQ nm qual st (fd.N.take fd.np)
  sc : FnScope fd.N (fd.N.take fd.np) (defScope st)
  np : fd.np ≤ fd.N.length
  ms : fd.mkr = false ∧ mSs St.off fd.N (defScope st) fd.body (defBody st) = true ∨ fd.mkr = true ∧ mSs St.on fd.N (defScope st) fd.body (defBody st) = true ∨ fd.mkr = true ∧ mSsR St.on fd.N (defScope st) fd.body (defBody st) = true
/-- a maker's code object and table -/
structure MkrAt (base : Heap) (mg : Str → Option Value) (tabs : List (Addr × Str)) (qual : Str) (cd : Value) : Prop where
  ex : ∃ c T : Addr, cd = .ref c ∧ LamX.TabB base mg c T ∧ (T, (qual ++ ".<locals>.") ++ "<lambda>") ∈ tabs ∧ ∀ p ∈ tabs, p.1 = T → p.2 = (qual ++ ".<locals>.") ++ "<lambda>"
theorem tabs_one : ∀ {tabs : List (Addr × Str)} {T : Addr} {q : Str}, (tabs.map (·.1)).Nodup → (T, q) ∈ tabs → ∀ p ∈ tabs, p.1 = T → p.2 = q
  | (T', q') :: r, T, q, nd, h, p, hp, e => by
    rw [List.map_cons, List.nodup_cons] at nd
    rcases List.mem_cons.mp h with h | h
    · cases h
      rcases List.mem_cons.mp hp with rfl | hp
      · rfl
      · exact absurd (List.mem_map.mpr ⟨p, hp, e⟩) nd.1
    · rcases List.mem_cons.mp hp with rfl | hp
      · exact absurd (List.mem_map.mpr ⟨_, h, e.symm⟩) nd.1
      · exact tabs_one nd.2 h p hp e
section
variable {P : Program} {w : World} {K : PySem.W.Frag} {mg : Str → Option Value} {base h : Heap} {g : Gh} {T : Tab} {St : Stt} {fd : FD} {st : Stmt} {nm qual x : Str} {cd : Value} {a f A : Addr} {j c : Nat}
theorem fv_def (t : T.lookup j = some (.defn fd)) (D : DefIs St nm qual fd st) (F : FactQ K nm qual st a cd) (hm : fd.mkr = true → MkrAt base mg g.tabs qual cd) : FnVal P w K mg base g T St a j := by
  obtain ⟨kV, dc, pm, an, ct, F⟩ := F
  refine .inl ⟨fd, t, ⟨_, nm, qual, st, F, F.binds D.bd, D.sc, D.np, ?_⟩⟩
  rcases D.ms with ⟨h1, h2⟩ | ⟨h1, h2⟩ | ⟨h1, h2⟩
  · rw [if_neg (by rw [h1]; simp)]
    exact h2
  · rw [if_pos h1]
    exact ⟨.inl h2, (hm h1).ex⟩
  · rw [if_pos h1]
    exact ⟨.inr h2, (hm h1).ex⟩
theorem fv_init (t : T.lookup j = some (.init fd c)) (D : DefIs St nm qual fd st) (F : FactQ K nm qual st f cd) (mk : L2.Mk K A f) (hc : g.cls c = some A) (hp : 1 ≤ fd.np) (hr : mSsR St.on fd.N (defScope st) fd.body (defBody st) = false) (hm : fd.mkr = true → MkrAt base mg g.tabs qual cd) : FnVal P w K mg base g T St A j := by
  obtain ⟨kV, dc, pm, an, ct, F⟩ := F
  refine .inr (.inr (.inl ⟨fd, c, t, ⟨f, mk, hc, hp, _, nm, qual, st, F, F.binds D.bd, D.sc, D.np, ?_⟩⟩))
  rcases D.ms with ⟨h1, h2⟩ | ⟨h1, h2⟩ | ⟨h1, h2⟩
  · rw [if_neg (by rw [h1]; simp)]
    exact h2
  · rw [if_pos h1]
    exact ⟨h2, (hm h1).ex⟩
  · rw [hr] at h2
    cases h2
theorem fv_fail (t : T.lookup j = some (.prim fun _ => M.fail)) : FnVal P w K mg base g T St a j :=
  .inr (.inl ⟨_, t, fun A outer s H F us vs ds n d n' Q E _ _ _ _ _ _ z _ => nomatch z⟩)
theorem fv_draw (hl : g.live = true) (t : T.lookup j = some (.prim (drawC g.rows))) (hs : defScope st = drawScope) (hb : DrawBody (defBody st)) (bd : BindQ "_law_draw" "_law_draw" st ["pool", "many"]) (bi : ∀ x ∈ biNames, mg x = none) (F : FactQ K "_law_draw" "_law_draw" st a cd) : FnVal P w K mg base g T St a j := by
  obtain ⟨kV, dc, pm, an, ct, F⟩ := F
  exact .inr (.inl ⟨_, t, callOk_fn (draw_ok hl F hs hb (bi "len" (by decide +kernel)) (bi "int" (by decide +kernel))) (F.binds bd)⟩)
theorem fi_mk (X : K.In h) (G : h.Ns mainGlobals mg) (e : PySem.W.nsIn K mainGlobals x = some (some (.ref a))) (k : PySem.W.keepIn K (.ref a) = true) (v : FnVal P w K mg base g T St a j) : FnIs P w K mg base g T St j x :=
  ⟨a, PySem.W.mg_of X G e, k, v⟩
theorem FactQ.kp (F : FactQ K nm qual st a cd) : PySem.W.keepIn K (.ref a) = true := by
  obtain ⟨kV, dc, pm, an, ct, F⟩ := F
  exact F.kp
end
def AllP (Φ : Nat → Str → Prop) : List (Nat × Str) → Prop
  | [] => True
  | (f, x) :: r => Φ f x ∧ AllP Φ r
theorem AllP.get {Φ : Nat → Str → Prop} : ∀ {l : List (Nat × Str)} {f : Nat} {x : Str}, AllP Φ l → l.lookup f = some x → Φ f x
  | (f', x') :: r, f, x, h, e => by
    by_cases q : f = f'
    · subst q
      simp at e
      subst e
      exact h.1
    · have q' : (f == f') = false := by simpa using q
      rw [List.lookup_cons, q'] at e
      exact AllP.get h.2 e
def ConstIs (K : PySem.W.Frag) (p : Str × D) : Prop := ∃ v u, PySem.W.nsIn K mainGlobals p.1 = some (some u) ∧ RelV v u ∧ ∀ (g : Gh) (F : Hp), g.K = K → Rep g F v p.2
theorem const_int {K : PySem.W.Frag} {x : Str} {i : Int} {t : Tok} (e : PySem.W.nsIn K mainGlobals x = some (some (.int i t))) : ConstIs K (x, .int i) := ⟨.int i, _, e, ⟨t, rfl⟩, fun _ _ _ => .int i⟩
theorem const_str {K : PySem.W.Frag} {x y : Str} {t : Tok} (e : PySem.W.nsIn K mainGlobals x = some (some (.str y t))) : ConstIs K (x, .str y) := ⟨.str y, _, e, ⟨t, rfl⟩, fun _ _ _ => .str y⟩
def intVal : Value → Option Int
  | .int i _ => some i
  | _ => none
theorem vals_ints {K : PySem.W.Frag} : ∀ {its : List Value} {is : List Int}, its.map intVal = is.map some → Vals (is.map V.int) its
  | [], [], _ => .nil
  | [], _ :: _, h => by simp at h
  | _ :: _, [], h => by simp at h
  | x :: its, i :: is, h => by
    simp only [List.map_cons, List.cons.injEq] at h
    refine .cons ?_ (vals_ints (K := K) h.2)
    obtain ⟨h1, _⟩ := h
    cases x with
    | int j t =>
      have e : j = i := Option.some.inj h1
      subst e
      exact ⟨t, rfl⟩
    | _ => cases h1
/-- a module's tuple of ints -/
theorem const_tup {K : PySem.W.Frag} {x : Str} {is : List Int} {a : Addr} {od : Option Addr} {its : Array Value} {n : Nat} {sl : Array (Option Value)} (e : PySem.W.nsIn K mainGlobals x = some (some (.ref a))) (l : K.lookup a = some ⟨.type "tuple", od, .seq its n, sl⟩)
    (h : its.toList.map intVal = is.map some) (hl : is.length ≤ 1000) : ConstIs K (x, .tup (is.map .int)) := by
  have hv := vals_ints (K := K) h
  have hlen := hv.length
  simp at hlen
  refine ⟨.ref a, _, e, rfl, fun g F hK => ?_⟩
  refine .tup (vs := is.map V.int) (.inr ⟨_, its, n, by rw [hK]; exact l, rfl, rfl, by rw [sizeLine_eq]; omega, hv⟩) ?_
  clear h hl hv hlen l e
  induction is with
  | nil => exact .nil
  | cons i is ih => exact .cons (.int i) ih
def AllC (Φ : Str × D → Prop) : List (Str × D) → Prop
  | [] => True
  | p :: r => Φ p ∧ AllC Φ r
theorem AllC.get {Φ : Str × D → Prop} : ∀ {l : List (Str × D)} {p : Str × D}, AllC Φ l → p ∈ l → Φ p
  | q :: r, p, h, e => by
    rcases List.mem_cons.mp e with rfl | e
    · exact h.1
    · exact AllC.get h.2 e
def AllS (Φ : Str → Prop) : List Str → Prop
  | [] => True
  | p :: r => Φ p ∧ AllS Φ r
theorem AllS.get {Φ : Str → Prop} : ∀ {l : List Str} {p : Str}, AllS Φ l → p ∈ l → Φ p
  | q :: r, p, h, e => by
    rcases List.mem_cons.mp e with rfl | e
    · exact h.1
    · exact AllS.get h.2 e
section
variable {P : Program} {w : World} {K : PySem.W.Frag} {mg : Str → Option Value} {base h : Heap} {T : Tab} {St : Stt}
def AllL (Φ : Nat → LD → Prop) : List (Nat × LD) → Prop
  | [] => True
  | (f, x) :: r => Φ f x ∧ AllL Φ r
theorem AllL.get {Φ : Nat → LD → Prop} : ∀ {l : List (Nat × LD)} {f : Nat} {x : LD}, AllL Φ l → l.lookup f = some x → Φ f x
  | (f', x') :: r, f, x, h, e => by
    by_cases q : f = f'
    · subst q
      simp at e
      subst e
      exact h.1
    · have q' : (f == f') = false := by simpa using q
      rw [List.lookup_cons, q'] at e
      exact AllL.get h.2 e
def AllF (Φ : Str → List Nat → Prop) : List (Str × List Nat) → Prop
  | [] => True
  | p :: r => Φ p.1 p.2 ∧ AllF Φ r
theorem AllF.get {Φ : Str → List Nat → Prop} : ∀ {l : List (Str × List Nat)} {x : Str} {cs : List Nat}, AllF Φ l → (x, cs) ∈ l → Φ x cs
  | q :: r, x, cs, h, e => by
    rcases List.mem_cons.mp e with rfl | e
    · exact h.1
    · exact AllF.get h.2 e
def AllM (Φ : Str → Nat → Nat → Prop) : List (Str × List (Nat × Nat)) → Prop
  | [] => True
  | p :: r => (∀ c j, p.2.lookup c = some j → Φ p.1 c j) ∧ AllM Φ r
theorem AllM.get {Φ : Str → Nat → Nat → Prop} : ∀ {l : List (Str × List (Nat × Nat))} {x : Str} {tb : List (Nat × Nat)}, AllM Φ l → (x, tb) ∈ l → ∀ c j, tb.lookup c = some j → Φ x c j
  | q :: r, x, tb, h, e => by
    rcases List.mem_cons.mp e with rfl | e
    · exact h.1
    · exact AllM.get h.2 e
theorem tb_nil {Φ : Nat → Nat → Prop} : ∀ c j, ([] : List (Nat × Nat)).lookup c = some j → Φ c j := fun _ _ h => nomatch h
theorem tb_cons {Φ : Nat → Nat → Prop} {c0 j0 : Nat} {r : List (Nat × Nat)} (h : Φ c0 j0) (t : ∀ c j, r.lookup c = some j → Φ c j) : ∀ c j, ((c0, j0) :: r).lookup c = some j → Φ c j := fun c j e => by
  by_cases q : c = c0
  · subst q
    simp at e
    subst e
    exact h
  · have q' : (c == c0) = false := by simpa using q
    rw [List.lookup_cons, q'] at e
    exact t c j e
theorem fld_nil {g : Gh} {x : Str} : FldOk K g x [] := fun _ z => nomatch z
theorem fld_cons {g : Gh} {x : Str} {c : Nat} {cs : List Nat} {A : Addr} (hc : g.cls c = some A) (h1 : Cls K A) (h2 : PySem.W.findIn K (.ref A) x = some none) (t : FldOk K g x cs) : FldOk K g x (c :: cs) := fun c' hc' C h => by
  rcases List.mem_cons.mp hc' with rfl | hc'
  · rw [hc] at h
    cases h
    exact ⟨h1, h2⟩
  · exact t c' hc' C h
theorem mth_mk {g : Gh} {x : Str} {c j : Nat} {A f : Addr} (hc : g.cls c = some A) (h1 : Cls K A) (h2 : Meth K A x f) (v : FnVal P w K mg base g T St f j) : ∀ A', g.cls c = some A' → ∃ f, Cls K A' ∧ Meth K A' x f ∧ FnVal P w K mg base g T St f j := fun A' h => by
  rw [hc] at h
  cases h
  exact ⟨f, h1, h2, v⟩
theorem tab_mk {g : Gh} (X : K.In h) (G : h.Ns mainGlobals mg) (hK : g.K = K) (hw : g.w = w) (bi : AllS (fun x => PySem.W.nsIn K mainGlobals x = some none) biNames) (cn : AllC (ConstIs K) St.cns) (fn : AllP (FnIs P w K mg base g T St) St.fns) (lamE : g.lam = LamP St.off)
    (lam : AllL (fun j ld => ∃ nm m, T.lookup j = some (.defn ⟨nm, (ld.N.take ld.nc).length + ld.ps.length, ld.N, .cons (.ret ld.e) .nil, m⟩)) St.lams) (fld : AllF (FldOk K g) St.flds)
    (mth : AllM (fun x c j => ∀ A, g.cls c = some A → ∃ f, Cls K A ∧ Meth K A x f ∧ FnVal P w K mg base g T St f j) St.mths) : TabOk P w K mg base g T St :=
  ⟨hK, hw, fun x hx => PySem.W.mg_none_of X G (bi.get hx), fun x d hm => by
    obtain ⟨v, u, e, r, k⟩ := cn.get hm
    exact ⟨v, u, PySem.W.mg_of X G e, r, fun F => k g F hK⟩, fun f x e => fn.get e, lamE, fun j ld e => lam.get e, fun x cs e => fld.get e, fun x tb e => mth.get e⟩
end
/-- the tables of code objects, empty at the start -/
def spTabs (tabs : List (Addr × Str)) (H : Hp) : Prop := ∀ p ∈ tabs, H p.1 = some (.tbl #[])
theorem tabs_of {tabs : List (Addr × Str)} {H : Hp} (h : spTabs tabs H) : LamX.Tabs tabs H := fun p hp => LamX.TabS.nil (h p hp)
/-- a maker: its code object, its table, the name of what it makes -/
abbrev Maker := Addr × Addr × Str
theorem walk {l : PySem.W.OpenLaw} {q : Program} {loose : List Str} {XP : (Str → Option Value) → Heap → Prop} {YP : World → Heap → Prop} {d : DefRec} {K : Params → PySem.W.Frag} {k : Nat} {ts : List Addr} (hn : l.most = some 63) (hdf : d.params.defaults = []) (hr : Room k callerA)
    (hY : ∀ (w : World) (h : Heap), YP w h → (K w.params).In h ∧ ∀ P ∈ ts, h.get? P = some { cls := .none, data := .fields #[] })
    (F : ∀ (w : World) (mg : Str → Option Value) (fa : Addr) (h : Heap), (K w.params).In h → h.Ns mainGlobals mg → mg d.name = some (.ref fa) →
      ∃ (fd : FuncData) (ms : List Maker), (∀ m ∈ ms, m.2.1 ∈ ts) ∧ (∀ m ∈ ms, (K w.params).lookup m.2.1 = none) ∧ (∀ m ∈ ms, PySem.W.codeHdIn (K w.params) m.1 m.2.1 = true) ∧ (∀ (s : Shared) (u : Value), BindsTo s fd ⟨[u], []⟩ [("script", u)]) ∧
        ∀ base : Heap, (K w.params).In base → base.Ns mainGlobals mg → (∀ m ∈ ms, LamX.TabB base mg m.1 m.2.1) → FnOk l.prog w (K w.params) mg base CX0 k fa fd ["script"] (spLaw (K w.params) (ms.map (·.2)))) :
    PySem.W.WalkO q loose XP YP l.row.toRowW d [] (fun f vs => PySem.call f vs) := by
  refine LamX.walk_ofTs (n := 63) (k := k) (x := "script") (CX := fun _ => CX0) (K := K) hn (by decide) hdf hr (fun w h Y => (hY w h Y).1) (fun w mg fa h Y KX G hmg => ?_) fun _ _ _ _ _ z => z
  obtain ⟨fd, ms, h1, h2, h3, hb, hF⟩ := F w mg fa h KX G hmg
  refine ⟨fd, ms.map fun m => (m.1, m.2.1), spLaw (K w.params) (ms.map (·.2)), ?_, ?_, ?_, hb, ?_, ?_⟩
  · intro p hp
    obtain ⟨m, hm, rfl⟩ := List.mem_map.mp hp
    exact (hY w h Y).2 _ (h1 m hm)
  · intro p hp
    obtain ⟨m, hm, rfl⟩ := List.mem_map.mp hp
    exact h2 m hm
  · intro p hp
    obtain ⟨m, hm, rfl⟩ := List.mem_map.mp hp
    exact PySem.W.codeHd_of_K KX (h3 m hm)
  · intro H a ns hl _ hT hS
    refine ⟨a, ns, rfl, hS, hl, tabs_of (fun p hp => ?_), fun _ => rfl⟩
    obtain ⟨m, hm, rfl⟩ := List.mem_map.mp hp
    exact hT (m.1, m.2.1) (List.mem_map.mpr ⟨m, hm, rfl⟩)
  · intro base hK hG hT
    exact hF base hK hG fun m hm => hT (m.1, m.2.1) (List.mem_map.mpr ⟨m, hm, rfl⟩)
theorem room_230 : Room 230 callerA := ⟨rfl, by decide, by decide⟩
theorem room_227 : Room 227 callerA := room_230.mono (by decide)
end Ev

set_option Elab.async false
set_option linter.all false
set_option autoImplicit false
set_option maxRecDepth 100000
set_option maxHeartbeats 4000000
/-! EvR: the class Roads. -/
namespace Ev
open PySem PySem.Spec PyProof.Rows L2

/-! ### by data -/
def nsRoads : List Str := [Str.ofString "_before", Str.ofString "nodes"]
/-- the steps from a node: what is new is put down -/
def rdStep (node : D) : List D → List D × List D × List D → Option (List D × List D × List D)
  | [], s => some s
  | .tup [lb, ot] :: r, (ks, vs, ns) => if kindOk ks ot = true then
      (if (didx ks ot).isSome = true then rdStep node r (ks, vs, ns)
       else if ks.length < 16777216 ∧ ns.length < 16777216 then rdStep node r (ks ++ [ot], vs ++ [.tup [node, lb]], ns ++ [ot]) else none) else none
  | _ :: _, _ => none
def rdGo (f : D → M D) : Nat → Nat → List D × List D × List D → M (List D × List D × List D)
  | 0, _, _ => M.fail
  | k + 1, i, s => match s.2.2[i]? with
    | none => pure s
    | some node => do
      let r ← f node
      let items ← M.opt (itemsD r)
      let s' ← M.opt (rdStep node items s)
      rdGo f k (i + 1) s'
def roadsC (C : Nat → List D → M D) : List D → M D := fun ds => match ds with
  | [st0, .clo j caps] => if kindOk [] st0 = true then (do
      let s ← rdGo (fun nd => if noClo nd = true then C j (caps ++ [nd]) else M.fail) WFUEL 0 ([st0], [.none], [st0])
      pure (.obj 1 nsRoads [.dict s.1 s.2.1, .lst s.2.2])) else M.fail
  | _ => M.fail

/-! ### the text -/
def roadsScope : Scope := { kind := .function, names := [("self", .local), ("start", .local), ("steps", .local), ("at", .local), ("node", .local), ("label", .local), ("other", .local), ("len", .globalImplicit)], isGenerator := false, isCoroutine := false, more := [] }
def roadsN : List Str := ["self", "start", "steps", "at", "node", "label", "other", "#before", "#nodes"]
theorem roadsFS : FnScope roadsN ["self", "start", "steps"] roadsScope := ⟨rfl, rfl, rfl, by decide +kernel, rfl, by decide +kernel, by decide +kernel⟩
inductive RoadsBody : List Stmt → Prop
  | mk (p1 p2 p3 p4 p5 p6 p7 p8 p9 p10 p11 p12 p13 p14 p15 p16 p17 p18 p19 p20 p21 p22 p23 p24 p25 p26 p27 p28 p29 p30 p31 p32 p33 p34 p35 p36 p37 p38 p39 p40 p41 p42 p43 p44 p45 p46 p47 p48 p49 p50 p51 p52 p53 p54 p55 p56 : Pos) (h : (p47.endLine == p49.line) = true) : RoadsBody [ (.Assign (targets := [(.Attribute (.Name "self" p1) "_before" p2)]) (value := (.Dict (keys := [(some (.Name "start" p3))]) (values := [(.Constant .none 0 p4)]) p5)) p6), (.Assign (targets := [(.Attribute (.Name "self" p7) "nodes" p8)]) (value := (.List [(.Name "start" p9)] p10)) p11), (.Assign (targets := [(.Name "at" p12)]) (value := (.Constant (.int 0) 0 p13)) p14), (.While (test := (.Compare (left := (.Name "at" p15)) (ops := [.Lt]) (comparators := [ (.Call (func := (.Name "len" p16)) (args := [(.Attribute (.Name "self" p17) "nodes" p18)]) (keywords := []) p19)]) p20)) (body := [ (.Assign (targets := [(.Name "node" p21)]) (value := (.Subscript (value := (.Attribute (.Name "self" p22) "nodes" p23)) (slice := (.Name "at" p24)) p25)) p26), (.For (target := (.Tuple (elts := [(.Name "label" p27), (.Name "other" p28)]) (k := 0) p29)) (iter := (.Call (func := (.Name "steps" p30)) (args := [(.Name "node" p31)]) (keywords := []) p32)) (body := [ (.If (test := (.Compare (left := (.Name "other" p33)) (ops := [.NotIn]) (comparators := [(.Attribute (.Name "self" p34) "_before" p35)]) p36)) (body := [ (.Assign (targets := [ (.Subscript (value := (.Attribute (.Name "self" p37) "_before" p38)) (slice := (.Name "other" p39)) p40)]) (value := (.Tuple (elts := [(.Name "node" p41), (.Name "label" p42)]) (k := 0) p43)) p44), (.Expr (value := (.Call (func := (.Attribute (value := (.Attribute (.Name "self" p45) "nodes" p46)) (attr := "append") p47)) (args := [(.Name "other" p48)]) (keywords := []) p49)) p50)]) (orelse := []) p51)]) (orelse := []) p52), (.AugAssign (target := (.Name "at" p53)) (op := .Add) (value := (.Constant (.int 1) 0 p54)) p55)]) (orelse := []) p56)]

/-! ### rules -/
section
variable {X : Cx} {g : Gh}
def rPutD (g : Gh) : TSet := fun o i v H Q => ∃ (F : Hp) (a : Addr) (u : HO) (ks vs : List D) (k d : D), o = .ref a ∧ H a = some u ∧ DCon g F a ks vs u ∧ Same F H ∧ Rep g F i k ∧ kindOk ks k = true ∧ Rep g F v d ∧ ks.length < sizeLine ∧
  ∀ u', DCon g F a (dkeys ks k) (dvals ks vs k d) u' → Q (upd H a u')
theorem set_dictD (hu : X.A.units + 9 < cLine) (hK : X.K = g.K) (hw : g.w = X.w) : PSet X (rPutD g) := by
  intro pins s σ H o i v ov iv u Q I ro ri rv ⟨F, a, w, ks, vs, k, d, e1, e2, e3, e4, e5, e6, e7, e8, q⟩
  subst e1
  obtain rfl : ov = Value.ref a := ro
  exact dx_put true hu I hK hw e4 e2 e3 e5 e6 ri e7 rv e8 fun s1 u' I1 c => ⟨_, I1, q u' c⟩
/-- a slot without a name -/
theorem inv_ghost {pins : List (Addr × Obj)} {σ : L2.St} {H : Hp} {s : Shared} (I : Inv X pins σ H s) (i : Nat) (v : V) (h : ∀ x, X.N[i]? = some x → ¬ Vis X.env.scope x) : Inv X pins (σ.set i (some v)) H s := by
  refine ⟨I.ok, I.os, I.bare, I.base, ?_, I.cell, I.free, I.freeC, I.pin, I.hok, by rw [List.length_set]; exact I.len⟩
  obtain ⟨m, hn, hl⟩ := I.loc
  refine ⟨m, hn, fun j x w e1 e2 e3 => ?_⟩
  by_cases hj : i = j
  · subst hj
    exact absurd e3 (h x e1)
  · rw [List.getElem?_set_ne hj] at e2
    exact hl j x w e1 e2 e3
theorem pss_ghost {st : List Stmt} {t : TS} (i : Nat) (hi : ∀ x, X.N[i]? = some x → ¬ Vis X.env.scope x) (h : PSs X st t) : PSs X st (fun D σ H => ∃ v, t D (σ.set i (some v)) H) :=
  ⟨fun pins s σ H D I ⟨v, q⟩ => h.run pins s _ H D (inv_ghost I i v hi) q⟩
end
/-- a def, its end told of the very state -/
theorem fn_any {P : Program} {w : World} {K : PySem.W.Frag} {mg : Str → Option Value} {base : Heap} {k : Nat} {f : Addr} {nm qual : Str} {prm : Arguments} {bd : List Stmt} {sc : Scope} {dV kV doc pm cdv ct oc : Value} {an od : Option Addr} {osl : Array (Option Value)} {N ps : List Str} {sp : Sp}
    (look : K.lookup f = some ⟨oc, od, .func (PySem.W.fnOf nm qual prm bd sc dV kV doc pm an cdv ct), osl⟩) (code : PySem.W.codeIn K cdv qual = true) (S : FnScope N ps sc) (len : ∀ vs H Q E, sp vs H Q E → vs.length = ps.length)
    (run : ∀ (A : Around) (outer : List Env) (s : Shared) (H : Hp) (vs : List V) (Q : VK) (E : XK), Room k (A.deeper (envOfC qual sc s.heap.objs.size f cdv)) → sp vs H Q E →
      ∃ t, PSs (cxOf CX0 P w K mg base N qual sc f cdv A outer s H E).nox bd t ∧ ∃ Z : L2.St → Hp → Prop, t { nx := Z, rt := fun _ _ => False } (L2.start N vs) H ∧
        ∀ σ H1 s1, Inv (cxOf CX0 P w K mg base N qual sc f cdv A outer s H E).nox [] σ H1 s1 → Z σ H1 → ∃ H2, Inv (cxOf CX0 P w K mg base N qual sc f cdv A outer s H E).nox [] σ H2 s1 ∧ Q .non H2) :
    FnOk P w K mg base CX0 (k + 1) f (PySem.W.fnOf nm qual prm bd sc dV kV doc pm an cdv ct) ps sp := by
  refine ⟨len, fun A outer s H args us vs Q E room e0 bind rel want => ?_⟩
  have nl := len _ _ _ _ want
  have inK := Env0.kin e0
  have nolim : s.heap.NoLimit := e0.mod.nolimit.keeps fun b o e => (e0.bs b o e).1
  have kinds : ∀ y ∈ ps.zip us, sc.names.lookup y.1 = some .local ∨ (sc.names.lookup y.1 = some .cell ∧ ((cellsFrom (s.heap.objs.size + 1) sc.names []).lookup y.1).isSome = true) := fun y hy =>
    (S.par y.1 (List.of_mem_zip hy).1).imp id fun z => ⟨z, PySem.W.cellsFrom_some _ _ _ (.inl z)⟩
  refine codeAny_call_function room.depth (inK _ _ look) rfl S.co S.gen rfl (PySem.W.codeRec_of inK code) (bind _ _ _ _ ?_)
  refine wpAny_newFunctionEnv_cells S.kind kinds fun env he s1 x => ?_
  subst he
  refine ⟨nolim.keeps x.toInCall.keep, codeAny_func ?_⟩
  have J : Inv (cxOf CX0 P w K mg base N qual sc f cdv A outer s H E) [] (L2.start N vs) H s1 := inv_start S room.hd e0 nl rel x
  obtain ⟨t, hp, Z, ht, fin⟩ := run A outer s H vs Q E (room.deeper _) want
  refine wpAny_mono (hp.run [] s1 _ H _ (J.wish _) ht) (fun fl s' q => ?_) fun _ _ z => z.elim
  cases fl with
  | next =>
    obtain ⟨σ', H', J', z⟩ := q
    obtain ⟨H2, J2, q2⟩ := fin σ' H' s' J' z
    exact ⟨.non, H2, J2.os, J2.bare, J2.base, J2.hok, rfl, q2⟩
  | ret u =>
    obtain ⟨_, _, _, _, _, z⟩ := q
    exact z.elim
  | brk =>
    obtain ⟨_, _, _, z⟩ := q
    exact z.elim
  | cont =>
    obtain ⟨_, _, _, z⟩ := q
    exact z.elim
end Ev

set_option Elab.async false
set_option linter.all false
set_option autoImplicit false
set_option maxRecDepth 100000
set_option maxHeartbeats 4000000
/-! EvR2: the class Roads is made. -/
namespace Ev
open PySem PySem.Spec PyProof.Rows L2

/-- within __init__: its list and its dict stand open -/
structure RInv (g : Gh) (Fs B : Hp) (x A dx b l : Addr) (d1 d2 : D) (s3 s4 s5 s6 : Sl) (ks vs ns : List D) (n : Nat) (F : Hp) (σ : L2.St) (H : Hp) : Prop where
  m : Mdl g Fs B F [.un, .val d1, .val d2, s3, s4, s5, s6, .own (.dict ks vs), .own (.lst ns)] n σ H
  s0 : σ[0]? = some (some (.ref x))
  s7 : σ[7]? = some (some (.ref b))
  s8 : σ[8]? = some (some (.ref l))
  fx : F x = some (.ins A dx [(Str.ofString "_before", .ref b), (Str.ofString "nodes", .ref l)])
section
variable {g : Gh} {Fs B : Hp} {x A dx b l : Addr} {d1 d2 : D} {s3 s4 s5 s6 : Sl} {ks vs ns : List D} {n n' : Nat} {F F' : Hp} {σ : L2.St} {H H' : Hp}
theorem RInv.hx (r : RInv g Fs B x A dx b l d1 d2 s3 s4 s5 s6 ks vs ns n F σ H) : H x = some (.ins A dx [(Str.ofString "_before", .ref b), (Str.ofString "nodes", .ref l)]) := (vis_some (r.m.sub _ _ r.fx)).2
theorem RInv.lst (r : RInv g Fs B x A dx b l d1 d2 s3 s4 s5 s6 ks vs ns n F σ H) : ∃ ws, H l = some (.lst ws) ∧ RepAll g F ws ns ∧ F l = none ∧ B l = none := by
  obtain ⟨a, ws, e, h, rr, f, z⟩ := rdP_name r.m (i := 8) rfl
  rw [r.s8] at e
  cases e
  exact ⟨ws, h, rr, f, z⟩
theorem RInv.dict (r : RInv g Fs B x A dx b l d1 d2 s3 s4 s5 s6 ks vs ns n F σ H) : ∃ u, H b = some u ∧ DCon g F b ks vs u ∧ F b = none ∧ B b = none := by
  obtain ⟨a, u, e, h, c, f, z⟩ := rdP_dict r.m (i := 7) rfl
  rw [r.s7] at e
  cases e
  exact ⟨u, h, c, f, z⟩
theorem RInv.grow (r : RInv g Fs B x A dx b l d1 d2 s3 s4 s5 s6 ks vs ns n F σ H) (gr : Grow g F H F' H') (s : Same F' (vis g H')) (P : PoolAt g n' H') : RInv g Fs B x A dx b l d1 d2 s3 s4 s5 s6 ks vs ns n' F' σ H' :=
  ⟨r.m.grow gr s P, r.s0, r.s7, r.s8, gr.f _ _ r.fx⟩
end
theorem butAt_get {vs : List Nat} {σ σ' : L2.St} (h : ButAt vs σ σ') {i : Nat} (hi : i ∉ vs) : σ'[i]? = σ[i]? := by
  have e : (L2.wipe σ' vs)[i]? = (L2.wipe σ vs)[i]? := by rw [h vs fun _ z => z]
  rw [wipe_get hi, wipe_get hi] at e
  exact e
theorem drop_at {α : Type} {xs : List α} {i : Nat} {a : α} (h : xs[i]? = some a) : xs.drop i = a :: xs.drop (i + 1) := by
  obtain ⟨hi, e⟩ := List.getElem?_eq_some_iff.mp h
  rw [List.drop_eq_getElem_cons hi, e]
theorem roads_nb : ¬ Vis roadsScope (Str.ofString "#before") := by unfold Vis; decide +kernel
theorem roads_nn : ¬ Vis roadsScope (Str.ofString "#nodes") := by unfold Vis; decide +kernel
theorem roads_put {a b : V} : putF "nodes" b [("_before", a)] = [(Str.ofString "_before", a), (Str.ofString "nodes", b)] := by
  unfold putF
  rw [if_neg (by decide +kernel)]
  rfl
theorem roads_at1 {a b : V} : ([(Str.ofString "_before", a), (Str.ofString "nodes", b)] : List (Str × V)).lookup (Str.ofString "_before") = some a := by
  rw [List.lookup_cons, show ((Str.ofString "_before") == (Str.ofString "_before")) = true from by decide +kernel]
theorem roads_at2 {a b : V} : ([(Str.ofString "_before", a), (Str.ofString "nodes", b)] : List (Str × V)).lookup (Str.ofString "nodes") = some b := by
  rw [List.lookup_cons, show ((Str.ofString "nodes") == (Str.ofString "_before")) = false from by decide +kernel]
  simp only
  rw [List.lookup_cons, show ((Str.ofString "nodes") == (Str.ofString "nodes")) = true from by decide +kernel]
section
variable {g : Gh} {F0 H0 F H : Hp} {ρ : Rho} {n : Nat} {σ : L2.St}
/-- an object apart is written -/
theorem Mdl.side2 {a : Addr} {o w : HO} (m : Mdl g F0 H0 F ρ n σ H) (h0 : H0 a = Option.none) (hf : F a = Option.none) (hw : H a = some w) (hc : ∀ c q, w ≠ LamX.CodeO c q) (no : ∀ (j : Nat) (d : D), ρ[j]? ≠ some (.own d) ∧ ρ[j]? ≠ some (.slf d)) : Mdl g F0 H0 F ρ n σ (upd H a o) := by
  have ne := H0_ne m.p0 h0
  refine ⟨m.gr.updN h0 ne.nh, m.p0, sub_updN m.sub hf ne.nh, m.pool.updN ne hw hc, m.len, fun j sl e => ?_, m.dis⟩
  have q := m.slot j sl e
  cases sl with
  | un => trivial
  | val d => exact q
  | own d => exact absurd e (no j d).1
  | lam k => exact q
  | slf d => exact absurd e (no j d).2
/-- what stands open gets a slot -/
theorem Mdl.putOwn {i : Nat} {a : Addr} {d : D} (m : Mdl g F0 H0 F ρ n σ H) (o : Own g F H a d) (hf : F a = Option.none) (h0 : H0 a = Option.none) (ap : ∀ (j : Nat) (dj : D) (b : Addr), ρ[j]? = some (.own dj) → σ[j]? = some (some (.ref b)) → b ≠ a) :
    Mdl g F0 H0 F (ρ.set i (.own d)) n (σ.set i (some (.ref a))) H := by
  have back : ∀ (k : Nat) (dk : D), (ρ.set i (.own d))[k]? = some (.own dk) → k = i ∨ (i ≠ k ∧ ρ[k]? = some (.own dk)) := fun k dk q => by
    by_cases hk : i = k
    · exact .inl hk.symm
    · rw [List.getElem?_set_ne hk] at q
      exact .inr ⟨hk, q⟩
  refine ⟨m.gr, m.p0, m.sub, m.pool, by simp [m.len], fun k sl e => ?_, fun k1 k2 x1 x2 b e1 e2 e3 e4 => ?_⟩
  · rw [List.getElem?_set] at e
    by_cases hk : i = k
    · subst hk
      rw [if_pos rfl] at e
      split at e
      · rename_i hl
        cases e
        rw [List.getElem?_set_self (by rw [← m.len]; exact hl)]
        exact ⟨a, rfl, o, hf, h0⟩
      · cases e
    · rw [if_neg hk] at e
      rw [List.getElem?_set_ne hk]
      exact m.slot k sl e
  · have at_i : ∀ b, (σ.set i (some (.ref a)))[i]? = some (some (V.ref b)) → b = a := fun b e => by
      rw [List.getElem?_set] at e
      simp at e
      exact e.2.symm
    rcases back k1 x1 e1 with q1 | ⟨n1, q1⟩ <;> rcases back k2 x2 e2 with q2 | ⟨n2, q2⟩
    · rw [q1, q2]
    · subst q1
      rw [List.getElem?_set_ne n2] at e4
      exact absurd (at_i b e3) (ap k2 x2 b q2 e4)
    · subst q2
      rw [List.getElem?_set_ne n1] at e3
      exact absurd (at_i b e4) (ap k1 x1 b q1 e3)
    · rw [List.getElem?_set_ne n1] at e3
      rw [List.getElem?_set_ne n2] at e4
      exact m.dis k1 k2 x1 x2 b q1 q2 e3 e4
/-- an instance is frozen -/
theorem Mdl.frzIns {x C dx : Addr} {fs : List (Str × V)} (m : Mdl g F0 H0 F ρ n σ H) (h0 : H0 x = Option.none) (hf : F x = Option.none) (hx : H x = some (.ins C dx fs)) (no : ∀ (j : Nat) (d : D), ρ[j]? ≠ some (.slf d)) : Mdl g F0 H0 (upd F x (.ins C dx fs)) ρ n σ H := by
  have ne := H0_ne m.p0 h0
  have sf : Same F (upd F x (.ins C dx fs)) := same_upd hf
  refine ⟨m.gr.freeze h0 hf, m.p0, sub_frz m.sub hx ne.nh, m.pool, m.len, fun j sl e => ?_, m.dis⟩
  have q := m.slot j sl e
  cases sl with
  | un => trivial
  | val d =>
    obtain ⟨v, e1, r⟩ := q
    exact ⟨v, e1, r.mono sf⟩
  | own d =>
    obtain ⟨a, e1, o, f, z⟩ := q
    exact ⟨a, e1, o.mono sf, by rw [upd_ne (fun y => by rw [y] at o; exact o.noIns hx)]; exact f, z⟩
  | lam k =>
    obtain ⟨f, c', L, pm, ctv, e1, e2, e3, e4⟩ := q
    exact ⟨f, c', L, pm, ctv, e1, e2, sf _ _ e3, sf _ _ e4⟩
  | slf d => exact absurd e (no j d)
end
theorem mdl_startU {g : Gh} {F B H : Hp} {n : Nat} {N : List Str} {ds : List D} {vs : List V} {x : Addr} (hl : ds.length + 1 ≤ N.length) (gr : Grow g F B F H) (p0 : P0 g B) (s : Same F (vis g H)) (P : PoolAt g n H) (r : RepAll g F vs ds) :
    Mdl g F B F (.un :: (ds.map Sl.val ++ List.replicate (N.length - (ds.length + 1)) .un)) n (L2.start N (.ref x :: vs)) H := by
  have hlen := r.length
  refine ⟨gr, p0, s, P, by simp [L2.start, hlen], fun i sl e => ?_, fun i j di dj a e1 e2 e3 e4 => ?_⟩
  · cases i with
    | zero => cases e; trivial
    | succ i =>
      have e2 : (ds.map Sl.val ++ List.replicate (N.length - (ds.length + 1)) .un)[i]? = some sl := e
      clear e
      by_cases hi : i < ds.length
      · rw [List.getElem?_append_left (by simpa using hi), List.getElem?_map, Option.map_eq_some_iff] at e2
        obtain ⟨d, e3, rfl⟩ := e2
        obtain ⟨v, hv, rv⟩ := r.get e3
        refine ⟨v, ?_, rv⟩
        unfold L2.start
        rw [List.getElem?_append_left (by simp; omega), List.map_cons, List.getElem?_cons_succ, List.getElem?_map, hv]
        rfl
      · rw [List.getElem?_append_right (by simpa using hi), List.getElem?_replicate] at e2
        split at e2
        · cases e2; trivial
        · cases e2
  · exfalso
    cases i with
    | zero => cases e1
    | succ i =>
      have e1 : (ds.map Sl.val ++ List.replicate (N.length - (ds.length + 1)) .un)[i]? = some (.own di) := e1
      by_cases hi : i < ds.length
      · rw [List.getElem?_append_left (by simpa using hi), List.getElem?_map, Option.map_eq_some_iff] at e1
        obtain ⟨d, e1, z⟩ := e1
        cases z
      · rw [List.getElem?_append_right (by simpa using hi), List.getElem?_replicate] at e1
        split at e1 <;> cases e1
section
variable {P : Program} {w : World} {K : PySem.W.Frag} {mg : Str → Option Value} {base : Heap} {g : Gh} {k : Nat} {C : Nat → List D → M D}
theorem roads_init {f A : Addr} {st : Stmt} {fd : FuncData} (L : LamOk P w K mg base g k C) (hK : g.K = K) (hw : g.w = w) (hfn : Fun K "__init__" "Roads.__init__" st f fd) (hs : defScope st = roadsScope) (hb : RoadsBody (defBody st)) (hcl : g.cls 1 = some A) (cl : Cls K A)
    (na1 : NoAttr K A (Str.ofString "_before")) (na2 : NoAttr K A (Str.ofString "nodes")) (ml : mg "len" = none) : FnOk P w K mg base CX0 (k + 1) f fd ["self", "start", "steps"] (spI g 1 (roadsC C)) := by
  obtain ⟨oc, od, kV, doc, pm, an, cdv, ct, osl, ed, lk, hcd⟩ := hfn.ex
  subst ed
  have two : ∀ {ds : List D} {n : Nat} {r : D × Nat}, roadsC C ds n = some r → ∃ st0 j caps, ds = [st0, .clo j caps] := fun {ds n r} e => by
    unfold roadsC at e
    split at e
    · exact ⟨_, _, _, rfl⟩
    · cases e
  have len : ∀ vs H Q E, spI g 1 (roadsC C) vs H Q E → vs.length = ["self", "start", "steps"].length := fun vs H Q E ⟨x, dx, Ac, ws, B, F, n, ds, d, n', q0, _, _, _, _, _, _, _, q3, q4, _⟩ => by
    obtain ⟨_, _, _, rfl⟩ := two q4
    rw [q0, List.length_cons, q3.length]
    rfl
  refine fn_any (N := roadsN) (ps := ["self", "start", "steps"]) lk hcd (by rw [hs]; exact roadsFS) len fun A1 outer s H vs Q E hr ⟨x, dx, Ac, ws, B, F, n, ds, d, n', q0, qc, qx, qdx, qne, qH, q1, q2, q3, q4, q5⟩ => ?_
  rw [hcl] at qc
  cases qc
  obtain ⟨st0, j, caps, rfl⟩ := two q4
  cases q3 with
  | cons r1 t =>
  cases t with
  | cons r2 t =>
  cases t
  rename_i v1 v2
  subst q0
  subst qH
  unfold roadsC at q4
  simp only at q4
  split at q4
  case isFalse => cases q4
  rename_i hko
  obtain ⟨res, n1, e1, e2⟩ := M.bind_some q4
  cases e2
  have hu : A1.units + 3 + 9 < cLine := by
    have h1 := hr.un
    have h2 : (A1.deeper (envOfC "Roads.__init__" (defScope st) s.heap.objs.size f cdv)).units = A1.units + 3 := rfl
    rw [h2] at h1
    omega
  rw [hs] at hr ⊢
  have nd := roadsFS.nd
  generalize defBody st = bd at hb
  cases hb
  rename_i hline
  have fldB : ∀ {p q : Pos}, PE (cxOf CX0 P w K mg base roadsN "Roads.__init__" roadsScope f cdv A1 outer s (upd (upd B dx (.own x)) x (.ins A dx [])) E).nox (.Attribute (.Name "self" p) "_before" q) (tFld K (tVar 0) "_before") := fun {p q} => pe_fld (pv 0) rfl
  have fldN : ∀ {p q : Pos}, PE (cxOf CX0 P w K mg base roadsN "Roads.__init__" roadsScope f cdv A1 outer s (upd (upd B dx (.own x)) x (.ins A dx [])) E).nox (.Attribute (.Name "self" p) "nodes" q) (tFld K (tVar 0) "nodes") := fun {p q} => pe_fld (pv 0) rfl
  have var1 : ∀ {p : Pos}, PE (cxOf CX0 P w K mg base roadsN "Roads.__init__" roadsScope f cdv A1 outer s (upd (upd B dx (.own x)) x (.ins A dx [])) E).nox (.Name "start" p) (RdV g (getV 1)) := fun {p} => de_var rfl (.inl rfl) (by decide) (by decide)
  have var2 : ∀ {p : Pos}, PE (cxOf CX0 P w K mg base roadsN "Roads.__init__" roadsScope f cdv A1 outer s (upd (upd B dx (.own x)) x (.ins A dx [])) E).nox (.Name "steps" p) (RdV g (getV 2)) := fun {p} => de_var rfl (.inl rfl) (by decide) (by decide)
  have var4 : ∀ {p : Pos}, PE (cxOf CX0 P w K mg base roadsN "Roads.__init__" roadsScope f cdv A1 outer s (upd (upd B dx (.own x)) x (.ins A dx [])) E).nox (.Name "node" p) (RdV g (getV 4)) := fun {p} => de_var rfl (.inl rfl) (by decide) (by decide)
  have var5 : ∀ {p : Pos}, PE (cxOf CX0 P w K mg base roadsN "Roads.__init__" roadsScope f cdv A1 outer s (upd (upd B dx (.own x)) x (.ins A dx [])) E).nox (.Name "label" p) (RdV g (getV 5)) := fun {p} => de_var rfl (.inl rfl) (by decide) (by decide)
  have var6 : ∀ {p : Pos}, PE (cxOf CX0 P w K mg base roadsN "Roads.__init__" roadsScope f cdv A1 outer s (upd (upd B dx (.own x)) x (.ins A dx [])) E).nox (.Name "other" p) (RdV g (getV 6)) := fun {p} => de_var rfl (.inl rfl) (by decide) (by decide)
  refine ⟨_, pss_cons (ps_fld (pv 0) (df_d1 hu hK.symm hw var1 de_none) rfl) (pss_cons (ps_fld (pv 0) (df_lst (da_cons var1 da_nil rfl)) rfl) (pss_cons (ps_set (i := 3) nd rfl (.inl rfl) pe_int)
    (pss_ghost 7 (fun y hy hv => ?g7) (pss_ghost 8 (fun y hy hv => ?g8) (pss_one (ps_while PassesOwn.never (pt_cmpR op_lt (pv 3) (pe_callB call_len_seq (by rfl) ml PySem.boot_len (pa_cons fldN pa_nil)) rfl)
      (pss_cons (ps_set (i := 4) nd rfl (.inl rfl) (pe_ix ix_list fldN (pv 3) (fun _ _ => rfl)))
      (pss_cons (ps_for PassesOwn.never rfl (di_seq hK.symm (de_callv L hr var2 (da_cons var4 da_nil rfl) rfl rfl rfl)) (dg_tp (t := .nm 5) (u := .nm 6) hK.symm rfl (dg_nm nd rfl (.inl rfl) (.inl rfl)) (dg_nm nd rfl (.inl rfl) (.inl rfl)) rfl rfl rfl rfl)
        (pss_one (ps_if (pt_cmpR (op_notInDict hu hK.symm hw) (pv 6) fldB rfl)
          (pss_cons (ps_asg (de_tup (da_cons var4 (da_cons var5 da_nil rfl) rfl)) (pg_sub fldB var6 (set_dictD hu hK.symm hw)))
          (pss_one (ps_expr (pe_bm PySem.F.plainAttrs_list PySem.F.slot_list_append PySem.F.type_list_append mt_append fldN (pa_cons var6 pa_nil) rfl rfl hline rfl rfl) rfl)))
          pss_nil)) (fun _ => rfl))
      (pss_one (ps_aug (i := 3) nd rfl (.inl rfl) pe_int ip_add)))))))))), ?_⟩
  case g7 =>
    have hy : (some (Str.ofString "#before") : Option Str) = some y := hy
    cases hy
    exact roads_nb hv
  case g8 =>
    have hy : (some (Str.ofString "#nodes") : Option Str) = some y := hy
    cases hy
    exact roads_nn hv
  -- the start
  have P1 : PoolAt g n (upd B dx (.own x)) := q2.upd qdx
  have hx1 : upd B dx (.own x) x = none := by rw [upd_ne qne.symm]; exact qx
  have gr0 : Grow g F B F (upd (upd B dx (.own x)) x (.ins A dx [])) := (Grow.new q2 qdx).trans (Grow.new P1 hx1)
  have sm0 : Same F (vis g (upd (upd B dx (.own x)) x (.ins A dx []))) := sub_new (sub_new q1 q2 qdx) P1 hx1
  have P2 : PoolAt g n (upd (upd B dx (.own x)) x (.ins A dx [])) := P1.upd hx1
  have m0 := mdl_startU (N := roadsN) (x := x) (ds := [st0, .clo j caps]) (by show 3 ≤ 9; decide) gr0 q2.p0 sm0 P2 (.cons r1 (.cons r2 .nil))
  have nhx := q2.fresh qx
  refine ⟨fun σ H1 => ∃ s3 s4 s5 s6 b l F1, RInv g F B x A dx b l st0 (.clo j caps) s3 s4 s5 s6 res.1 res.2.1 res.2.2 n' F1 σ H1, ?_, ?_⟩
  · -- self._before = {start: None}
    have nos : ∀ (j' : Nat) (d : D), (Sl.un :: (List.map Sl.val [st0, .clo j caps] ++ List.replicate (roadsN.length - ([st0, D.clo j caps].length + 1)) Sl.un))[j']? ≠ some (.own d) ∧ (Sl.un :: (List.map Sl.val [st0, .clo j caps] ++ List.replicate (roadsN.length - ([st0, D.clo j caps].length + 1)) Sl.un))[j']? ≠ some (.slf d) := fun j' d =>
      ⟨fun e => by have := List.mem_of_getElem? e; simp at this, fun e => by have := List.mem_of_getElem? e; simp at this⟩
    refine ⟨F, B, F, _, n, .dict [st0] [.none], n, ?d1, m0, fun a1 Fa Ha ga sa Pa hna hfa oa => ⟨.ref x, rfl, x, A, dx, [], rfl, ?hxa, cl, na1, by decide, ?_⟩⟩
    case d1 =>
      show (if kindOk [] st0 = true then pure (.dict [st0] [.none]) else M.fail : M D) n = _
      rw [if_pos hko]
      rfl
    case hxa =>
      have := ga.h x _ (by rw [vis_ne nhx.nh, upd_same])
      rwa [vis_ne nhx.nh] at this
    have hxa : Ha x = some (.ins A dx []) := by
      have := ga.h x _ (by rw [vis_ne nhx.nh, upd_same])
      rwa [vis_ne nhx.nh] at this
    have hFx : F x = none := sub_none q1 qx
    have hFa : Fa x = none := by rw [ga.keepF nhx.nh upd_same (fun _ _ z => nomatch z)]; exact hFx
    have nh1 : Nh g a1 := P2.fresh hna
    have hB1 : B a1 = none := gr0.fresh hna
    have ne1 : a1 ≠ x := fun z => by rw [z] at oa; exact oa.noIns hxa
    have m1 := m0.grow ga sa Pa
    have m2 := m1.side2 (o := .ins A dx [(Str.ofString "_before", .ref a1)]) qx hFa hxa (fun _ _ z => nomatch z) nos
    have oa1 : Own g Fa (upd Ha x (.ins A dx [(Str.ofString "_before", .ref a1)])) a1 (.dict [st0] [.none]) := oa.at (upd_ne ne1)
    -- self.nodes = [start]
    refine ⟨F, B, Fa, _, n, .lst [st0], n, rfl, m2, fun a2 Fb Hb gb sb Pb hnb hfb ob => ⟨.ref x, rfl, x, A, dx, [(Str.ofString "_before", .ref a1)], rfl, ?hxb, cl, na2, by simp, ?_⟩⟩
    case hxb =>
      have := gb.h x (.ins A dx [(Str.ofString "_before", .ref a1)]) (by rw [vis_ne nhx.nh, upd_same]; rfl)
      rwa [vis_ne nhx.nh] at this
    have gb : Grow g Fa (upd Ha x (.ins A dx [(Str.ofString "_before", .ref a1)])) Fb Hb := gb
    have hnb : upd Ha x (.ins A dx [(Str.ofString "_before", .ref a1)]) a2 = none := hnb
    have hxb : Hb x = some (.ins A dx [(Str.ofString "_before", .ref a1)]) := by
      have := gb.h x (.ins A dx [(Str.ofString "_before", .ref a1)]) (by rw [vis_ne nhx.nh, upd_same])
      rwa [vis_ne nhx.nh] at this
    have hFb : Fb x = none := by rw [gb.keepF nhx.nh upd_same (fun _ _ z => nomatch z)]; exact hFa
    have hB2 : B a2 = none := m2.gr.fresh hnb
    have ne2 : a2 ≠ x := fun z => by rw [z] at ob; exact ob.noIns hxb
    obtain ⟨u1, hu1, hc1, _⟩ := oa1.any
    have ne12 : a1 ≠ a2 := fun z => by rw [← z, hu1] at hnb; cases hnb
    have hF1 : Fb a1 = none := by rw [gb.keepF nh1.nh hu1 hc1]; exact hfa
    have m3 := m2.grow gb sb Pb
    rw [roads_put]
    have m4 := m3.side2 (o := .ins A dx [(Str.ofString "_before", .ref a1), (Str.ofString "nodes", .ref a2)]) qx hFb hxb (fun _ _ z => nomatch z) nos
    have oa2 : Own g Fb (upd Hb x (.ins A dx [(Str.ofString "_before", .ref a1), (Str.ofString "nodes", .ref a2)])) a1 (.dict [st0] [.none]) := (oa1.grow gb nh1.nh).at (upd_ne ne1)
    have ob2 : Own g Fb (upd Hb x (.ins A dx [(Str.ofString "_before", .ref a1), (Str.ofString "nodes", .ref a2)])) a2 (.lst [st0]) := ob.at (upd_ne ne2)
    have m5 := m4.frzIns qx hFb upd_same (fun j d => (nos j d).2)
    have sfx : Same Fb (upd Fb x (.ins A dx [(Str.ofString "_before", .ref a1), (Str.ofString "nodes", .ref a2)])) := same_upd hFb
    have m6 := m5.set (v := .int 0) 3 (.int 0)
    have nos3 : ∀ (j' : Nat) (d : D), ((Sl.un :: (List.map Sl.val [st0, .clo j caps] ++ List.replicate (roadsN.length - ([st0, D.clo j caps].length + 1)) Sl.un)).set 3 (.val (.int 0)))[j']? ≠ some (.own d) := fun j' d e => by
      have := List.mem_of_getElem? e
      revert this
      show ¬ (Sl.own d ∈ [Sl.un, .val st0, .val (.clo j caps), .val (.int 0), .un, .un, .un, .un, .un])
      simp
    have m7 := m6.putOwn (i := 7) (oa2.mono sfx) (by rw [upd_ne ne1]; exact hF1) hB1 (fun j' dj b e _ => absurd e (nos3 j' dj))
    have m8 := m7.putOwn (i := 8) (ob2.mono sfx) (by rw [upd_ne ne2]; exact hfb) hB2 (fun j' dj b e e2 => by
      by_cases h7 : j' = 7
      · subst h7
        cases e2
        exact ne12
      · rw [List.getElem?_set_ne (Ne.symm h7)] at e
        exact absurd e (nos3 j' dj))
    refine ⟨.ref a1, .ref a2, fun mm σ1 H1 => ∃ (i : Nat) (s4 s5 s6 : Sl) (ks vs ns : List D) (nn : Nat) (F2 : Hp), RInv g F B x A dx a1 a2 st0 (.clo j caps) (.val (.int i)) s4 s5 s6 ks vs ns nn F2 σ1 H1 ∧
      rdGo (fun nd => if noClo nd = true then C j (caps ++ [nd]) else M.fail) mm i (ks, vs, ns) nn = some (res, n'), ⟨WFUEL, 0, .un, .un, .un, [st0], [.none], [st0], n, _, ⟨m8, rfl, rfl, rfl, upd_same⟩, e1⟩, ?_⟩
    rintro mm σ1 H1 ⟨i, s4, s5, s6, ks, vs', ns, nn, F2, r, e3⟩
    obtain ⟨v3, hv3, r3⟩ := r.m.slot 3 _ rfl
    cases r3
    obtain ⟨wl, hl, rl, hFl, hBl⟩ := r.lst
    have lw := rl.length
    cases mm with
    | zero => cases e3
    | succ mm =>
    refine ⟨.int i, hv3, .ref x, r.s0, x, A, dx, _, .ref a2, rfl, r.hx, cl, na2, roads_at2, a2, wl, rfl, .inl (.of hl), i, wl.length, rfl, rfl, _, rfl, ?_⟩
    unfold rdGo at e3
    cases hi : ns[i]? with
    | none =>
      have hge : ns.length ≤ i := List.getElem?_eq_none_iff.mp hi
      simp only [hi] at e3
      cases e3
      rw [if_neg (by simp; omega)]
      exact ⟨_, s4, s5, s6, a1, a2, F2, r⟩
    | some node =>
      have hlt : i < ns.length := (List.getElem?_eq_some_iff.mp hi).1
      simp only [hi] at e3
      obtain ⟨rd, n2, e4, e5⟩ := M.bind_some e3
      obtain ⟨items, n3, e6, e7⟩ := M.bind_some e5
      obtain ⟨e8, e9⟩ := M.opt_ok e6
      simp only at e8 e9
      subst e9
      obtain ⟨⟨ks2, vs2, ns2⟩, n4, e10, e11⟩ := M.bind_some e7
      obtain ⟨e12, e13⟩ := M.opt_ok e10
      simp only at e12 e13
      subst e13
      split at e4
      case isFalse => cases e4
      rename_i hnc
      rw [if_pos (by simp; omega)]
      refine ⟨fun σ' H' => ∃ (i : Nat) (s4 s5 s6 : Sl) (ks vs ns : List D) (nn : Nat) (F2 : Hp), RInv g F B x A dx a1 a2 st0 (.clo j caps) (.val (.int i)) s4 s5 s6 ks vs ns nn F2 σ' H' ∧ rdGo (fun nd => if noClo nd = true then C j (caps ++ [nd]) else M.fail) mm i (ks, vs, ns) nn = some (res, n'), fun σ' H' h => ⟨mm, Nat.lt_succ_self _, h⟩, ?_⟩
      obtain ⟨vn, hvn, rn⟩ := rl.get hi
      -- node = self.nodes[at]
      refine ⟨.ref x, r.s0, x, A, dx, _, .ref a2, rfl, r.hx, cl, na2, roads_at2, .int i, hv3, a2, wl, i, vn, rfl, rfl, .of hl, atI_nat hvn, ?_⟩
      have ra : RInv g F B x A dx a1 a2 st0 (.clo j caps) (.val (.int i)) (.val node) s5 s6 ks vs' ns nn F2 (σ1.set 4 (some vn)) H1 := ⟨r.m.set 4 rn, by rw [List.getElem?_set_ne (by decide)]; exact r.s0, by rw [List.getElem?_set_ne (by decide)]; exact r.s7, by rw [List.getElem?_set_ne (by decide)]; exact r.s8, r.fx⟩
      -- for label, other in steps(node)
      refine ⟨F, B, F2, _, nn, items, n4, ?ev, ra.m, fun J F3 H3 g3 s3' P3 wk => ?_⟩
      case ev =>
        have h1 : evCV C (getV 2) (evCons (getV 4) evNil) [.un, .val st0, .val (.clo j caps), .val (.int i), .val node, s5, s6, .own (.dict ks vs'), .own (.lst ns)] nn = some (rd, n4) := by
          show (if noClos [node] = true then C j (caps ++ [node]) else M.fail) nn = _
          rw [if_pos (by simp [noClos, hnc])]
          exact e4
        show evItems (evCV C (getV 2) (evCons (getV 4) evNil)) [.un, .val st0, .val (.clo j caps), .val (.int i), .val node, s5, s6, .own (.dict ks vs'), .own (.lst ns)] nn = _
        unfold evItems
        rw [M.bind_ap, h1]
        show M.opt (itemsD rd) n4 = _
        rw [e8]
        rfl
      refine ⟨fun t mm2 σ2 H2 => mm2 + t = items.length ∧ ∃ (s5 s6 : Sl) (ks vs ns : List D) (F4 : Hp), RInv g F B x A dx a1 a2 st0 (.clo j caps) (.val (.int i)) (.val node) s5 s6 ks vs ns n4 F4 σ2 H2 ∧ Same F3 F4 ∧ rdStep node (items.drop t) (ks, vs, ns) = some (ks2, vs2, ns2),
        ⟨items.length, by omega, s5, s6, ks, vs', ns, F3, ra.grow g3 s3' P3, Same.refl _, e12⟩, ?_⟩
      clear e12 ra hvn rn hv3 hl rl hFl hBl lw hi hlt e3 r
      rintro t mm2 σ2 H2 ⟨ht, s5, s6, ks, vs', ns, F4, r4, s34, e14⟩
      by_cases hlt2 : t < items.length
      · refine .inr ?_
        obtain ⟨d, hd⟩ : ∃ d, items[t]? = some d := ⟨items[t], by simp [hlt2]⟩
        rw [drop_at hd] at e14
        obtain ⟨hgo, hy⟩ := wk.go t d F4 H2 n4 s34 r4.m.sub r4.m.pool hd
        refine ⟨hgo, fun σ' H' => ∃ (s5 s6 : Sl) (ks vs ns : List D) (F5 : Hp), RInv g F B x A dx a1 a2 st0 (.clo j caps) (.val (.int i)) (.val node) s5 s6 ks vs ns n4 F5 σ' H' ∧ Same F3 F5 ∧ rdStep node (items.drop (t + 1)) (ks, vs, ns) = some (ks2, vs2, ns2),
          fun σ' H' ⟨s5, s6, ks, vs, ns, F5, q1, q2, q3⟩ => ⟨mm2 - 1, by omega, by omega, s5, s6, ks, vs, ns, F5, q1, q2, q3⟩, fun y H5 hx => ?_⟩
        obtain ⟨F5, g5, s5', P5, r5⟩ := hy y H5 hx
        obtain ⟨lb, ot, rfl⟩ : ∃ lb ot, d = .tup [lb, ot] := by
          cases d with
          | tup xs =>
            match xs, e14 with
            | [lb, ot], _ => exact ⟨lb, ot, rfl⟩
            | [], e => cases e
            | [_], e => cases e
            | _ :: _ :: _ :: _, e => cases e
          | _ => cases e14
        simp only [rdStep] at e14
        split at e14
        case isFalse => cases e14
        rename_i ko
        have r5' := r4.grow g5 s5' P5
        refine ⟨F, B, F5, _, n4, .tup [lb, ot], _, rfl, r5'.m, r5, fun σ' hb m6 => ?_⟩
        have r6 : RInv g F B x A dx a1 a2 st0 (.clo j caps) (.val (.int i)) (.val node) (.val lb) (.val ot) ks vs' ns n4 F5 σ' H5 :=
          ⟨m6, by rw [butAt_get hb (by decide)]; exact r5'.s0, by rw [butAt_get hb (by decide)]; exact r5'.s7, by rw [butAt_get hb (by decide)]; exact r5'.s8, r5'.fx⟩
        obtain ⟨v6, hv6, rv6⟩ := r6.m.slot 6 _ rfl
        obtain ⟨u, hu', dc, hFb', hBb⟩ := r6.dict
        refine ⟨v6, hv6, .ref x, r6.s0, x, A, dx, _, .ref a1, rfl, r6.hx, cl, na1, roads_at1, F5, a1, u, ks, vs', ot, rfl, r6.m.sub.trans vis_same, .inl hu', dc, rv6, ko, _, rfl, ?_⟩
        cases hdi : didx ks ot with
        | some z =>
          rw [hdi] at e14
          rw [if_neg (by simp)]
          exact ⟨_, _, ks, vs', ns, F5, r6, s34.trans g5.f, by simpa using e14⟩
        | none =>
          rw [hdi] at e14
          simp only [Option.isSome_none, Bool.false_eq_true, if_false] at e14
          split at e14
          case isFalse => cases e14
          rename_i hsz
          rw [if_pos (by simp)]
          refine ⟨F, B, F5, _, n4, .tup [node, lb], n4, rfl, r6.m, fun vt F6 H6 g6 s6' P6 rt => ?_⟩
          have r7 := r6.grow g6 s6' P6
          refine ⟨.ref x, r7.s0, x, A, dx, _, .ref a1, rfl, r7.hx, cl, na1, roads_at1, F, B, F6, _, n4, ot, n4, rfl, r7.m, fun vo F8 H8 g8 s8 P8 ro => ?_⟩
          have r8 := r7.grow g8 s8 P8
          obtain ⟨u8, hu8, dc8, hF8, hB8⟩ := r8.dict
          refine ⟨F8, a1, u8, ks, vs', ot, .tup [node, lb], rfl, hu8, dc8, r8.m.sub.trans vis_same, ro, ko, rt.mono g8.f, by rw [← sz]; exact hsz.1, fun u' dc' => ?_⟩
          have m9 := r8.m.writeO (i := 7) rfl r8.s7 hF8 hB8 hu8 dc8.nc (dc'.own upd_same)
          have r9 : RInv g F B x A dx a1 a2 st0 (.clo j caps) (.val (.int i)) (.val node) (.val lb) (.val ot) (dkeys ks ot) (dvals ks vs' ot (.tup [node, lb])) ns n4 F8 σ' (upd H8 a1 u') := ⟨m9, r8.s0, r8.s7, r8.s8, r8.fx⟩
          obtain ⟨w9, hl9, rl9, _, _⟩ := r9.lst
          refine ⟨.ref x, r9.s0, x, A, dx, _, .ref a2, rfl, r9.hx, cl, na2, roads_at2, .inl ⟨rfl, w9, .of hl9⟩, F, B, F8, _, n4, ot, n4, rfl, r9.m, fun vo2 F10 H10 g10 s10 P10 ro2 => ?_⟩
          have r10 := r9.grow g10 s10 P10
          obtain ⟨w10, hl10, rl10, hF10, hB10⟩ := r10.lst
          refine ⟨a2, w10, vo2, rfl, rfl, hl10, by rw [rl10.length, ← sz]; exact hsz.2, ?_⟩
          have m11 := r10.m.write (i := 8) rfl r10.s8 hF10 hB10 hl10 (rl10.snoc ro2)
          have ek : dkeys ks ot = ks ++ [ot] := by unfold dkeys; rw [hdi]; rfl
          have ev : dvals ks vs' ot (.tup [node, lb]) = vs' ++ [.tup [node, lb]] := by unfold dvals; rw [hdi]
          rw [ek, ev] at m11
          have rfin : RInv g F B x A dx a1 a2 st0 (.clo j caps) (.val (.int i)) (.val node) (.val lb) (.val ot) (ks ++ [ot]) (vs' ++ [.tup [node, lb]]) (ns ++ [ot]) n4 F10 σ' (upd H10 a2 (.lst (w10 ++ [vo2]))) := ⟨m11, r10.s0, r10.s7, r10.s8, r10.fx⟩
          exact ⟨.val lb, .val ot, ks ++ [ot], vs' ++ [.tup [node, lb]], ns ++ [ot], F10, rfin, ((s34.trans g5.f).trans (g6.f.trans g8.f)).trans g10.f, e14⟩
      · refine .inl ⟨?_, ?_⟩
        · have : t = items.length := by omega
          subst this
          exact wk.stop F4 H2 s34 r4.m.sub
        · have : t = items.length := by omega
          subst this
          rw [List.drop_length] at e14
          simp only [rdStep, Option.some.injEq, Prod.mk.injEq] at e14
          obtain ⟨rfl, rfl, rfl⟩ := e14
          obtain ⟨v3, hv3, r3⟩ := r4.m.slot 3 _ rfl
          cases r3
          refine ⟨.int i, hv3, i, 1, rfl, rfl, ?_⟩
          have e : ((i + 1 : Nat) : Int) = (i : Int) + 1 := by omega
          refine ⟨i + 1, .val node, s5, s6, ks, vs', ns, n4, F4, ⟨?_, by rw [List.getElem?_set_ne (by decide)]; exact r4.s0, by rw [List.getElem?_set_ne (by decide)]; exact r4.s7, by rw [List.getElem?_set_ne (by decide)]; exact r4.s8, r4.fx⟩, e11⟩
          rw [e]
          exact r4.m.set 3 (.int _)
  · rintro σ1 H1 s1 J ⟨s3, s4, s5, s6, b, l, F1, r⟩
    obtain ⟨a, u, _, hua, mu, q⟩ := r.m.freeze (i := 7) rfl
    obtain ⟨od1, J2⟩ := Inv.frz J hua mu
    obtain ⟨F2, sf2, m2⟩ := q od1
    obtain ⟨a', u', _, hua2, mu2, q2⟩ := m2.freeze (i := 8) (d := .lst res.2.2) rfl
    obtain ⟨od2, J3⟩ := Inv.frz J2 hua2 mu2
    obtain ⟨F3, sf3, m3⟩ := q2 od2
    obtain ⟨v7, e7, rv7⟩ := m3.slot 7 (.val (.dict res.1 res.2.1)) rfl
    obtain ⟨v8, e8, rv8⟩ := m3.slot 8 (.val (.lst res.2.2)) rfl
    rw [r.s7] at e7
    rw [r.s8] at e8
    cases e7
    cases e8
    exact ⟨_, J3, q5 F3 _ m3.gr m3.sub m3.pool (.obj hcl (sf3 _ _ (sf2 _ _ r.fx)) rfl (.cons rv7 (.cons rv8 .nil)))⟩
end
end Ev

set_option Elab.async false
set_option linter.all false
set_option autoImplicit false
set_option maxRecDepth 100000
set_option maxHeartbeats 4000000
/-! Ev16: Roads in the table; a maker's table. -/
namespace Ev
open PySem PySem.Spec PyProof.Rows L2
theorem fv_roads {P : Program} {w : World} {K : PySem.W.Frag} {mg : Str → Option Value} {base : Heap} {g : Gh} {T : Tab} {St : Stt} {st : Stmt} {cd : Value} {f A : Addr} {j : Nat} (t : T.lookup j = some (.primC roadsC)) (hc : g.cls 1 = some A) (mk : L2.Mk K A f) (F : FactQ K "__init__" "Roads.__init__" st f cd)
    (hs : defScope st = roadsScope) (hb : RoadsBody (defBody st)) (bd : BindQ "__init__" "Roads.__init__" st ["self", "start", "steps"]) (cl : Cls K A) (n1 : NoAttr K A (Str.ofString "_before")) (n2 : NoAttr K A (Str.ofString "nodes")) (hK : g.K = K) (hw : g.w = w) (ml : mg "len" = none) :
    FnVal P w K mg base g T St A j := by
  obtain ⟨kV, dc, pm, an, ct, F⟩ := F
  exact .inr (.inr (.inr ⟨roadsC, t, fun k C L => callOk_make mk hc (roads_init L hK hw F hs hb hc cl n1 n2 ml) (F.binds bd)⟩))
theorem maker_of {K : PySem.W.Frag} {c T : Addr} {cl : Value} {od : Option Addr} {vs : Array Value} {sl : Array (Option Value)} (l : K.lookup c = some ⟨cl, od, .fields vs, sl⟩) (h : vs[11]? = some (.ref T)) (e : PySem.W.codeHdIn K c T = true) : PySem.W.codeHdIn K c T = true := e
end Ev

set_option Elab.async false
set_option linter.all false
set_option autoImplicit false
set_option maxRecDepth 100000
set_option maxHeartbeats 800000
namespace Ev
open PySem PySem.Spec PyProof.Rows L2
def b_4 : Ss := (Ss.cons (S.ret (E.and (Es.cons (E.isi .int (E.var 0)) (Es.cons (E.not (E.isi .bool (E.var 0))) Es.nil)))) Ss.nil)
def n_4 : List Str := [(Str.ofString "value")]
def d_4 : FD := ⟨(Str.ofString "is_integer"), 1, n_4, b_4, false⟩
def b_5 : Ss := (Ss.cons (S.ret (E.and (Es.cons (E.call 4 (Es.cons (E.var 0) Es.nil)) (Es.cons (E.chain .le .le (E.var 1) (E.var 0) (E.var 2)) Es.nil)))) Ss.nil)
def n_5 : List Str := [(Str.ofString "value"), (Str.ofString "low"), (Str.ofString "high")]
def d_5 : FD := ⟨(Str.ofString "is_number"), 3, n_5, b_5, false⟩
def b_6 : Ss := (Ss.cons (S.ret (E.and (Es.cons (E.isi .tuple (E.var 0)) (Es.cons (E.cmp .eq (E.bi .len (Es.cons (E.var 0) Es.nil)) (E.var 1)) Es.nil)))) Ss.nil)
def n_6 : List Str := [(Str.ofString "value"), (Str.ofString "size")]
def d_6 : FD := ⟨(Str.ofString "is_tuple"), 2, n_6, b_6, false⟩
def b_7 : Ss := (Ss.cons (S.ret (E.and (Es.cons (E.isi .tuple (E.var 0)) (Es.cons (E.chain .le .le (E.var 1) (E.bi .len (Es.cons (E.var 0) Es.nil)) (E.var 2)) Es.nil)))) Ss.nil)
def n_7 : List Str := [(Str.ofString "value"), (Str.ofString "low"), (Str.ofString "high")]
def d_7 : FD := ⟨(Str.ofString "is_between"), 3, n_7, b_7, false⟩
def b_57 : Ss := (Ss.cons (S.ret (E.and (Es.cons (E.call 6 (Es.cons (E.var 0) (Es.cons (E.var 2) Es.nil))) (Es.cons (E.isi .str (E.ix (E.var 0) (E.int 0))) (Es.cons (E.cmp .eq (E.ix (E.var 0) (E.int 0)) (E.var 1)) Es.nil))))) Ss.nil)
def n_57 : List Str := [(Str.ofString "value"), (Str.ofString "word"), (Str.ofString "size")]
def d_57 : FD := ⟨(Str.ofString "is_tagged"), 3, n_57, b_57, false⟩
def b_8 : Ss := (Ss.cons (S.ret (E.bi .all (Es.cons (E.lc [((Str.ofString "at"), 1)] (Tgt.nm 1) (It.range2 (E.int 1) (E.bi .len (Es.cons (E.var 0) Es.nil))) Es.nil (E.cmp .lt (E.ix (E.var 0) (E.bin .sub (E.var 1) (E.int 1))) (E.ix (E.var 0) (E.var 1)))) Es.nil))) Ss.nil)
def n_8 : List Str := [(Str.ofString "value"), (Str.ofString "at")]
def d_8 : FD := ⟨(Str.ofString "is_ascending"), 1, n_8, b_8, false⟩
def b_9 : Ss := (Ss.cons (S.ret (E.and (Es.cons (E.isi .tuple (E.var 0)) (Es.cons (E.bi .all (Es.cons (E.lc [((Str.ofString "one"), 3)] (Tgt.nm 3) (It.seq (E.var 0)) Es.nil (E.call 5 (Es.cons (E.var 3) (Es.cons (E.var 1) (Es.cons (E.var 2) Es.nil))))) Es.nil)) Es.nil)))) Ss.nil)
def n_9 : List Str := [(Str.ofString "value"), (Str.ofString "low"), (Str.ofString "high"), (Str.ofString "one")]
def d_9 : FD := ⟨(Str.ofString "are_integers"), 3, n_9, b_9, false⟩
def b_83 : Ss := (Ss.cons (S.ite (E.or (Es.cons (E.not (E.isi .tuple (E.var 0))) (Es.cons (E.not (E.bi .all (Es.cons (E.lc [((Str.ofString "row"), 4)] (Tgt.nm 4) (It.seq (E.var 0)) Es.nil (E.call 6 (Es.cons (E.var 4) (Es.cons (E.var 1) Es.nil)))) Es.nil))) Es.nil))) (Ss.cons (S.ret (E.bool false)) Ss.nil) Ss.nil) (Ss.cons (S.ret (E.and (Es.cons (E.bi .all (Es.cons (E.lc [((Str.ofString "row"), 4)] (Tgt.nm 4) (It.seq (E.var 0)) Es.nil (E.call 9 (Es.cons (E.var 4) (Es.cons (E.var 2) (Es.cons (E.var 3) Es.nil))))) Es.nil)) (Es.cons (E.call 8 (Es.cons (E.var 0) Es.nil)) Es.nil)))) Ss.nil))
def n_83 : List Str := [(Str.ofString "value"), (Str.ofString "size"), (Str.ofString "low"), (Str.ofString "high"), (Str.ofString "row")]
def d_83 : FD := ⟨(Str.ofString "are_rows"), 4, n_83, b_83, false⟩
def b_26 : Ss := (Ss.cons (S.ret (E.bi .len (Es.cons (E.ix (E.ix (E.var 0) (E.int 0)) (E.int 0)) Es.nil))) Ss.nil)
def n_26 : List Str := [(Str.ofString "plant")]
def d_26 : FD := ⟨(Str.ofString "deeds_of"), 1, n_26, b_26, false⟩
def b_27 : Ss := (Ss.cons (S.ret (E.bi .tuple (Es.cons (E.lc [((Str.ofString "deed"), 2), ((Str.ofString "goal"), 3)] (Tgt.tp (Tgt.nm 2) (Tgt.nm 3)) (It.enum (E.ix (E.ix (E.var 0) (E.int 0)) (E.var 1))) (Es.cons (E.cmp .ne (E.var 3) (E.glob (Str.ofString "NOWHERE") (D.int (-1)))) Es.nil) (E.var 2)) Es.nil))) Ss.nil)
def n_27 : List Str := [(Str.ofString "plant"), (Str.ofString "state"), (Str.ofString "deed"), (Str.ofString "goal")]
def d_27 : FD := ⟨(Str.ofString "doable"), 2, n_27, b_27, false⟩
def b_28 : Ss := (Ss.cons (S.asg (Tgt.nm 2) (E.int 0)) (Ss.cons (S.for_ (Tgt.nm 3) (It.seq (E.var 1)) (Ss.cons (S.asg (Tgt.nm 2) (E.ix (E.ix (E.ix (E.var 0) (E.int 0)) (E.var 2)) (E.var 3))) (Ss.cons (S.ite (E.cmp .eq (E.var 2) (E.glob (Str.ofString "NOWHERE") (D.int (-1)))) (Ss.cons (S.ret E.none) Ss.nil) Ss.nil) Ss.nil))) (Ss.cons (S.ret (E.var 2)) Ss.nil)))
def n_28 : List Str := [(Str.ofString "plant"), (Str.ofString "course"), (Str.ofString "state"), (Str.ofString "deed")]
def d_28 : FD := ⟨(Str.ofString "after"), 2, n_28, b_28, false⟩
def b_702 : Ss := (Ss.cons (S.ret (E.bi .tuple (Es.cons (E.bf .sorted (Es.cons (E.fld (Str.ofString "nodes") [1] (E.var 0)) Es.nil)) Es.nil))) Ss.nil)
def n_702 : List Str := [(Str.ofString "self")]
def d_702 : FD := ⟨(Str.ofString "ascending"), 1, n_702, b_702, false⟩
def b_711 : Ss := (Ss.cons (S.own 2 (E.lst Es.nil)) (Ss.cons (S.while_ (E.cmp .isNot (E.ix (E.fld (Str.ofString "_before") [1] (E.var 0)) (E.var 1)) E.none) (Ss.cons (S.asg (Tgt.tp (Tgt.nm 1) (Tgt.nm 3)) (E.ix (E.fld (Str.ofString "_before") [1] (E.var 0)) (E.var 1))) (Ss.cons (S.app 2 (E.var 3)) Ss.nil))) (Ss.cons (S.ret (E.bi .tuple (Es.cons (E.rev (E.pk 2)) Es.nil))) Ss.nil)))
def n_711 : List Str := [(Str.ofString "self"), (Str.ofString "node"), (Str.ofString "found"), (Str.ofString "label")]
def d_711 : FD := ⟨(Str.ofString "way_to"), 2, n_711, b_711, false⟩
def b_68 : Ss := (Ss.cons (S.asg (Tgt.nm 4) (E.tup (Es.cons (E.ix (E.ix (E.ix (E.var 0) (E.int 0)) (E.ix (E.var 2) (E.int 0))) (E.var 3)) (Es.cons (E.ix (E.ix (E.ix (E.var 1) (E.int 0)) (E.ix (E.var 2) (E.int 1))) (E.var 3)) Es.nil)))) (Ss.cons (S.ret (E.ite (E.cmp .mem (E.glob (Str.ofString "NOWHERE") (D.int (-1))) (E.var 4)) E.none (E.var 4))) Ss.nil))
def n_68 : List Str := [(Str.ofString "one"), (Str.ofString "two"), (Str.ofString "pair"), (Str.ofString "deed"), (Str.ofString "goals")]
def d_68 : FD := ⟨(Str.ofString "step_both"), 4, n_68, b_68, false⟩
def n_726 : List Str := [(Str.ofString "one"), (Str.ofString "two"), (Str.ofString "deeds"), (Str.ofString "pair"), (Str.ofString "deed")]
def e_726 : E := (E.lc [((Str.ofString "deed"), 4)] (Tgt.nm 4) (It.seq (E.var 2)) (Es.cons (E.call 68 (Es.cons (E.var 0) (Es.cons (E.var 1) (Es.cons (E.var 3) (Es.cons (E.var 4) Es.nil))))) Es.nil) (E.tup (Es.cons (E.var 4) (Es.cons (E.call 68 (Es.cons (E.var 0) (Es.cons (E.var 1) (Es.cons (E.var 3) (Es.cons (E.var 4) Es.nil))))) Es.nil))))
def d_726 : FD := ⟨(Str.ofString "<lambda>"), 4, n_726, .cons (.ret e_726) .nil, false⟩
def b_84 : Ss := (Ss.cons (S.asg (Tgt.nm 2) (E.lstRg1 (E.call 26 (Es.cons (E.var 0) Es.nil)))) (Ss.cons (S.retL 726 [0, 1, 2] 3 n_726 [(Str.ofString "pair")] e_726) Ss.nil))
def n_84 : List Str := [(Str.ofString "one"), (Str.ofString "two"), (Str.ofString "deeds")]
def d_84 : FD := ⟨(Str.ofString "both_steps"), 2, n_84, b_84, true⟩
def b_85 : Ss := (Ss.cons (S.ret (E.lc [((Str.ofString "deed"), 3)] (Tgt.nm 3) (It.seq (E.call 27 (Es.cons (E.var 0) (Es.cons (E.ix (E.var 2) (E.int 0)) Es.nil)))) (Es.cons (E.cmp .eq (E.ix (E.ix (E.ix (E.var 1) (E.int 0)) (E.ix (E.var 2) (E.int 1))) (E.var 3)) (E.glob (Str.ofString "NOWHERE") (D.int (-1)))) Es.nil) (E.var 3))) Ss.nil)
def n_85 : List Str := [(Str.ofString "one"), (Str.ofString "two"), (Str.ofString "pair"), (Str.ofString "deed")]
def d_85 : FD := ⟨(Str.ofString "further_deeds"), 3, n_85, b_85, false⟩
def b_724 : Ss := (Ss.cons (S.asg (Tgt.nm 2) (E.call 705 (Es.cons (E.tup (Es.cons (E.int 0) (Es.cons (E.int 0) Es.nil))) (Es.cons (E.call 84 (Es.cons (E.var 0) (Es.cons (E.var 1) Es.nil))) Es.nil)))) (Ss.cons (S.for_ (Tgt.nm 3) (It.seq (E.fld (Str.ofString "nodes") [1] (E.var 2))) (Ss.cons (S.asg (Tgt.nm 4) (E.call 85 (Es.cons (E.var 0) (Es.cons (E.var 1) (Es.cons (E.var 3) Es.nil))))) (Ss.cons (S.ite (E.cmp .gt (E.bi .len (Es.cons (E.var 4) Es.nil)) (E.int 0)) (Ss.cons (S.ret (E.tup (Es.cons (E.glob (Str.ofString "COURSE") (D.str (Str.ofString "course"))) (Es.cons (E.bin .add (E.meth (Str.ofString "way_to") [(1, 711)] (E.var 2) (Es.cons (E.var 3) Es.nil)) (E.tup (Es.cons (E.ix (E.var 4) (E.int 0)) Es.nil))) Es.nil)))) Ss.nil) Ss.nil) Ss.nil))) (Ss.cons (S.ret (E.tup (Es.cons (E.glob (Str.ofString "WITHIN") (D.str (Str.ofString "within"))) (Es.cons (E.meth (Str.ofString "ascending") [(1, 702)] (E.var 2) Es.nil) Es.nil)))) Ss.nil)))
def n_724 : List Str := [(Str.ofString "one"), (Str.ofString "two"), (Str.ofString "roads"), (Str.ofString "pair"), (Str.ofString "further")]
def d_724 : FD := ⟨(Str.ofString "within_paper"), 2, n_724, b_724, false⟩
def b_87 : Ss := (Ss.cons (S.ite (E.not (E.call 83 (Es.cons (E.var 2) (Es.cons (E.int 2) (Es.cons (E.int 0) (Es.cons (E.bin .sub (E.bi .max (Es.cons (E.bi .len (Es.cons (E.ix (E.var 0) (E.int 0)) Es.nil)) (Es.cons (E.bi .len (Es.cons (E.ix (E.var 1) (E.int 0)) Es.nil)) Es.nil))) (E.int 1)) Es.nil)))))) (Ss.cons (S.ret (E.bool false)) Ss.nil) Ss.nil) (Ss.cons (S.ret (E.and (Es.cons (E.bi .all (Es.cons (E.lc [((Str.ofString "a"), 3), ((Str.ofString "b"), 4)] (Tgt.tp (Tgt.nm 3) (Tgt.nm 4)) (It.seq (E.var 2)) Es.nil (E.and (Es.cons (E.cmp .lt (E.var 3) (E.bi .len (Es.cons (E.ix (E.var 0) (E.int 0)) Es.nil))) (Es.cons (E.cmp .lt (E.var 4) (E.bi .len (Es.cons (E.ix (E.var 1) (E.int 0)) Es.nil))) Es.nil)))) Es.nil)) (Es.cons (E.cmp .mem (E.tup (Es.cons (E.int 0) (Es.cons (E.int 0) Es.nil))) (E.var 2)) Es.nil)))) Ss.nil))
def n_87 : List Str := [(Str.ofString "one"), (Str.ofString "two"), (Str.ofString "value"), (Str.ofString "a"), (Str.ofString "b")]
def d_87 : FD := ⟨(Str.ofString "are_pairs"), 3, n_87, b_87, false⟩
def b_88 : Ss := (Ss.cons (S.ret (E.and (Es.cons (E.call 7 (Es.cons (E.var 1) (Es.cons (E.int 0) (Es.cons (E.glob (Str.ofString "LONGEST") (D.int 100000)) Es.nil)))) (Es.cons (E.call 9 (Es.cons (E.var 1) (Es.cons (E.int 0) (Es.cons (E.bin .sub (E.call 26 (Es.cons (E.var 0) Es.nil)) (E.int 1)) Es.nil)))) Es.nil)))) Ss.nil)
def n_88 : List Str := [(Str.ofString "plant"), (Str.ofString "value")]
def d_88 : FD := ⟨(Str.ofString "is_row_of_deeds"), 2, n_88, b_88, false⟩
def b_89 : Ss := (Ss.cons (S.ite (E.call 57 (Es.cons (E.var 2) (Es.cons (E.glob (Str.ofString "COURSE") (D.str (Str.ofString "course"))) (Es.cons (E.int 2) Es.nil)))) (Ss.cons (S.ite (E.not (E.call 88 (Es.cons (E.var 0) (Es.cons (E.ix (E.var 2) (E.int 1)) Es.nil)))) (Ss.cons (S.ret (E.bool false)) Ss.nil) Ss.nil) (Ss.cons (S.ret (E.and (Es.cons (E.cmp .isNot (E.call 28 (Es.cons (E.var 0) (Es.cons (E.ix (E.var 2) (E.int 1)) Es.nil))) E.none) (Es.cons (E.cmp .is (E.call 28 (Es.cons (E.var 1) (Es.cons (E.ix (E.var 2) (E.int 1)) Es.nil))) E.none) Es.nil)))) Ss.nil)) Ss.nil) (Ss.cons (S.ite (E.or (Es.cons (E.not (E.call 57 (Es.cons (E.var 2) (Es.cons (E.glob (Str.ofString "WITHIN") (D.str (Str.ofString "within"))) (Es.cons (E.int 2) Es.nil))))) (Es.cons (E.not (E.call 87 (Es.cons (E.var 0) (Es.cons (E.var 1) (Es.cons (E.ix (E.var 2) (E.int 1)) Es.nil))))) Es.nil))) (Ss.cons (S.ret (E.bool false)) Ss.nil) Ss.nil) (Ss.cons (S.asg (Tgt.nm 3) (E.dc [((Str.ofString "pair"), 4)] (Tgt.nm 4) (It.seq (E.ix (E.var 2) (E.int 1))) Es.nil (E.var 4) (E.bool true))) (Ss.cons (S.for_ (Tgt.nm 4) (It.seq (E.ix (E.var 2) (E.int 1))) (Ss.cons (S.ite (E.cmp .gt (E.bi .len (Es.cons (E.call 85 (Es.cons (E.var 0) (Es.cons (E.var 1) (Es.cons (E.var 4) Es.nil)))) Es.nil)) (E.int 0)) (Ss.cons (S.ret (E.bool false)) Ss.nil) Ss.nil) (Ss.cons (S.ite (E.not (E.bi .all (Es.cons (E.lc [((Str.ofString "_"), 5), ((Str.ofString "other"), 6)] (Tgt.tp (Tgt.nm 5) (Tgt.nm 6)) (It.seq (E.callv (E.call 84 (Es.cons (E.var 0) (Es.cons (E.var 1) Es.nil))) (Es.cons (E.var 4) Es.nil))) Es.nil (E.cmp .mem (E.var 6) (E.var 3))) Es.nil))) (Ss.cons (S.ret (E.bool false)) Ss.nil) Ss.nil) Ss.nil))) (Ss.cons (S.ret (E.bool true)) Ss.nil)))))
def n_89 : List Str := [(Str.ofString "one"), (Str.ofString "two"), (Str.ofString "value"), (Str.ofString "members"), (Str.ofString "pair"), (Str.ofString "_"), (Str.ofString "other")]
def d_89 : FD := ⟨(Str.ofString "check_within"), 3, n_89, b_89, false⟩
def b_725 : Ss := (Ss.cons (S.ret (E.cmp .eq (E.ix (E.call 724 (Es.cons (E.var 0) (Es.cons (E.var 1) Es.nil))) (E.int 0)) (E.glob (Str.ofString "WITHIN") (D.str (Str.ofString "within"))))) Ss.nil)
def n_725 : List Str := [(Str.ofString "one"), (Str.ofString "two")]
def d_725 : FD := ⟨(Str.ofString "is_within"), 2, n_725, b_725, false⟩
def b_32 : Ss := (Ss.cons (S.ret (E.ix (E.lst (Es.cons (E.int 2) (Es.cons (E.int 2) (Es.cons (E.int 3) (Es.cons (E.int 1) (Es.cons (E.int 3) (Es.cons (E.int 2) (Es.cons (E.int 4) (Es.cons (E.int 3) Es.nil))))))))) (E.call 3 (Es.cons (E.var 0) (Es.cons (E.int 8) Es.nil))))) Ss.nil)
def n_32 : List Str := [(Str.ofString "pool")]
def d_32 : FD := ⟨(Str.ofString "_law_deeds"), 1, n_32, b_32, false⟩
def b_15 : Ss := (Ss.cons (S.asg (Tgt.nm 3) (E.bin .add (E.int 1) (E.call 3 (Es.cons (E.var 0) (Es.cons (E.var 1) Es.nil))))) (Ss.cons (S.ite (E.cmp .eq (E.call 3 (Es.cons (E.var 0) (Es.cons (E.int 3) Es.nil))) (E.int 0)) (Ss.cons (S.asg (Tgt.nm 3) (E.var 1)) Ss.nil) Ss.nil) (Ss.cons (S.asg (Tgt.nm 4) (E.ix (E.lst (Es.cons (E.int 2) (Es.cons (E.int 3) (Es.cons (E.int 5) (Es.cons (E.int 9) Es.nil))))) (E.call 3 (Es.cons (E.var 0) (Es.cons (E.int 4) Es.nil))))) (Ss.cons (S.asg (Tgt.nm 5) (E.tup Es.nil)) (Ss.cons (S.for_ (Tgt.nm 6) (It.range1 (E.var 3)) (Ss.cons (S.asg (Tgt.nm 7) (E.tup Es.nil)) (Ss.cons (S.for_ (Tgt.nm 8) (It.range1 (E.var 2)) (Ss.cons (S.asg (Tgt.nm 9) (E.call 3 (Es.cons (E.var 0) (Es.cons (E.var 3) Es.nil)))) (Ss.cons (S.ite (E.cmp .eq (E.call 3 (Es.cons (E.var 0) (Es.cons (E.var 4) Es.nil))) (E.int 0)) (Ss.cons (S.asg (Tgt.nm 9) (E.neg (E.int 1))) Ss.nil) Ss.nil) (Ss.cons (S.asg (Tgt.nm 7) (E.bin .add (E.var 7) (E.tup (Es.cons (E.var 9) Es.nil)))) Ss.nil)))) (Ss.cons (S.asg (Tgt.nm 5) (E.bin .add (E.var 5) (E.tup (Es.cons (E.var 7) Es.nil)))) Ss.nil)))) (Ss.cons (S.asg (Tgt.nm 10) (E.bin .add (E.int 2) (E.call 3 (Es.cons (E.var 0) (Es.cons (E.int 2) Es.nil))))) (Ss.cons (S.ret (E.tup (Es.cons (E.var 5) (Es.cons (E.bi .tuple (Es.cons (E.lc [((Str.ofString "state"), 6)] (Tgt.nm 6) (It.range1 (E.var 3)) (Es.cons (E.cmp .eq (E.call 3 (Es.cons (E.var 0) (Es.cons (E.var 10) Es.nil))) (E.int 0)) Es.nil) (E.var 6)) Es.nil)) Es.nil)))) Ss.nil)))))))
def n_15 : List Str := [(Str.ofString "pool"), (Str.ofString "most"), (Str.ofString "deeds"), (Str.ofString "n"), (Str.ofString "bare"), (Str.ofString "rows"), (Str.ofString "state"), (Str.ofString "row"), (Str.ofString "deed"), (Str.ofString "goal"), (Str.ofString "lean")]
def d_15 : FD := ⟨(Str.ofString "_law_plant"), 3, n_15, b_15, false⟩
def b_91 : Ss := (Ss.cons (S.ite (E.and (Es.cons (E.cmp .lt (E.bi .len (Es.cons (E.ix (E.var 1) (E.int 0)) Es.nil)) (E.int 4)) (Es.cons (E.cmp .eq (E.call 3 (Es.cons (E.var 0) (Es.cons (E.int 2) Es.nil))) (E.int 0)) Es.nil))) (Ss.cons (S.asg (Tgt.nm 2) (E.tup Es.nil)) (Ss.cons (S.for_ (Tgt.nm 3) (It.seq (E.ix (E.var 1) (E.int 0))) (Ss.cons (S.asg (Tgt.nm 4) (E.tup Es.nil)) (Ss.cons (S.for_ (Tgt.nm 5) (It.seq (E.var 3)) (Ss.cons (S.ite (E.cmp .eq (E.call 3 (Es.cons (E.var 0) (Es.cons (E.int 4) Es.nil))) (E.int 0)) (Ss.cons (S.asg (Tgt.nm 4) (E.bin .add (E.var 4) (E.tup (Es.cons (E.neg (E.int 1)) Es.nil)))) Ss.nil) (Ss.cons (S.asg (Tgt.nm 4) (E.bin .add (E.var 4) (E.tup (Es.cons (E.var 5) Es.nil)))) Ss.nil)) Ss.nil)) (Ss.cons (S.asg (Tgt.nm 2) (E.bin .add (E.var 2) (E.tup (Es.cons (E.var 4) Es.nil)))) Ss.nil)))) (Ss.cons (S.ret (E.tup (Es.cons (E.var 2) (Es.cons (E.tup Es.nil) Es.nil)))) Ss.nil))) Ss.nil) (Ss.cons (S.ret (E.call 15 (Es.cons (E.var 0) (Es.cons (E.int 3) (Es.cons (E.bi .len (Es.cons (E.ix (E.ix (E.var 1) (E.int 0)) (E.int 0)) Es.nil)) Es.nil))))) Ss.nil))
def n_91 : List Str := [(Str.ofString "pool"), (Str.ofString "plant"), (Str.ofString "rows"), (Str.ofString "row"), (Str.ofString "cut"), (Str.ofString "goal")]
def d_91 : FD := ⟨(Str.ofString "_law_wish"), 2, n_91, b_91, false⟩
def b_33 : Ss := (Ss.cons (S.asg (Tgt.nm 3) (E.tup Es.nil)) (Ss.cons (S.asg (Tgt.nm 4) (E.int 0)) (Ss.cons (S.for_ (Tgt.nm 5) (It.range1 (E.call 3 (Es.cons (E.var 0) (Es.cons (E.bin .add (E.var 2) (E.int 1)) Es.nil)))) (Ss.cons (S.asg (Tgt.nm 6) (E.lc [((Str.ofString "deed"), 7)] (Tgt.nm 7) (It.range1 (E.bi .len (Es.cons (E.ix (E.ix (E.var 1) (E.int 0)) (E.int 0)) Es.nil))) (Es.cons (E.cmp .ge (E.ix (E.ix (E.ix (E.var 1) (E.int 0)) (E.var 4)) (E.var 7)) (E.int 0)) Es.nil) (E.var 7))) (Ss.cons (S.ite (E.cmp .gt (E.bi .len (Es.cons (E.var 6) Es.nil)) (E.int 0)) (Ss.cons (S.asg (Tgt.nm 7) (E.ix (E.var 6) (E.call 3 (Es.cons (E.var 0) (Es.cons (E.bi .len (Es.cons (E.var 6) Es.nil)) Es.nil))))) (Ss.cons (S.asg (Tgt.nm 3) (E.bin .add (E.var 3) (E.tup (Es.cons (E.var 7) Es.nil)))) (Ss.cons (S.asg (Tgt.nm 4) (E.ix (E.ix (E.ix (E.var 1) (E.int 0)) (E.var 4)) (E.var 7))) Ss.nil))) Ss.nil) Ss.nil))) (Ss.cons (S.ret (E.var 3)) Ss.nil))))
def n_33 : List Str := [(Str.ofString "pool"), (Str.ofString "plant"), (Str.ofString "most"), (Str.ofString "course"), (Str.ofString "state"), (Str.ofString "k"), (Str.ofString "open_deeds"), (Str.ofString "deed")]
def d_33 : FD := ⟨(Str.ofString "_law_course"), 3, n_33, b_33, false⟩
def b_34 : Ss := (Ss.cons (S.asg (Tgt.nm 3) (E.tup Es.nil)) (Ss.cons (S.for_ (Tgt.nm 4) (It.range1 (E.call 3 (Es.cons (E.var 0) (Es.cons (E.bin .add (E.var 2) (E.int 1)) Es.nil)))) (Ss.cons (S.asg (Tgt.nm 3) (E.bin .add (E.var 3) (E.tup (Es.cons (E.call 3 (Es.cons (E.var 0) (Es.cons (E.var 1) Es.nil))) Es.nil)))) Ss.nil)) (Ss.cons (S.ret (E.var 3)) Ss.nil)))
def n_34 : List Str := [(Str.ofString "pool"), (Str.ofString "deeds"), (Str.ofString "most"), (Str.ofString "row"), (Str.ofString "k")]
def d_34 : FD := ⟨(Str.ofString "_law_row"), 3, n_34, b_34, false⟩
def b_16 : Ss := (Ss.cons (S.ite (E.isi .bool (E.var 0)) (Ss.cons (S.ret (E.int 1)) Ss.nil) Ss.nil) (Ss.cons (S.ite (E.isi .int (E.var 0)) (Ss.cons (S.ret (E.int 2)) Ss.nil) Ss.nil) (Ss.cons (S.ite (E.isi .str (E.var 0)) (Ss.cons (S.ret (E.int 3)) Ss.nil) Ss.nil) (Ss.cons (S.ite (E.isi .tuple (E.var 0)) (Ss.cons (S.ret (E.int 4)) Ss.nil) Ss.nil) (Ss.cons (S.ite (E.isi .list (E.var 0)) (Ss.cons (S.ret (E.int 5)) Ss.nil) Ss.nil) (Ss.cons (S.ite (E.cmp .is (E.var 0) E.none) (Ss.cons (S.ret (E.int 6)) Ss.nil) Ss.nil) (Ss.cons (S.ret (E.int 0)) Ss.nil)))))))
def n_16 : List Str := [(Str.ofString "x")]
def d_16 : FD := ⟨(Str.ofString "_law_kind"), 1, n_16, b_16, false⟩
def b_17 : Ss := (Ss.cons (S.ite (E.var 1) (Ss.cons (S.ret (E.cmp .is (E.var 0) (E.bool true))) Ss.nil) Ss.nil) (Ss.cons (S.ret (E.cmp .is (E.var 0) (E.bool false))) Ss.nil))
def n_17 : List Str := [(Str.ofString "x"), (Str.ofString "due")]
def d_17 : FD := ⟨(Str.ofString "_law_is"), 2, n_17, b_17, false⟩
def b_18 : Ss := (Ss.cons (S.ret (E.and (Es.cons (E.cmp .eq (E.call 16 (Es.cons (E.var 0) Es.nil)) (E.int 2)) (Es.cons (E.chain .le .le (E.var 1) (E.var 0) (E.var 2)) Es.nil)))) Ss.nil)
def n_18 : List Str := [(Str.ofString "x"), (Str.ofString "low"), (Str.ofString "high")]
def d_18 : FD := ⟨(Str.ofString "_law_int"), 3, n_18, b_18, false⟩
def b_19 : Ss := (Ss.cons (S.ite (E.not (E.isi .tuple (E.var 0))) (Ss.cons (S.ret (E.bool false)) Ss.nil) Ss.nil) (Ss.cons (S.for_ (Tgt.nm 3) (It.seq (E.var 0)) (Ss.cons (S.ite (E.not (E.call 18 (Es.cons (E.var 3) (Es.cons (E.var 1) (Es.cons (E.var 2) Es.nil))))) (Ss.cons (S.ret (E.bool false)) Ss.nil) Ss.nil) Ss.nil)) (Ss.cons (S.ret (E.bool true)) Ss.nil)))
def n_19 : List Str := [(Str.ofString "x"), (Str.ofString "low"), (Str.ofString "high"), (Str.ofString "one")]
def d_19 : FD := ⟨(Str.ofString "_law_ints"), 3, n_19, b_19, false⟩
def b_20 : Ss := (Ss.cons (S.for_ (Tgt.nm 1) (It.range2 (E.int 1) (E.bi .len (Es.cons (E.var 0) Es.nil))) (Ss.cons (S.ite (E.not (E.cmp .lt (E.ix (E.var 0) (E.bin .sub (E.var 1) (E.int 1))) (E.ix (E.var 0) (E.var 1)))) (Ss.cons (S.ret (E.bool false)) Ss.nil) Ss.nil) Ss.nil)) (Ss.cons (S.ret (E.bool true)) Ss.nil))
def n_20 : List Str := [(Str.ofString "x"), (Str.ofString "k")]
def d_20 : FD := ⟨(Str.ofString "_law_up"), 1, n_20, b_20, false⟩
def b_92 : Ss := (Ss.cons (S.ite (E.not (E.isi .tuple (E.var 0))) (Ss.cons (S.ret (E.bool false)) Ss.nil) Ss.nil) (Ss.cons (S.for_ (Tgt.nm 4) (It.seq (E.var 0)) (Ss.cons (S.ite (E.or (Es.cons (E.not (E.call 19 (Es.cons (E.var 4) (Es.cons (E.var 2) (Es.cons (E.var 3) Es.nil))))) (Es.cons (E.cmp .ne (E.bi .len (Es.cons (E.var 4) Es.nil)) (E.var 1)) Es.nil))) (Ss.cons (S.ret (E.bool false)) Ss.nil) Ss.nil) Ss.nil)) (Ss.cons (S.ret (E.call 20 (Es.cons (E.var 0) Es.nil))) Ss.nil)))
def n_92 : List Str := [(Str.ofString "x"), (Str.ofString "size"), (Str.ofString "low"), (Str.ofString "high"), (Str.ofString "row")]
def d_92 : FD := ⟨(Str.ofString "_law_tuples"), 4, n_92, b_92, false⟩
def b_65 : Ss := (Ss.cons (S.ret (E.and (Es.cons (E.isi .tuple (E.var 0)) (Es.cons (E.cmp .eq (E.bi .len (Es.cons (E.var 0) Es.nil)) (E.var 2)) (Es.cons (E.isi .str (E.ix (E.var 0) (E.int 0))) (Es.cons (E.cmp .eq (E.ix (E.var 0) (E.int 0)) (E.var 1)) Es.nil)))))) Ss.nil)
def n_65 : List Str := [(Str.ofString "x"), (Str.ofString "word"), (Str.ofString "size")]
def d_65 : FD := ⟨(Str.ofString "_law_tag"), 3, n_65, b_65, false⟩
def b_36 : Ss := (Ss.cons (S.asg (Tgt.nm 2) (E.int 0)) (Ss.cons (S.for_ (Tgt.nm 3) (It.seq (E.var 1)) (Ss.cons (S.ite (E.cmp .ge (E.var 2) (E.int 0)) (Ss.cons (S.asg (Tgt.nm 2) (E.ix (E.ix (E.ix (E.var 0) (E.int 0)) (E.var 2)) (E.var 3))) Ss.nil) Ss.nil) Ss.nil)) (Ss.cons (S.ret (E.var 2)) Ss.nil)))
def n_36 : List Str := [(Str.ofString "plant"), (Str.ofString "course"), (Str.ofString "state"), (Str.ofString "deed")]
def d_36 : FD := ⟨(Str.ofString "_law_after"), 2, n_36, b_36, false⟩
def b_23 : Ss := (Ss.cons (S.ite (E.isi .tuple (E.var 1)) (Ss.cons (S.asg (Tgt.nm 2) (E.call 3 (Es.cons (E.var 0) (Es.cons (E.int 10) Es.nil)))) (Ss.cons (S.ite (E.or (Es.cons (E.cmp .eq (E.bi .len (Es.cons (E.var 1) Es.nil)) (E.int 0)) (Es.cons (E.cmp .eq (E.var 2) (E.int 0)) Es.nil))) (Ss.cons (S.ret (E.bin .add (E.var 1) (E.tup (Es.cons (E.ix (E.lst (Es.cons (E.int 0) (Es.cons (E.int 1) (Es.cons (E.tup Es.nil) (Es.cons (E.tup (Es.cons (E.int 0) (Es.cons (E.int 0) Es.nil))) Es.nil))))) (E.call 3 (Es.cons (E.var 0) (Es.cons (E.int 4) Es.nil)))) Es.nil)))) Ss.nil) Ss.nil) (Ss.cons (S.asg (Tgt.nm 3) (E.call 3 (Es.cons (E.var 0) (Es.cons (E.bi .len (Es.cons (E.var 1) Es.nil)) Es.nil)))) (Ss.cons (S.ite (E.cmp .eq (E.var 2) (E.int 1)) (Ss.cons (S.ret (E.bin .add (E.slU (E.var 1) (E.var 3)) (E.slL (E.var 1) (E.bin .add (E.var 3) (E.int 1))))) Ss.nil) Ss.nil) (Ss.cons (S.ite (E.and (Es.cons (E.cmp .eq (E.var 2) (E.int 2)) (Es.cons (E.cmp .eq (E.call 3 (Es.cons (E.var 0) (Es.cons (E.int 3) Es.nil))) (E.int 0)) Es.nil))) (Ss.cons (S.ret (E.bf .list (Es.cons (E.var 1) Es.nil))) Ss.nil) Ss.nil) (Ss.cons (S.ite (E.cmp .eq (E.var 2) (E.int 3)) (Ss.cons (S.ret (E.bin .add (E.bin .add (E.slU (E.var 1) (E.var 3)) (E.tup (Es.cons (E.ix (E.var 1) (E.var 3)) Es.nil))) (E.slL (E.var 1) (E.var 3)))) Ss.nil) Ss.nil) (Ss.cons (S.ite (E.and (Es.cons (E.cmp .eq (E.var 2) (E.int 4)) (Es.cons (E.cmp .gt (E.bi .len (Es.cons (E.var 1) Es.nil)) (E.int 1)) Es.nil))) (Ss.cons (S.asg (Tgt.nm 4) (E.bin .mod (E.bin .add (E.var 3) (E.int 1)) (E.bi .len (Es.cons (E.var 1) Es.nil)))) (Ss.cons (S.asg (Tgt.nm 5) (E.bi .min (Es.cons (E.var 3) (Es.cons (E.var 4) Es.nil)))) (Ss.cons (S.asg (Tgt.nm 6) (E.bi .max (Es.cons (E.var 3) (Es.cons (E.var 4) Es.nil)))) (Ss.cons (S.ret (E.bin .add (E.bin .add (E.bin .add (E.bin .add (E.slU (E.var 1) (E.var 5)) (E.tup (Es.cons (E.ix (E.var 1) (E.var 6)) Es.nil))) (E.slLU (E.var 1) (E.bin .add (E.var 5) (E.int 1)) (E.var 6))) (E.tup (Es.cons (E.ix (E.var 1) (E.var 5)) Es.nil))) (E.slL (E.var 1) (E.bin .add (E.var 6) (E.int 1))))) Ss.nil)))) Ss.nil) (Ss.cons (S.ret (E.bin .add (E.bin .add (E.slU (E.var 1) (E.var 3)) (E.tup (Es.cons (E.call 23 (Es.cons (E.var 0) (Es.cons (E.ix (E.var 1) (E.var 3)) Es.nil))) Es.nil))) (E.slL (E.var 1) (E.bin .add (E.var 3) (E.int 1))))) Ss.nil)))))))) Ss.nil) (Ss.cons (S.ite (E.isi .str (E.var 1)) (Ss.cons (S.ret (E.ix (E.lst (Es.cons (E.bin .add (E.var 1) (E.str (Str.ofString "x"))) (Es.cons (E.str (Str.ofString "")) (Es.cons (E.upper (E.var 1)) (Es.cons E.none (Es.cons (E.int 0) Es.nil)))))) (E.call 3 (Es.cons (E.var 0) (Es.cons (E.int 5) Es.nil))))) Ss.nil) Ss.nil) (Ss.cons (S.ite (E.cmp .eq (E.call 16 (Es.cons (E.var 1) Es.nil)) (E.int 2)) (Ss.cons (S.ret (E.ix (E.lst (Es.cons (E.bin .add (E.var 1) (E.int 1)) (Es.cons (E.bin .sub (E.var 1) (E.int 1)) (Es.cons (E.bin .add (E.var 1) (E.int 1)) (Es.cons (E.bin .sub (E.var 1) (E.int 1)) (Es.cons (E.int 0) (Es.cons (E.bin .add (E.var 1) (E.int 16)) (Es.cons (E.bool true) (Es.cons E.none (Es.cons (E.bi .str (Es.cons (E.var 1) Es.nil)) (Es.cons (E.tup (Es.cons (E.var 1) Es.nil)) Es.nil))))))))))) (E.call 3 (Es.cons (E.var 0) (Es.cons (E.int 10) Es.nil))))) Ss.nil) Ss.nil) (Ss.cons (S.ret (E.ix (E.lst (Es.cons (E.int 0) (Es.cons (E.tup Es.nil) (Es.cons (E.bool false) (Es.cons (E.str (Str.ofString "x")) Es.nil))))) (E.call 3 (Es.cons (E.var 0) (Es.cons (E.int 4) Es.nil))))) Ss.nil))))
def n_23 : List Str := [(Str.ofString "pool"), (Str.ofString "value"), (Str.ofString "way"), (Str.ofString "at"), (Str.ofString "other"), (Str.ofString "low"), (Str.ofString "high")]
def d_23 : FD := ⟨(Str.ofString "_law_bent"), 2, n_23, b_23, false⟩
def b_24 : Ss := (Ss.cons (S.own 3 (E.lst (Es.cons (E.var 1) Es.nil))) (Ss.cons (S.for_ (Tgt.nm 4) (It.range1 (E.var 2)) (Ss.cons (S.asg (Tgt.nm 5) (E.call 23 (Es.cons (E.var 0) (Es.cons (E.var 1) Es.nil)))) (Ss.cons (S.ite (E.cmp .eq (E.call 3 (Es.cons (E.var 0) (Es.cons (E.int 5) Es.nil))) (E.int 0)) (Ss.cons (S.asg (Tgt.nm 5) (E.call 23 (Es.cons (E.var 0) (Es.cons (E.var 5) Es.nil)))) Ss.nil) Ss.nil) (Ss.cons (S.app 3 (E.var 5)) Ss.nil)))) (Ss.cons (S.ret (E.bin .add (E.pk 3) (E.lst (Es.cons E.none (Es.cons (E.int 0) (Es.cons (E.bool true) (Es.cons (E.str (Str.ofString "")) (Es.cons (E.tup Es.nil) (Es.cons (E.lst Es.nil) (Es.cons (E.str (Str.ofString "x")) (Es.cons (E.tup (Es.cons (E.int 0) Es.nil)) (Es.cons (E.tup (Es.cons (E.str (Str.ofString "x")) (Es.cons (E.int 1) Es.nil))) (Es.cons (E.var 1) Es.nil))))))))))))) Ss.nil)))
def n_24 : List Str := [(Str.ofString "pool"), (Str.ofString "value"), (Str.ofString "many"), (Str.ofString "rows"), (Str.ofString "k"), (Str.ofString "one")]
def d_24 : FD := ⟨(Str.ofString "_law_bends"), 3, n_24, b_24, false⟩
def b_42 : Ss := (Ss.cons (S.asg (Tgt.nm 2) (E.lst (Es.cons (E.tup Es.nil) Es.nil))) (Ss.cons (S.asg (Tgt.nm 3) (E.lst (Es.cons (E.tup Es.nil) Es.nil))) (Ss.cons (S.for_ (Tgt.nm 4) (It.range1 (E.var 1)) (Ss.cons (S.asg (Tgt.nm 5) (E.lst Es.nil)) (Ss.cons (S.for_ (Tgt.nm 6) (It.seq (E.var 3)) (Ss.cons (S.asg (Tgt.nm 5) (E.bin .add (E.var 5) (E.lc [((Str.ofString "deed"), 7)] (Tgt.nm 7) (It.range1 (E.var 0)) Es.nil (E.bin .add (E.var 6) (E.tup (Es.cons (E.var 7) Es.nil)))))) Ss.nil)) (Ss.cons (S.asg (Tgt.nm 3) (E.var 5)) (Ss.cons (S.asg (Tgt.nm 2) (E.bin .add (E.var 2) (E.var 3))) Ss.nil))))) (Ss.cons (S.ret (E.var 2)) Ss.nil))))
def n_42 : List Str := [(Str.ofString "deeds"), (Str.ofString "length"), (Str.ofString "found"), (Str.ofString "front"), (Str.ofString "k"), (Str.ofString "longer"), (Str.ofString "row"), (Str.ofString "deed")]
def d_42 : FD := ⟨(Str.ofString "_law_all_rows"), 2, n_42, b_42, false⟩
def b_93 : Ss := (Ss.cons (S.asg (Tgt.nm 4) (E.ix (E.ix (E.ix (E.var 0) (E.int 0)) (E.ix (E.var 2) (E.int 0))) (E.var 3))) (Ss.cons (S.asg (Tgt.nm 5) (E.ix (E.ix (E.ix (E.var 1) (E.int 0)) (E.ix (E.var 2) (E.int 1))) (E.var 3))) (Ss.cons (S.ite (E.or (Es.cons (E.cmp .lt (E.var 4) (E.int 0)) (Es.cons (E.cmp .lt (E.var 5) (E.int 0)) Es.nil))) (Ss.cons (S.ret E.none) Ss.nil) Ss.nil) (Ss.cons (S.ret (E.tup (Es.cons (E.var 4) (Es.cons (E.var 5) Es.nil)))) Ss.nil))))
def n_93 : List Str := [(Str.ofString "plant"), (Str.ofString "wish"), (Str.ofString "pair"), (Str.ofString "deed"), (Str.ofString "p"), (Str.ofString "w")]
def d_93 : FD := ⟨(Str.ofString "_law_both_goal"), 4, n_93, b_93, false⟩
def b_94 : Ss := (Ss.cons (S.ret (E.and (Es.cons (E.cmp .ge (E.ix (E.ix (E.ix (E.var 0) (E.int 0)) (E.ix (E.var 2) (E.int 0))) (E.var 3)) (E.int 0)) (Es.cons (E.cmp .lt (E.ix (E.ix (E.ix (E.var 1) (E.int 0)) (E.ix (E.var 2) (E.int 1))) (E.var 3)) (E.int 0)) Es.nil)))) Ss.nil)
def n_94 : List Str := [(Str.ofString "plant"), (Str.ofString "wish"), (Str.ofString "pair"), (Str.ofString "deed")]
def d_94 : FD := ⟨(Str.ofString "_law_out"), 4, n_94, b_94, false⟩
def b_95 : Ss := (Ss.cons (S.ite (E.cmp .notMem (E.tup (Es.cons (E.int 0) (Es.cons (E.int 0) Es.nil))) (E.var 2)) (Ss.cons (S.ret (E.bool false)) Ss.nil) Ss.nil) (Ss.cons (S.for_ (Tgt.nm 3) (It.seq (E.var 2)) (Ss.cons (S.for_ (Tgt.nm 4) (It.range1 (E.bi .len (Es.cons (E.ix (E.ix (E.var 0) (E.int 0)) (E.int 0)) Es.nil))) (Ss.cons (S.asg (Tgt.nm 5) (E.call 93 (Es.cons (E.var 0) (Es.cons (E.var 1) (Es.cons (E.var 3) (Es.cons (E.var 4) Es.nil)))))) (Ss.cons (S.ite (E.and (Es.cons (E.cmp .isNot (E.var 5) E.none) (Es.cons (E.cmp .notMem (E.var 5) (E.var 2)) Es.nil))) (Ss.cons (S.ret (E.bool false)) Ss.nil) Ss.nil) Ss.nil))) Ss.nil)) (Ss.cons (S.ret (E.bool true)) Ss.nil)))
def n_95 : List Str := [(Str.ofString "one"), (Str.ofString "two"), (Str.ofString "rows"), (Str.ofString "pair"), (Str.ofString "deed"), (Str.ofString "goal")]
def d_95 : FD := ⟨(Str.ofString "_law_pairs_closed"), 3, n_95, b_95, false⟩
def b_96 : Ss := (Ss.cons (S.ite (E.not (E.call 92 (Es.cons (E.var 2) (Es.cons (E.int 2) (Es.cons (E.int 0) (Es.cons (E.int 15) Es.nil)))))) (Ss.cons (S.ret (E.bool false)) Ss.nil) Ss.nil) (Ss.cons (S.ret (E.cmp .eq (E.bi .len (Es.cons (E.lc [((Str.ofString "a"), 3), ((Str.ofString "b"), 4)] (Tgt.tp (Tgt.nm 3) (Tgt.nm 4)) (It.seq (E.var 2)) (Es.cons (E.or (Es.cons (E.cmp .ge (E.var 3) (E.bi .len (Es.cons (E.ix (E.var 0) (E.int 0)) Es.nil))) (Es.cons (E.cmp .ge (E.var 4) (E.bi .len (Es.cons (E.ix (E.var 1) (E.int 0)) Es.nil))) Es.nil))) Es.nil) (E.int 1)) Es.nil)) (E.int 0))) Ss.nil))
def n_96 : List Str := [(Str.ofString "one"), (Str.ofString "two"), (Str.ofString "x"), (Str.ofString "a"), (Str.ofString "b")]
def d_96 : FD := ⟨(Str.ofString "_law_pair_rows"), 3, n_96, b_96, false⟩
def b_97 : Ss := (Ss.cons (S.asg (Tgt.nm 3) (E.bi .len (Es.cons (E.ix (E.ix (E.var 0) (E.int 0)) (E.int 0)) Es.nil))) (Ss.cons (S.ite (E.call 65 (Es.cons (E.var 2) (Es.cons (E.str (Str.ofString "course")) (Es.cons (E.int 2) Es.nil)))) (Ss.cons (S.ret (E.and (Es.cons (E.call 19 (Es.cons (E.ix (E.var 2) (E.int 1)) (Es.cons (E.int 0) (Es.cons (E.bin .sub (E.var 3) (E.int 1)) Es.nil)))) (Es.cons (E.cmp .ge (E.call 36 (Es.cons (E.var 0) (Es.cons (E.ix (E.var 2) (E.int 1)) Es.nil))) (E.int 0)) (Es.cons (E.cmp .lt (E.call 36 (Es.cons (E.var 1) (Es.cons (E.ix (E.var 2) (E.int 1)) Es.nil))) (E.int 0)) Es.nil))))) Ss.nil) Ss.nil) (Ss.cons (S.ite (E.or (Es.cons (E.not (E.call 65 (Es.cons (E.var 2) (Es.cons (E.str (Str.ofString "within")) (Es.cons (E.int 2) Es.nil))))) (Es.cons (E.not (E.call 96 (Es.cons (E.var 0) (Es.cons (E.var 1) (Es.cons (E.ix (E.var 2) (E.int 1)) Es.nil))))) Es.nil))) (Ss.cons (S.ret (E.bool false)) Ss.nil) Ss.nil) (Ss.cons (S.for_ (Tgt.nm 4) (It.seq (E.ix (E.var 2) (E.int 1))) (Ss.cons (S.for_ (Tgt.nm 5) (It.range1 (E.var 3)) (Ss.cons (S.ite (E.call 94 (Es.cons (E.var 0) (Es.cons (E.var 1) (Es.cons (E.var 4) (Es.cons (E.var 5) Es.nil))))) (Ss.cons (S.ret (E.bool false)) Ss.nil) Ss.nil) Ss.nil)) Ss.nil)) (Ss.cons (S.ret (E.call 95 (Es.cons (E.var 0) (Es.cons (E.var 1) (Es.cons (E.ix (E.var 2) (E.int 1)) Es.nil))))) Ss.nil)))))
def n_97 : List Str := [(Str.ofString "one"), (Str.ofString "two"), (Str.ofString "x"), (Str.ofString "deeds"), (Str.ofString "pair"), (Str.ofString "deed")]
def d_97 : FD := ⟨(Str.ofString "_law_within_right"), 3, n_97, b_97, false⟩
def lawN : List Str := [(Str.ofString "script"), (Str.ofString "pool"), (Str.ofString "deeds"), (Str.ofString "one"), (Str.ofString "two"), (Str.ofString "way"), (Str.ofString "paper"), (Str.ofString "everything"), (Str.ofString "a"), (Str.ofString "rows"), (Str.ofString "pairs"), (Str.ofString "b"), (Str.ofString "value"), (Str.ofString "shorter"), (Str.ofString "row")]
def lawB : Ss := (Ss.cons (S.asg (Tgt.nm 2) (E.call 32 (Es.cons (E.var 1) Es.nil))) (Ss.cons (S.asg (Tgt.nm 3) (E.call 15 (Es.cons (E.var 1) (Es.cons (E.int 4) (Es.cons (E.var 2) Es.nil))))) (Ss.cons (S.asg (Tgt.nm 4) (E.call 15 (Es.cons (E.var 1) (Es.cons (E.int 4) (Es.cons (E.var 2) Es.nil))))) (Ss.cons (S.asg (Tgt.nm 5) (E.call 3 (Es.cons (E.var 1) (Es.cons (E.int 4) Es.nil)))) (Ss.cons (S.ite (E.cmp .eq (E.var 5) (E.int 0)) (Ss.cons (S.asg (Tgt.nm 4) (E.var 3)) Ss.nil) Ss.nil) (Ss.cons (S.ite (E.cmp .eq (E.var 5) (E.int 1)) (Ss.cons (S.asg (Tgt.nm 4) (E.call 91 (Es.cons (E.var 1) (Es.cons (E.var 3) Es.nil)))) Ss.nil) Ss.nil) (Ss.cons (S.ite (E.cmp .eq (E.var 5) (E.int 2)) (Ss.cons (S.asg (Tgt.nm 4) (E.var 3)) (Ss.cons (S.asg (Tgt.nm 3) (E.call 91 (Es.cons (E.var 1) (Es.cons (E.var 3) Es.nil)))) Ss.nil)) Ss.nil) (Ss.cons (S.asg (Tgt.nm 6) (E.call 724 (Es.cons (E.var 3) (Es.cons (E.var 4) Es.nil)))) (Ss.cons (S.ite (E.or (Es.cons (E.not (E.call 97 (Es.cons (E.var 3) (Es.cons (E.var 4) (Es.cons (E.var 6) Es.nil))))) (Es.cons (E.not (E.call 17 (Es.cons (E.call 725 (Es.cons (E.var 3) (Es.cons (E.var 4) Es.nil))) (Es.cons (E.cmp .eq (E.ix (E.var 6) (E.int 0)) (E.str (Str.ofString "within"))) Es.nil)))) Es.nil))) (Ss.cons (S.ret (E.bool false)) Ss.nil) Ss.nil) (Ss.cons (S.asg (Tgt.nm 7) (E.bi .tuple (Es.cons (E.lc [((Str.ofString "a"), 8)] (Tgt.nm 8) (It.range1 (E.bi .len (Es.cons (E.ix (E.var 3) (E.int 0)) Es.nil))) Es.nil (E.tup (Es.cons (E.var 8) (Es.cons (E.int 0) Es.nil)))) Es.nil))) (Ss.cons (S.own 9 (E.l2 true (E.call 24 (Es.cons (E.var 1) (Es.cons (E.var 6) (Es.cons (E.int 14) Es.nil)))) (E.lst (Es.cons (E.tup (Es.cons (E.str (Str.ofString "course")) (Es.cons (E.call 33 (Es.cons (E.var 1) (Es.cons (E.var 3) (Es.cons (E.int 6) Es.nil)))) Es.nil))) (Es.cons (E.tup (Es.cons (E.str (Str.ofString "course")) (Es.cons (E.call 34 (Es.cons (E.var 1) (Es.cons (E.var 2) (Es.cons (E.int 3) Es.nil)))) Es.nil))) (Es.cons (E.tup (Es.cons (E.str (Str.ofString "within")) (Es.cons (E.var 7) Es.nil))) Es.nil)))))) (Ss.cons (S.asg (Tgt.nm 10) (E.lst Es.nil)) (Ss.cons (S.for_ (Tgt.nm 8) (It.range1 (E.bi .len (Es.cons (E.ix (E.var 3) (E.int 0)) Es.nil))) (Ss.cons (S.asg (Tgt.nm 10) (E.bin .add (E.var 10) (E.lc [((Str.ofString "b"), 11)] (Tgt.nm 11) (It.range1 (E.bi .len (Es.cons (E.ix (E.var 4) (E.int 0)) Es.nil))) Es.nil (E.tup (Es.cons (E.var 8) (Es.cons (E.var 11) Es.nil)))))) Ss.nil)) (Ss.cons (S.app 9 (E.tup (Es.cons (E.str (Str.ofString "within")) (Es.cons (E.bi .tuple (Es.cons (E.var 10) Es.nil)) Es.nil)))) (Ss.frz 9 (Ss.cons (S.for_ (Tgt.nm 12) (It.seq (E.var 9)) (Ss.cons (S.ite (E.not (E.call 17 (Es.cons (E.call 89 (Es.cons (E.var 3) (Es.cons (E.var 4) (Es.cons (E.var 12) Es.nil)))) (Es.cons (E.call 97 (Es.cons (E.var 3) (Es.cons (E.var 4) (Es.cons (E.var 12) Es.nil)))) Es.nil)))) (Ss.cons (S.ret (E.bool false)) Ss.nil) Ss.nil) Ss.nil)) (Ss.cons (S.ite (E.cmp .eq (E.ix (E.var 6) (E.int 0)) (E.str (Str.ofString "course"))) (Ss.cons (S.asg (Tgt.nm 13) (E.lc [((Str.ofString "row"), 14)] (Tgt.nm 14) (It.seq (E.call 42 (Es.cons (E.var 2) (Es.cons (E.bi .min (Es.cons (E.int 3) (Es.cons (E.bin .sub (E.bi .len (Es.cons (E.ix (E.var 6) (E.int 1)) Es.nil)) (E.int 1)) Es.nil))) Es.nil)))) (Es.cons (E.and (Es.cons (E.cmp .ge (E.call 36 (Es.cons (E.var 3) (Es.cons (E.var 14) Es.nil))) (E.int 0)) (Es.cons (E.cmp .lt (E.call 36 (Es.cons (E.var 4) (Es.cons (E.var 14) Es.nil))) (E.int 0)) Es.nil))) Es.nil) (E.var 14))) (Ss.cons (S.ret (E.cmp .eq (E.bi .len (Es.cons (E.var 13) Es.nil)) (E.int 0))) Ss.nil)) Ss.nil) (Ss.cons (S.ret (E.bool true)) Ss.nil))))))))))))))))))
def tab (rows : List Int) : Tab := [
  (4, .defn d_4),
  (5, .defn d_5),
  (6, .defn d_6),
  (7, .defn d_7),
  (57, .defn d_57),
  (8, .defn d_8),
  (9, .defn d_9),
  (83, .defn d_83),
  (26, .defn d_26),
  (27, .defn d_27),
  (28, .defn d_28),
  (705, .primC roadsC),
  (702, .defn d_702),
  (711, .defn d_711),
  (68, .defn d_68),
  (84, .defn d_84),
  (85, .defn d_85),
  (724, .defn d_724),
  (87, .defn d_87),
  (88, .defn d_88),
  (89, .defn d_89),
  (725, .defn d_725),
  (3, .prim (drawC rows)),
  (32, .defn d_32),
  (15, .defn d_15),
  (91, .defn d_91),
  (33, .defn d_33),
  (34, .defn d_34),
  (16, .defn d_16),
  (17, .defn d_17),
  (18, .defn d_18),
  (19, .defn d_19),
  (20, .defn d_20),
  (92, .defn d_92),
  (65, .defn d_65),
  (36, .defn d_36),
  (23, .defn d_23),
  (24, .defn d_24),
  (42, .defn d_42),
  (93, .defn d_93),
  (94, .defn d_94),
  (95, .defn d_95),
  (96, .defn d_96),
  (97, .defn d_97),
  (726, .defn d_726)]
theorem tab_4 {rows : List Int} : (tab rows).lookup 4 = some (.defn d_4) := rfl
theorem tab_5 {rows : List Int} : (tab rows).lookup 5 = some (.defn d_5) := rfl
theorem tab_6 {rows : List Int} : (tab rows).lookup 6 = some (.defn d_6) := rfl
theorem tab_7 {rows : List Int} : (tab rows).lookup 7 = some (.defn d_7) := rfl
theorem tab_57 {rows : List Int} : (tab rows).lookup 57 = some (.defn d_57) := rfl
theorem tab_8 {rows : List Int} : (tab rows).lookup 8 = some (.defn d_8) := rfl
theorem tab_9 {rows : List Int} : (tab rows).lookup 9 = some (.defn d_9) := rfl
theorem tab_83 {rows : List Int} : (tab rows).lookup 83 = some (.defn d_83) := rfl
theorem tab_26 {rows : List Int} : (tab rows).lookup 26 = some (.defn d_26) := rfl
theorem tab_27 {rows : List Int} : (tab rows).lookup 27 = some (.defn d_27) := rfl
theorem tab_28 {rows : List Int} : (tab rows).lookup 28 = some (.defn d_28) := rfl
theorem tab_705 {rows : List Int} : (tab rows).lookup 705 = some (.primC roadsC) := rfl
theorem tab_702 {rows : List Int} : (tab rows).lookup 702 = some (.defn d_702) := rfl
theorem tab_711 {rows : List Int} : (tab rows).lookup 711 = some (.defn d_711) := rfl
theorem tab_68 {rows : List Int} : (tab rows).lookup 68 = some (.defn d_68) := rfl
theorem tab_84 {rows : List Int} : (tab rows).lookup 84 = some (.defn d_84) := rfl
theorem tab_85 {rows : List Int} : (tab rows).lookup 85 = some (.defn d_85) := rfl
theorem tab_724 {rows : List Int} : (tab rows).lookup 724 = some (.defn d_724) := rfl
theorem tab_87 {rows : List Int} : (tab rows).lookup 87 = some (.defn d_87) := rfl
theorem tab_88 {rows : List Int} : (tab rows).lookup 88 = some (.defn d_88) := rfl
theorem tab_89 {rows : List Int} : (tab rows).lookup 89 = some (.defn d_89) := rfl
theorem tab_725 {rows : List Int} : (tab rows).lookup 725 = some (.defn d_725) := rfl
theorem tab_3 {rows : List Int} : (tab rows).lookup 3 = some (.prim (drawC rows)) := rfl
theorem tab_32 {rows : List Int} : (tab rows).lookup 32 = some (.defn d_32) := rfl
theorem tab_15 {rows : List Int} : (tab rows).lookup 15 = some (.defn d_15) := rfl
theorem tab_91 {rows : List Int} : (tab rows).lookup 91 = some (.defn d_91) := rfl
theorem tab_33 {rows : List Int} : (tab rows).lookup 33 = some (.defn d_33) := rfl
theorem tab_34 {rows : List Int} : (tab rows).lookup 34 = some (.defn d_34) := rfl
theorem tab_16 {rows : List Int} : (tab rows).lookup 16 = some (.defn d_16) := rfl
theorem tab_17 {rows : List Int} : (tab rows).lookup 17 = some (.defn d_17) := rfl
theorem tab_18 {rows : List Int} : (tab rows).lookup 18 = some (.defn d_18) := rfl
theorem tab_19 {rows : List Int} : (tab rows).lookup 19 = some (.defn d_19) := rfl
theorem tab_20 {rows : List Int} : (tab rows).lookup 20 = some (.defn d_20) := rfl
theorem tab_92 {rows : List Int} : (tab rows).lookup 92 = some (.defn d_92) := rfl
theorem tab_65 {rows : List Int} : (tab rows).lookup 65 = some (.defn d_65) := rfl
theorem tab_36 {rows : List Int} : (tab rows).lookup 36 = some (.defn d_36) := rfl
theorem tab_23 {rows : List Int} : (tab rows).lookup 23 = some (.defn d_23) := rfl
theorem tab_24 {rows : List Int} : (tab rows).lookup 24 = some (.defn d_24) := rfl
theorem tab_42 {rows : List Int} : (tab rows).lookup 42 = some (.defn d_42) := rfl
theorem tab_93 {rows : List Int} : (tab rows).lookup 93 = some (.defn d_93) := rfl
theorem tab_94 {rows : List Int} : (tab rows).lookup 94 = some (.defn d_94) := rfl
theorem tab_95 {rows : List Int} : (tab rows).lookup 95 = some (.defn d_95) := rfl
theorem tab_96 {rows : List Int} : (tab rows).lookup 96 = some (.defn d_96) := rfl
theorem tab_97 {rows : List Int} : (tab rows).lookup 97 = some (.defn d_97) := rfl
theorem tab_726 {rows : List Int} : (tab rows).lookup 726 = some (.defn d_726) := rfl
/-! ### base: data, small data, loops that check -/
section
variable {rows : List Int} {k n : Nat} {Q : D → Nat → Prop} {d : D}
@[simp] theorem ex_not {a : Bool} {P : Bool → Prop} : (∃ b, a = !b ∧ P b) ↔ P (!a) :=
  ⟨fun ⟨b, h, q⟩ => by subst h; simpa using q, fun q => ⟨!a, by simp, q⟩⟩
@[simp] theorem ex_not' {a : Bool} {P : Bool → Prop} : (∃ b, (!b) = a ∧ P b) ↔ P (!a) :=
  ⟨fun ⟨b, h, q⟩ => by subst h; simpa using q, fun q => ⟨!a, by simp, q⟩⟩
@[simp] theorem atI_c0 {x : D} {xs : List D} : atI (x :: xs) 0 = some x := atI_nat (j := 0) rfl
@[simp] theorem atI_c1 {x y : D} {xs : List D} : atI (x :: y :: xs) 1 = some y := atI_nat (j := 1) rfl
def lenD' : D → Nat
  | .tup xs => xs.length
  | .lst xs => xs.length
  | _ => 0
/-- eyes as lists of ints -/
def tupI (is : List Int) : D := .tup (is.map .int)
def tupII (es : List (List Int)) : D := .tup (es.map tupI)
def isIntD : D → Bool
  | .int _ => true
  | _ => false
def isTupD : D → Bool
  | .tup _ => true
  | _ => false
def intOf : D → Int
  | .int i => i
  | _ => 0
def numIn (d : D) (lo hi : Int) : Bool := match d with
  | .int i => decide (lo ≤ i) && decide (i ≤ hi)
  | _ => false
theorem datas_mem : ∀ {xs : List D} {x : D}, D.datas xs = true → x ∈ xs → x.data = true
  | y :: ys, x, h, m => by
    have h := Bool.and_eq_true_iff.mp h
    rcases List.mem_cons.mp m with rfl | m
    · exact h.1
    · exact datas_mem h.2 m
theorem datas_of : ∀ {xs : List D}, (∀ x ∈ xs, x.data = true) → D.datas xs = true
  | [], _ => rfl
  | y :: ys, h => Bool.and_eq_true_iff.mpr ⟨h y List.mem_cons_self, datas_of fun x m => h x (List.mem_cons_of_mem _ m)⟩
@[simp] theorem boolsD_mapf {α : Type} (l : List α) (p : α → Bool) : boolsD (l.map fun i => .bool (p i)) = some (l.map p) := by
  induction l with
  | nil => rfl
  | cons a l ih => simp [boolsD, ih]
@[simp] theorem intsD_map' {α : Type} (l : List α) (p : α → Int) : intsD (l.map fun i => .int (p i)) = some (l.map p) := by
  induction l with
  | nil => rfl
  | cons a l ih => simp [intsD, ih]
@[simp] theorem all_id {α : Type} (l : List α) (p : α → Bool) : (l.map p).all id = l.all p := by
  rw [List.all_map]; rfl
@[simp] theorem any_id {α : Type} (l : List α) (p : α → Bool) : (l.map p).any id = l.any p := by
  rw [List.any_map]; rfl
/-- a comprehension over mapped items -/
theorem lcGo_map {α : Type} {body : D → M (Option D)} {g : α → D} (f : α → D) : ∀ {l : List α}, (∀ a ∈ l, body (g a) n = some (some (f a), n)) → lcGo body (l.map g) n = some (l.map f, n)
  | [], _ => rfl
  | a :: l, h => by
    show (body (g a) >>= _) n = _
    rw [M.bind_ap, h a List.mem_cons_self]
    show (lcGo body (l.map g) >>= _) n = _
    rw [M.bind_ap, lcGo_map f fun a' ha => h a' (List.mem_cons_of_mem _ ha)]
    rfl
/-- a comprehension that takes some of mapped items -/
theorem lcGo_pick {α : Type} {n : Nat} {body : D → M (Option D)} {g : α → D} (p : α → Bool) (f : α → D) : ∀ {l : List α}, (∀ a ∈ l, body (g a) n = some (if p a = true then some (f a) else none, n)) → lcGo body (l.map g) n = some ((l.filter p).map f, n)
  | [], _ => rfl
  | a :: l, h => by
    show (body (g a) >>= _) n = _
    rw [M.bind_ap, h a List.mem_cons_self]
    show (lcGo body (l.map g) >>= _) n = _
    rw [M.bind_ap, lcGo_pick p f fun a' ha => h a' (List.mem_cons_of_mem _ ha)]
    rw [List.filter_cons]
    cases p a <;> rfl
theorem wp_pick {α : Type} {n : Nat} {body : D → M (Option D)} {g : α → D} {Q : List D → Nat → Prop} (p : α → Bool) (f : α → D) {l : List α} (h : ∀ a ∈ l, wp (body (g a)) n fun r m => r = (if p a = true then some (f a) else none) ∧ m = n) (q : Q ((l.filter p).map f) n) : wp (lcGo body (l.map g)) n Q :=
  wp_of (lcGo_pick p f fun a ha => wp_out (h a ha)) q
theorem wp_mapped {α : Type} {n : Nat} {body : D → M (Option D)} {g : α → D} {Q : List D → Nat → Prop} (f : α → D) {l : List α} (h : ∀ a ∈ l, wp (body (g a)) n fun r m => r = some (f a) ∧ m = n) (q : Q (l.map f) n) : wp (lcGo body (l.map g)) n Q :=
  wp_of (lcGo_map f fun a ha => wp_out (h a ha)) q
theorem mul_tup1 {x : D} {m : Nat} (h : 1 ≤ m) (h2 : m ≤ 1000000) : binD .mul (.tup [x]) (.int m) = some (.tup (List.replicate m x)) := by
  simp only [binD, mulD]
  by_cases h1 : (m : Int) = 1
  · have : m = 1 := by omega
    subst this
    rfl
  · rw [if_neg h1]
    have e : (List.replicate (m : Int).toNat [x]).flatten = List.replicate m x := by
      rw [Int.toNat_natCast]
      clear h h2 h1
      induction m with
      | zero => rfl
      | succ m ih => rw [List.replicate_succ, List.flatten_cons, ih, List.replicate_succ]; rfl
    rw [e]
    have : 2 ≤ (m : Int) := by omega
    have h3 : m ≤ 1000000 := by omega
    simp [this, h3]
/-- a comprehension over a range -/
theorem wp_lc_range {body : D → M (Option D)} {lo : Int} {m : Nat} {Q : List D → Nat → Prop} (f : Nat → D) (h : ∀ i, i < m → wp (body (.int (lo + i))) n fun r m' => r = some (f i) ∧ m' = n) (q : Q ((List.range m).map f) n) : wp (lcGo body (rangeD lo m)) n Q := by
  refine wp_lc_map (fun d => f ((intOf d - lo).toNat)) (fun d hd => ?_) ?_
  · simp only [rangeD, List.mem_map, List.mem_range] at hd
    obtain ⟨i, hi, rfl⟩ := hd
    have : (intOf (.int (lo + i)) - lo).toNat = i := by simp only [intOf]; omega
    rw [this]
    exact h i hi
  · have e : (rangeD lo m).map (fun d => f ((intOf d - lo).toNat)) = (List.range m).map f := by
      simp only [rangeD, List.map_map]
      refine List.map_congr_left fun i _ => ?_
      have : (intOf (.int (lo + i)) - lo).toNat = i := by simp only [intOf]; omega
      simp only [Function.comp, this]
    rw [e]; exact q
/-- a loop that leaves at the first item that fails -/
theorem wp_for_all {ρ : Rho} {fb : D → Rho → M Out} {ds : List D} {Q : Out → Nat → Prop} (p : D → Bool) (R : Rho → Prop) (r : D) (h0 : R ρ)
    (turn : ∀ d ρ, d ∈ ds → R ρ → wp (fb d ρ) n fun o m => m = n ∧ if p d = true then ∃ ρ', (o = .nx ρ' ∨ o = .ct ρ') ∧ R ρ' else o = .rt r)
    (ht : ds.all p = true → ∀ ρ, R ρ → Q (.nx ρ) n) (hf : ds.all p = false → Q (.rt r) n) : wp (forGo fb ds ρ) n Q := by
  refine wp_for (I := fun i ρ m => m = n ∧ R ρ ∧ (ds.take i).all p = true) ⟨rfl, h0, by simp⟩ ?_ ?_
  · rintro i d ρ m hd ⟨rfl, hR, ha⟩
    have hm : d ∈ ds := List.mem_of_getElem? hd
    refine (turn d ρ hm hR).mono fun o m' ⟨e, h⟩ => ?_
    subst e
    have hlt : i < ds.length := (List.getElem?_eq_some_iff.mp hd).1
    have hde : ds[i] = d := (List.getElem?_eq_some_iff.mp hd).2
    by_cases hp : p d = true
    · rw [if_pos hp] at h
      obtain ⟨ρ', h, hR'⟩ := h
      have hn : (ds.take (i + 1)).all p = true := by
        rw [List.take_add_one, List.all_append, ha, hd]
        simp [hp]
      rcases h with rfl | rfl
      · exact ⟨rfl, hR', hn⟩
      · exact ⟨rfl, hR', hn⟩
    · rw [if_neg hp] at h
      subst h
      refine hf ?_
      rw [Bool.eq_false_iff]
      intro z
      exact hp (List.all_eq_true.mp z d hm)
  · rintro ρ m ⟨rfl, hR, ha⟩
    rw [List.take_length] at ha
    exact ht ha ρ hR
/-- .. over a range -/
theorem wp_for_all_range {ρ : Rho} {fb : D → Rho → M Out} {lo : Int} {m : Nat} {Q : Out → Nat → Prop} (p : Nat → Bool) (R : Rho → Prop) (r : D) (h0 : R ρ)
    (turn : ∀ i ρ, i < m → R ρ → wp (fb (.int (lo + i)) ρ) n fun o m => m = n ∧ if p i = true then ∃ ρ', (o = .nx ρ' ∨ o = .ct ρ') ∧ R ρ' else o = .rt r)
    (ht : (List.range m).all p = true → ∀ ρ, R ρ → Q (.nx ρ) n) (hf : (List.range m).all p = false → Q (.rt r) n) : wp (forGo fb (rangeD lo m) ρ) n Q := by
  have e : (rangeD lo m).all (fun d => p ((intOf d - lo).toNat)) = (List.range m).all p := by
    simp only [rangeD, List.all_map]
    congr 1
    funext i
    have : (intOf (.int (lo + i)) - lo).toNat = i := by simp only [intOf]; omega
    simp only [Function.comp, this]
  refine wp_for_all (fun d => p ((intOf d - lo).toNat)) R r h0 (fun d ρ hd hR => ?_) (by rw [e]; exact ht) (by rw [e]; exact hf)
  simp only [rangeD, List.mem_map, List.mem_range] at hd
  obtain ⟨i, hi, rfl⟩ := hd
  have : (intOf (.int (lo + i)) - lo).toNat = i := by simp only [intOf]; omega
  rw [this]
  exact turn i ρ hi hR
/-- small data: depth at most e, lengths, ints, texts at most t -/
def Sm (t : Nat) : Nat → D → Prop
  | _, .none => True
  | _, .bool _ => True
  | _, .int i => i.natAbs ≤ t
  | _, .str s => s.length ≤ t
  | e + 1, .tup xs => xs.length ≤ t ∧ ∀ x ∈ xs, Sm t e x
  | e + 1, .lst xs => xs.length ≤ t ∧ ∀ x ∈ xs, Sm t e x
  | _, _ => False
@[simp] theorem sm_none {t e : Nat} : Sm t e .none = True := by cases e <;> rfl
@[simp] theorem sm_bool {t e : Nat} {b : Bool} : Sm t e (.bool b) = True := by cases e <;> rfl
@[simp] theorem sm_int {t e : Nat} {i : Int} : Sm t e (.int i) = (i.natAbs ≤ t) := by cases e <;> rfl
@[simp] theorem sm_str {t e : Nat} {s : Str} : Sm t e (.str s) = (s.length ≤ t) := by cases e <;> rfl
@[simp] theorem sm_tup {t e : Nat} {xs : List D} : Sm t (e + 1) (.tup xs) = (xs.length ≤ t ∧ ∀ x ∈ xs, Sm t e x) := rfl
@[simp] theorem sm_lst {t e : Nat} {xs : List D} : Sm t (e + 1) (.lst xs) = (xs.length ≤ t ∧ ∀ x ∈ xs, Sm t e x) := rfl
@[simp] theorem sm_tup0 {t : Nat} {xs : List D} : Sm t 0 (.tup xs) = False := rfl
@[simp] theorem sm_lst0 {t : Nat} {xs : List D} : Sm t 0 (.lst xs) = False := rfl
@[simp] theorem sm_pool {t e : Nat} : Sm t e .pool = False := by cases e <;> rfl
@[simp] theorem sm_scr {t e : Nat} {ns : List Int} : Sm t e (.scr ns) = False := by cases e <;> rfl
@[simp] theorem sm_dict {t e : Nat} {a b : List D} : Sm t e (.dict a b) = False := by cases e <;> rfl
@[simp] theorem sm_clo {t e c : Nat} {a : List D} : Sm t e (.clo c a) = False := by cases e <;> rfl
@[simp] theorem sm_obj {t e c : Nat} {a : List Str} {b : List D} : Sm t e (.obj c a b) = False := by cases e <;> rfl
theorem Sm.mono {t t' : Nat} (ht : t ≤ t') : ∀ {e e' : Nat} {d : D}, e ≤ e' → Sm t e d → Sm t' e' d
  | e, e', .none, _, _ => by simp
  | e, e', .bool _, _, _ => by simp
  | e, e', .int _, _, h => by simp at h ⊢; omega
  | e, e', .str _, _, h => by simp at h ⊢; omega
  | 0, e', .tup _, _, h => h.elim
  | 0, e', .lst _, _, h => h.elim
  | e + 1, 0, .tup _, he, h => by omega
  | e + 1, 0, .lst _, he, h => by omega
  | e + 1, e' + 1, .tup xs, he, h => by
    simp at h ⊢
    exact ⟨by omega, fun x hx => Sm.mono ht (by omega) (h.2 x hx)⟩
  | e + 1, e' + 1, .lst xs, he, h => by
    simp at h ⊢
    exact ⟨by omega, fun x hx => Sm.mono ht (by omega) (h.2 x hx)⟩
  | e, e', .pool, _, h => by simp at h
  | e, e', .scr _, _, h => by simp at h
  | e, e', .dict _ _, _, h => by cases e <;> exact h.elim
  | e, e', .clo _ _, _, h => by cases e <;> exact h.elim
  | e, e', .obj _ _ _, _, h => by cases e <;> exact h.elim
theorem Sm.data {t : Nat} : ∀ {e : Nat} {d : D}, Sm t e d → d.data = true
  | e, .none, _ => rfl
  | e, .bool _, _ => rfl
  | e, .int _, _ => rfl
  | e, .str _, _ => rfl
  | 0, .tup _, h => h.elim
  | 0, .lst _, h => h.elim
  | e + 1, .tup xs, h => datas_of fun x hx => Sm.data (h.2 x hx)
  | e + 1, .lst xs, h => datas_of fun x hx => Sm.data (h.2 x hx)
  | e, .pool, h => by simp at h
  | e, .scr _, h => by simp at h
  | e, .dict _ _, h => by cases e <;> exact h.elim
  | e, .clo _ _, h => by cases e <;> exact h.elim
  | e, .obj _ _ _, h => by cases e <;> exact h.elim
theorem mem_cutD {xs : List D} {lo hi : Option Int} {x : D} (h : x ∈ cutD xs lo hi) : x ∈ xs := List.mem_of_mem_drop (List.mem_of_mem_take h)
theorem cutD_le {xs : List D} {lo hi : Option Int} : (cutD xs lo hi).length ≤ xs.length := by
  unfold cutD
  rw [List.length_take, List.length_drop]
  omega
theorem atI_mem {xs : List D} {i : Int} (h0 : 0 ≤ i) (h1 : i < xs.length) : ∃ x, atI xs i = some x ∧ x ∈ xs := by
  obtain ⟨j, rfl⟩ : ∃ j : Nat, i = j := ⟨i.toNat, by omega⟩
  have hj : j < xs.length := by omega
  exact ⟨xs[j], atI_ok hj, List.getElem_mem hj⟩
theorem draw_ix {xs : List D} {i : Int} {Q : D → Prop} (h0 : 0 ≤ i) (h1 : i < xs.length) (h : ∀ x ∈ xs, Q x) : Ex1 (atI xs i) Q := by
  obtain ⟨x, e, m⟩ := atI_mem h0 h1
  exact ex1_of e (h x m)
theorem drawI_bd {m : Int} (h : 0 < m) : 0 ≤ drawI rows n m ∧ drawI rows n m < m := fmod_bound h
theorem wp_drawC {m : Int} : wp (drawC rows [.pool, .int m]) n Q ↔ (0 < m ∧ 0 < rows.length ∧ rows.length < 1073741824 ∧ n < 1152921504606846976) ∧ Q (.int (drawI rows n m)) (n + 1) := by
  constructor
  · rintro ⟨a, n', e, q⟩
    unfold drawC at e
    simp only at e
    split at e
    · cases e
      exact ⟨by assumption, q⟩
    · cases e
  · rintro ⟨h, q⟩
    refine ⟨_, _, ?_, q⟩
    unfold drawC
    simp only
    rw [if_pos h]
theorem digits_len (b : Nat) : ∀ (f n : Nat) (ds : List Char), (Nat.toDigitsCore b f n ds).length ≤ f + ds.length
  | 0, n, ds => by simp [Nat.toDigitsCore]
  | f + 1, n, ds => by
    unfold Nat.toDigitsCore
    simp only
    split
    · simp; omega
    · have := digits_len b f (n / b) (Nat.digitChar (n % b) :: ds)
      simp at this
      omega
end

section
theorem le_int {a b : Int} : leD' (.int a) (.int b) = decide (a ≤ b) := by
  show (!PySem.W.dataLt (.int b) (.int a)) = _
  rw [PySem.W.dataLt_int]
  by_cases h : b < a
  · have : ¬ a ≤ b := by omega
    simp [h, this]
  · have : a ≤ b := by omega
    simp [h, this]
theorem sort_ints {is js : List Int} (hl : is.length ≤ 16777216) (hp : is.Perm js) (hs : js.Pairwise (· ≤ ·)) : Bf.op .sorted [.lst (is.map .int)] = some (js.map .int) := by
  have e1 : (is.mergeSort fun a b => decide (a ≤ b)) = js := by
    have h1 := List.mergeSort_perm is fun a b => decide (a ≤ b)
    have h2 : (is.mergeSort fun a b => decide (a ≤ b)).Pairwise fun a b => decide (a ≤ b) = true := List.pairwise_mergeSort (fun a b c h h' => by simp at *; omega) (fun a b => by simp; omega) is
    refine List.Perm.eq_of_pairwise (le := fun a b : Int => a ≤ b) (fun a b _ _ h h' => by omega) (h2.imp fun h => by simpa using h) hs (h1.trans hp)
  have e2 : sortD (is.map .int) = js.map .int := by
    unfold sortD
    rw [← e1]
    have h : ∀ a ∈ is, ∀ b ∈ is, (fun a b : Int => decide (a ≤ b)) a b = leD' (D.int a) (D.int b) := fun a _ b _ => le_int.symm
    exact (List.map_mergeSort (f := D.int) h).symm
  have c1 : (is.map D.int).all okD = true := by
    rw [List.all_map]
    exact List.all_eq_true.mpr fun x _ => rfl
  have c2 : alikeAllB ((is.map D.int).map D.py) = true := by
    unfold alikeAllB
    refine List.all_eq_true.mpr fun x hx => List.all_eq_true.mpr fun y hy => ?_
    simp only [List.mem_map] at hx hy
    obtain ⟨_, ⟨a, _, rfl⟩, rfl⟩ := hx
    obtain ⟨_, ⟨b, _, rfl⟩, rfl⟩ := hy
    simp [D.py, PySem.W.alike]
  have c3 : sortable ((is.map D.int).map D.py) = true := by
    unfold sortable
    rw [Bool.or_eq_true]
    right
    refine List.all_eq_true.mpr fun x hx => ?_
    simp only [List.mem_map] at hx
    obtain ⟨_, ⟨a, _, rfl⟩, rfl⟩ := hx
    rfl
  simp only [Bf.op, sortedA, sortedD, c1, c2, c3, Bool.and_self, Bool.true_and, List.length_map, decide_eq_true_eq]
  rw [if_pos hl, e2]
theorem okD_ints {is : List Int} : okD (.tup (is.map .int)) = true := by
  have h1 : D.data (.tup (is.map .int)) = true := datas_of fun x hx => by
    obtain ⟨i, _, rfl⟩ := List.mem_map.mp hx
    rfl
  have h2 : ∀ l : List Int, PyData.canLayAll0 (D.pys (l.map .int)) = true ∧ PyData.depthAll (D.pys (l.map .int)) ≤ 0 := by
    intro l
    induction l with
    | nil => exact ⟨rfl, Nat.le_refl _⟩
    | cons a l ih =>
      refine ⟨?_, ?_⟩
      · simp only [List.map_cons, D.pys, PyData.canLayAll0, ih.1, D.py, PyData.canLay0, Bool.and_self]
      · simp only [List.map_cons, D.pys, PyData.depthAll, D.py, PyData.depth]
        have := ih.2
        omega
  unfold okD
  rw [h1]
  simp only [Bool.true_and, SeqAt.shaped, D.py, PyData.canLay0, (h2 is).1, PyData.depth, decide_eq_true_eq]
  have := (h2 is).2
  omega
theorem any_ints {is : List Int} {i : Int} : ((D.pys (is.map .int)).any fun z => PyData.eqv z (D.py (.int i))) = decide (i ∈ is) := by
  induction is with
  | nil => simp [D.pys]
  | cons a l ih =>
    have e : D.py (.int i) = PyData.int i := rfl
    have e' : D.py (.int a) = PyData.int a := rfl
    rw [e] at ih ⊢
    simp only [List.map_cons, D.pys, List.any_cons, ih, e', PyData.eqv, List.mem_cons]
    by_cases h : a = i
    · subst h; simp
    · have h' : ¬ i = a := fun e => h e.symm
      simp [h, h']
@[simp] theorem mem_ints {is : List Int} {i : Int} : cmpD .mem (.int i) (.tup (is.map .int)) = some (decide (i ∈ is)) := by
  simp only [cmpD, inD]
  rw [okD_int, okD_ints]
  simp only [Bool.and_self, if_true]
  rw [any_ints]
@[simp] theorem notMem_ints {is : List Int} {i : Int} : cmpD .notMem (.int i) (.tup (is.map .int)) = some (!decide (i ∈ is)) := by
  have h := @mem_ints is i
  simp only [cmpD] at h ⊢
  rw [h]; rfl
end

/-! ### rows of ints, sorted; ascending rows -/
section
variable {rows : List Int} {k n : Nat} {Q : D → Nat → Prop} {d : D}
theorem lexLt_dec : ∀ {a b : List Int}, HT.lexLt a b = decide (a < b)
  | [], [] => by simp [HT.lexLt]
  | [], y :: b => by simp [HT.lexLt]
  | x :: a, [] => by simp [HT.lexLt]
  | x :: a, y :: b => by
    rw [HT.lexLt_cons, lexLt_dec (a := a) (b := b)]
    by_cases h : x = y
    · subst h
      simp [List.cons_lt_cons_iff]
    · simp [List.cons_lt_cons_iff, h]
theorem lt_rows {a b : List Int} : cmpD .lt (tupI a) (tupI b) = some (decide (a < b)) := by
  show ltD (.tup (a.map .int)) (.tup (b.map .int)) = _
  simp only [ltD, intsD_ints, lexLt_dec]
theorem pys_ints : ∀ {a : List Int}, D.pys (a.map .int) = a.map PyData.int
  | [] => rfl
  | x :: a => by simp only [List.map_cons, D.pys, pys_ints, D.py]
theorem le_rows {a b : List Int} : leD' (tupI a) (tupI b) = !decide (b < a) := by
  show (!PySem.W.dataLt (.tuple (D.pys (b.map .int))) (.tuple (D.pys (a.map .int)))) = _
  rw [pys_ints, pys_ints, PySem.W.dataLt_tuple]
  have := PySem.W.dataLt_ints b a
  unfold PySem.W.rowLt at this
  rw [this]
def sortR (rs : List (List Int)) : List (List Int) := rs.mergeSort fun a b => !decide (b < a)
theorem alikeR : ∀ (a b : List Int), PySem.W.alikeAll (D.pys (a.map .int)) (D.pys (b.map .int)) = true
  | [], b => by simp [D.pys, PySem.W.alikeAll]
  | x :: a, [] => by simp [D.pys, PySem.W.alikeAll]
  | x :: a, y :: b => by simp [D.pys, D.py, PySem.W.alikeAll, PySem.W.alike, alikeR a b]
theorem sorted_rows {rs : List (List Int)} (hl : rs.length ≤ 16777216) : Bf.op .sorted [.lst (rs.map tupI)] = some ((sortR rs).map tupI) := by
  have c1 : (rs.map tupI).all okD = true := by
    rw [List.all_map]
    exact List.all_eq_true.mpr fun c _ => okD_ints
  have c2 : alikeAllB ((rs.map tupI).map D.py) = true := by
    unfold alikeAllB
    refine List.all_eq_true.mpr fun x hx => List.all_eq_true.mpr fun y hy => ?_
    simp only [List.mem_map] at hx hy
    obtain ⟨_, ⟨a, _, rfl⟩, rfl⟩ := hx
    obtain ⟨_, ⟨b, _, rfl⟩, rfl⟩ := hy
    simp only [tupI, D.py, PySem.W.alike]
    exact alikeR a b
  have c3 : sortable ((rs.map tupI).map D.py) = true := by
    unfold sortable
    rw [Bool.or_eq_true]
    left
    refine List.all_eq_true.mpr fun x hx => ?_
    simp only [List.mem_map] at hx
    obtain ⟨_, ⟨a, _, rfl⟩, rfl⟩ := hx
    rfl
  simp only [Bf.op, sortedA, sortedD, c1, c2, c3, Bool.and_self, Bool.true_and, List.length_map, decide_eq_true_eq]
  rw [if_pos hl]
  congr 1
  exact (List.map_mergeSort (f := tupI) fun a _ b _ => le_rows.symm).symm
theorem sortR_perm {rs : List (List Int)} : (sortR rs).Perm rs := List.mergeSort_perm _ _
theorem sortR_up {rs : List (List Int)} (h : rs.Nodup) : (sortR rs).Pairwise (· < ·) := by
  have h2 : (sortR rs).Pairwise fun a b => (!decide (b < a)) = true := List.pairwise_mergeSort (fun a b c h h' => by
    simp only [Bool.not_eq_true', decide_eq_false_iff_not, List.not_lt] at *
    exact List.le_trans h h') (fun a b => by
    simp only [Bool.or_eq_true, Bool.not_eq_true', decide_eq_false_iff_not, List.not_lt]
    exact List.le_total a b) rs
  have hn : (sortR rs).Nodup := sortR_perm.nodup_iff.mpr h
  refine (List.pairwise_and_iff.mpr ⟨h2, hn⟩).imp fun {a b} ⟨q1, q2⟩ => ?_
  simp only [Bool.not_eq_true', decide_eq_false_iff_not, List.not_lt] at q1
  rcases List.le_iff_lt_or_eq.mp q1 with q | q
  · exact q
  · exact absurd q q2
def upR (rs : List (List Int)) : Bool := (List.range (rs.length - 1)).all fun i => decide (rs.getD i [] < rs.getD (i + 1) [])
theorem upR_of {rs : List (List Int)} (h : rs.Pairwise (· < ·)) : upR rs = true := by
  unfold upR
  rw [List.all_eq_true]
  intro i hi
  rw [List.mem_range] at hi
  have h1 : i < rs.length := by omega
  have h2 : i + 1 < rs.length := by omega
  have := List.pairwise_iff_getElem.mp h i (i + 1) h1 h2 (by omega)
  simp only [List.getD_eq_getElem?_getD, List.getElem?_eq_getElem h1, List.getElem?_eq_getElem h2, Option.getD_some]
  exact decide_eq_true this
theorem atI_row {rs : List (List Int)} {i : Nat} (hi : i < rs.length) : atI (rs.map tupI) (i : Int) = some (tupI (rs.getD i [])) := by
  refine atI_nat (j := i) ?_
  rw [List.getElem?_map, List.getElem?_eq_getElem hi, List.getD_eq_getElem?_getD, List.getElem?_eq_getElem hi]
  rfl
end

section
variable {rows : List Int} {k n : Nat} {Q : D → Nat → Prop} {d : D}
structure RowsSm (n dd : Nat) (rs : List (List Int)) : Prop where
  len : rs.length = n
  row : ∀ r ∈ rs, r.length = dd
  bd : ∀ r ∈ rs, ∀ i ∈ r, -1 ≤ i ∧ i ≤ 40
theorem rowSm {r : List Int} (h : ∀ i ∈ r, -1 ≤ i ∧ i ≤ 40) (hd : r.length ≤ 40) : Sm 40 1 (tupI r) := by
  refine ⟨by simpa using hd, fun y hy => ?_⟩
  obtain ⟨i, hi, rfl⟩ := List.mem_map.mp hy
  have := h i hi
  simp
  omega
theorem RowsSm.sm {n dd : Nat} {rs : List (List Int)} (h : RowsSm n dd rs) (hn : n ≤ 40) (hd : dd ≤ 40) : Sm 40 2 (tupII rs) := by
  refine ⟨by simp [h.len]; omega, fun x hx => ?_⟩
  obtain ⟨e, he, rfl⟩ := List.mem_map.mp hx
  exact rowSm (h.bd e he) (by rw [h.row e he]; exact hd)
/-- some of the numbers below N, by draws -/
theorem pick_sm {N c : Nat} {ρ : Rho} {body : D → M (Option D)} {Q : List D → Nat → Prop} (hN : N ≤ 40) (hb : ∀ i n', i < N → n' ≤ n + i → wp (body (.int ((0 : Int) + (i : Nat)))) n' fun r m => (r = some (.int i) ∨ r = none) ∧ m = n' + 1)
    (h : ∀ es : List Int, es.length ≤ N → (∀ i ∈ es, -1 ≤ i ∧ i ≤ 40) → Q (es.map .int) (n + N)) : wp (lcGo body (rangeD 0 N)) n Q := by
  refine wp_lcGo (I := fun i acc n' => n' = n + i ∧ ∃ es : List Int, acc = es.map .int ∧ es.length ≤ i ∧ ∀ x ∈ es, -1 ≤ x ∧ x ≤ 40) ⟨rfl, [], rfl, by simp, by simp⟩ ?_ ?_
  · rintro i d acc n' hd ⟨rfl, es, rfl, hl, he⟩
    obtain ⟨hi, rfl⟩ := range_get.mp hd
    refine (hb i (n + i) hi (by omega)).mono fun r m ⟨hr, hm⟩ => ?_
    rcases hr with rfl | rfl
    · refine ⟨by omega, es ++ [(i : Int)], by simp, by simp; omega, fun x hx => ?_⟩
      rcases List.mem_append.mp hx with hx | hx
      · exact he x hx
      · simp at hx; subst hx; omega
    · exact ⟨by omega, es, by simp, by omega, he⟩
  · rintro rs n' ⟨rfl, es, rfl, hl, he⟩
    simp at hl
    simpa using h es hl he
end

/-! ### plants as data -/
section
variable {rows : List Int} {k n : Nat} {Q : D → Nat → Prop} {d : D}
def plantD (rs : List (List Int)) (es : List Int) : D := .tup [tupII rs, tupI es]
def tupN (l : List Nat) : D := .tup (l.map fun i => .int (i : Nat))
structure IsPl (N dd : Nat) (rs : List (List Int)) (es : List Int) : Prop where
  len : rs.length = N
  row : ∀ r ∈ rs, r.length = dd
  bd : ∀ r ∈ rs, ∀ g ∈ r, -1 ≤ g ∧ g < N
  up : es.Pairwise (· < ·)
  eb : ∀ e ∈ es, 0 ≤ e ∧ e < N
structure RowsPl (i N dd : Nat) (rs : List (List Int)) : Prop where
  len : rs.length = i
  row : ∀ r ∈ rs, r.length = dd
  bd : ∀ r ∈ rs, ∀ g ∈ r, -1 ≤ g ∧ g < N
theorem RowsPl.add {i N dd : Nat} {rs : List (List Int)} {r : List Int} (h : RowsPl i N dd rs) (hl : r.length = dd) (hb : ∀ g ∈ r, -1 ≤ g ∧ g < N) : RowsPl (i + 1) N dd (rs ++ [r]) := by
  refine ⟨by simp [h.len], fun e he => ?_, fun e he => ?_⟩
  · rcases List.mem_append.mp he with he | he
    · exact h.row e he
    · simp at he; subst he; exact hl
  · rcases List.mem_append.mp he with he | he
    · exact h.bd e he
    · simp at he; subst he; exact hb
theorem IsPl.sm {N dd : Nat} {rs : List (List Int)} {es : List Int} (h : IsPl N dd rs es) (hN : N ≤ 40) (hd : dd ≤ 40) : Sm 40 3 (plantD rs es) := by
  have hel : es.length ≤ N := by
    have : ∀ (l : List Int) (m : Int), l.Pairwise (· < ·) → (∀ e ∈ l, m ≤ e ∧ e < N) → (l.length : Int) ≤ max 0 (N - m) := by
      intro l
      induction l with
      | nil => intro m _ _; simp; omega
      | cons a l ih =>
        intro m hp hb
        rw [List.pairwise_cons] at hp
        have q := ih (a + 1) hp.2 fun e he => ⟨by have := hp.1 e he; omega, (hb e (List.mem_cons_of_mem _ he)).2⟩
        have := hb a List.mem_cons_self
        simp only [List.length_cons]
        omega
    have := this es 0 h.up h.eb
    omega
  have hr : RowsSm N dd rs := ⟨h.len, h.row, fun r hr i hi => by have := h.bd r hr i hi; omega⟩
  refine ⟨by simp, fun x hx => ?_⟩
  simp at hx
  rcases hx with rfl | rfl
  · exact hr.sm hN hd
  · exact (rowSm (fun i hi => by have := h.eb i hi; omega) (by omega)).mono (Nat.le_refl _) (by decide)
/-- some of the numbers below N, ascending, by draws -/
theorem pick_up {N : Nat} {body : D → M (Option D)} {Q : List D → Nat → Prop} (hb : ∀ i n', i < N → n' ≤ n + i → wp (body (.int ((0 : Int) + (i : Nat)))) n' fun r m => (r = some (.int i) ∨ r = none) ∧ m = n' + 1)
    (h : ∀ es : List Int, es.Pairwise (· < ·) → (∀ i ∈ es, 0 ≤ i ∧ i < N) → Q (es.map .int) (n + N)) : wp (lcGo body (rangeD 0 N)) n Q := by
  refine wp_lcGo (I := fun i acc n' => n' = n + i ∧ ∃ es : List Int, acc = es.map .int ∧ es.Pairwise (· < ·) ∧ ∀ x ∈ es, 0 ≤ x ∧ x < i) ⟨rfl, [], rfl, by simp, by simp⟩ ?_ ?_
  · rintro i d acc n' hd ⟨rfl, es, rfl, hl, he⟩
    obtain ⟨hi, rfl⟩ := range_get.mp hd
    refine (hb i (n + i) hi (by omega)).mono fun r m ⟨hr, hm⟩ => ?_
    rcases hr with rfl | rfl
    · refine ⟨by omega, es ++ [(i : Int)], by simp, ?_, fun x hx => ?_⟩
      · rw [List.pairwise_append]
        refine ⟨hl, by simp, fun a ha b hb => ?_⟩
        simp at hb
        subst hb
        exact (he a ha).2
      · rcases List.mem_append.mp hx with hx | hx
        · have := he x hx; omega
        · simp at hx; subst hx; omega
    · exact ⟨by omega, es, by simp, hl, fun x hx => by have := he x hx; omega⟩
  · rintro rs n' ⟨rfl, es, rfl, hl, he⟩
    simp at he
    simpa using h es hl he
def rowOf (rs : List (List Int)) (s : Nat) : List Int := rs.getD s []
def cAt (c : List Int) (j : Nat) : Int := c.getD j 0
/-- where a deed leads -/
def goal (rs : List (List Int)) (s j : Nat) : Int := (rowOf rs s).getD j (-1)
/-- the deeds that can be done -/
def doR (r : List Int) : List Nat := (List.range r.length).filter fun j => r.getD j (-1) != -1
def aft (rs : List (List Int)) : Nat → List Nat → Option Nat
  | s, [] => some s
  | s, j :: c => if goal rs s j = -1 then none else aft rs (goal rs s j).toNat c
section
variable {N dd : Nat} {rs : List (List Int)} {es : List Int}
theorem IsPl.getRow (h : IsPl N dd rs es) {s : Nat} (hs : s < N) : rowOf rs s ∈ rs := by
  unfold rowOf
  rw [List.getD_eq_getElem?_getD, List.getElem?_eq_getElem (by rw [h.len]; exact hs)]
  exact List.getElem_mem _
theorem IsPl.rowLen (h : IsPl N dd rs es) {s : Nat} (hs : s < N) : (rowOf rs s).length = dd := h.row _ (h.getRow hs)
theorem IsPl.goalBd (h : IsPl N dd rs es) {s j : Nat} (hs : s < N) (hj : j < dd) : -1 ≤ goal rs s j ∧ goal rs s j < N := by
  refine h.bd _ (h.getRow hs) _ ?_
  unfold goal
  rw [List.getD_eq_getElem?_getD (l := rowOf rs s), List.getElem?_eq_getElem (by rw [h.rowLen hs]; exact hj)]
  exact List.getElem_mem _
theorem ix_tupII {s : Nat} (hs : s < rs.length) : ixD (tupII rs) (.int (s : Nat)) = some (tupI (rowOf rs s)) := by
  unfold rowOf
  show atI (rs.map tupI) (s : Int) = _
  refine atI_nat (j := s) ?_
  rw [List.getElem?_map, List.getElem?_eq_getElem hs, List.getD_eq_getElem?_getD, List.getElem?_eq_getElem hs]
  rfl
theorem ix_tupI {r : List Int} {j : Nat} (hj : j < r.length) (z : Int) : ixD (tupI r) (.int (j : Nat)) = some (.int (r.getD j z)) := by
  show atI (r.map D.int) (j : Int) = _
  refine atI_nat (j := j) ?_
  rw [List.getElem?_map, List.getElem?_eq_getElem hj, List.getD_eq_getElem?_getD, List.getElem?_eq_getElem hj]
  rfl
theorem enum_map {α : Type} {f : α → D} {z : α} : ∀ {l : List α} {k : Nat}, enumGo k (l.map f) = (List.range l.length).map fun j => .tup [.int ((k + j : Nat) : Int), f (l.getD j z)]
  | [], _ => rfl
  | a :: l, k => by
    rw [List.map_cons, enumGo, enum_map (l := l) (k := k + 1) (z := z), List.length_cons, List.range_succ_eq_map, List.map_cons, List.map_map]
    congr 1
    refine List.map_congr_left fun j _ => ?_
    simp only [Function.comp]
    rw [show k + 1 + j = k + (j + 1) by omega]
    rfl
theorem enum_ints {c : List Int} : enumGo 0 (c.map D.int) = (List.range c.length).map fun j => .tup [.int (j : Nat), .int (cAt c j)] := by
  rw [enum_map (z := 0)]
  simp only [Nat.zero_add]
  rfl
theorem getI {acc : List Int} {N j : Nat} (hl : acc.length = N) (hj : j < N) : (acc.map D.int)[j]? = some (.int (cAt acc j)) := by
  unfold cAt
  rw [List.getElem?_map, List.getElem?_eq_getElem (by omega), List.getD_eq_getElem?_getD, List.getElem?_eq_getElem (by omega)]
  rfl
theorem setR_int {ρ : Rho} {i : Nat} {ds : List D} {k : Int} {d : D} (h : ρ[i]? = some (.own (.lst ds))) (h0 : 0 ≤ k) (h1 : k < ds.length) : setR ρ i (.int k) d = some (ρ.set i (.own (.lst (ds.set k.toNat d)))) := by
  unfold setR ixN
  rw [h]
  simp only [h0, if_true]
  rw [if_pos h1]
  rfl
theorem setRA_int {ρ : Rho} {i : Nat} {ds : List D} {k : Int} {d : D} (h : ρ[i]? = some (.own (.lst ds))) (h0 : 0 ≤ k) (h1 : k < ds.length) : setRA ρ i (.int k) d = some (ρ.set i (.own (.lst (ds.set k.toNat d)))) := by
  rw [setRA_lst h]
  exact setR_int h h0 h1
theorem mul_lst1 {x : D} {m : Nat} (h : m ≤ 1000) : binD .mul (.lst [x]) (.int m) = some (.lst (List.replicate m x)) := by
  have e : repLD (.lst [x]) (.int m) = some (List.replicate m x) := repLD_one h
  have e2 : binD .mul (.lst [x]) (.int m) = (repLD (.lst [x]) (.int m)).map D.lst := by
    show (if decide ((0 : Int) ≤ m) && decide ((m : Int) ≤ 1000) && decide ([x].length ≤ 1000) then some (D.lst (List.replicate (m : Int).toNat [x]).flatten) else none) = (if decide ((0 : Int) ≤ m) && decide ((m : Int) ≤ 1000) && decide ([x].length ≤ 1000) then some (List.replicate (m : Int).toNat [x]).flatten else none).map D.lst
    split <;> rfl
  rw [e2, e]
  rfl
theorem getD_mapRange {α : Type} {z : α} {l : List α} : (List.range l.length).map (fun j => l.getD j z) = l := by
  refine List.ext_getElem (by simp) fun i h1 h2 => ?_
  simp at h1
  simp [h1]
theorem filter_range {α : Type} {z : α} {l : List α} (p : α → Bool) : ((List.range l.length).filter fun j => p (l.getD j z)).map (fun j => l.getD j z) = l.filter p := by
  conv => rhs; rw [← getD_mapRange (l := l) (z := z)]
  rw [List.filter_map]
  rfl
theorem range_some {N j j' : Nat} : (List.range N)[j]? = some j' ↔ j < N ∧ j' = j := by
  rw [List.getElem?_eq_some_iff]
  simp
  intro _
  exact eq_comm
theorem mem_doR {r : List Int} {j : Nat} : j ∈ doR r ↔ j < r.length ∧ r.getD j (-1) ≠ -1 := by
  unfold doR
  rw [List.mem_filter, List.mem_range]
  simp
/-- all rows of k deeds, in order -/
def rowsL (dd : Nat) : Nat → List (List Nat)
  | 0 => [[]]
  | k + 1 => (rowsL dd k).flatMap fun c => (List.range dd).map fun j => c ++ [j]
theorem rowsL_len {dd : Nat} : ∀ {k : Nat}, (rowsL dd k).length = dd ^ k
  | 0 => rfl
  | k + 1 => by
    simp only [rowsL, List.length_flatMap, List.length_map, List.length_range]
    rw [List.map_const', List.sum_replicate_nat, rowsL_len, Nat.pow_succ]
theorem rowsL_mem {dd : Nat} : ∀ {k : Nat} {c : List Nat}, c ∈ rowsL dd k → c.length = k ∧ ∀ j ∈ c, j < dd
  | 0, c, h => by simp [rowsL] at h; subst h; simp
  | k + 1, c, h => by
    simp only [rowsL, List.mem_flatMap, List.mem_map, List.mem_range] at h
    obtain ⟨c', hc', j, hj, rfl⟩ := h
    obtain ⟨h1, h2⟩ := rowsL_mem hc'
    refine ⟨by simp [h1], fun i hi => ?_⟩
    rcases List.mem_append.mp hi with hi | hi
    · exact h2 i hi
    · simp at hi; omega
def foundL (dd k : Nat) : List (List Nat) := (List.range (k + 1)).flatMap (rowsL dd)
theorem foundL_succ {dd k : Nat} : foundL dd (k + 1) = foundL dd k ++ rowsL dd (k + 1) := by
  unfold foundL
  rw [List.range_succ (n := k + 1), List.flatMap_append]
  simp
def lstN (ls : List (List Nat)) : D := .lst (ls.map tupN)
theorem alike_nats : ∀ (a b : List Nat), PySem.W.alikeAll (D.pys (a.map fun i => .int (i : Nat))) (D.pys (b.map fun i => .int (i : Nat))) = true
  | [], b => by simp [D.pys, PySem.W.alikeAll]
  | x :: a, [] => by simp [D.pys, PySem.W.alikeAll]
  | x :: a, y :: b => by simp [D.pys, D.py, PySem.W.alikeAll, PySem.W.alike, alike_nats a b]
theorem okD_tupN {c : List Nat} : okD (tupN c) = true := by
  have e : tupN c = .tup ((c.map fun i : Nat => (i : Int)).map .int) := by simp [tupN]
  rw [e]
  exact okD_ints
theorem sorted_tups {ls : List (List Nat)} (hl : ls.length ≤ 16777216) : Bf.op .sorted [lstN ls] = some (sortD (ls.map tupN)) := by
  have c1 : (ls.map tupN).all okD = true := by
    rw [List.all_map]
    exact List.all_eq_true.mpr fun c _ => okD_tupN
  have c2 : alikeAllB ((ls.map tupN).map D.py) = true := by
    unfold alikeAllB
    refine List.all_eq_true.mpr fun x hx => List.all_eq_true.mpr fun y hy => ?_
    simp only [List.mem_map] at hx hy
    obtain ⟨_, ⟨a, _, rfl⟩, rfl⟩ := hx
    obtain ⟨_, ⟨b, _, rfl⟩, rfl⟩ := hy
    simp only [tupN, D.py, PySem.W.alike]
    exact alike_nats a b
  have c3 : sortable ((ls.map tupN).map D.py) = true := by
    unfold sortable
    rw [Bool.or_eq_true]
    left
    refine List.all_eq_true.mpr fun x hx => ?_
    simp only [List.mem_map] at hx
    obtain ⟨_, ⟨a, _, rfl⟩, rfl⟩ := hx
    rfl
  simp only [Bf.op, lstN, sortedA, sortedD, c1, c2, c3, Bool.and_self, Bool.true_and, List.length_map, decide_eq_true_eq]
  rw [if_pos hl]
/-- a slot that can be looked at -/
def Seen (x : Sl) (d : D) : Prop := x = .own d ∨ x = .val d
theorem okD_lst {is : List Int} : okD (.lst (is.map .int)) = true := by
  have h1 : D.data (.lst (is.map .int)) = true := datas_of fun x hx => by
    obtain ⟨i, _, rfl⟩ := List.mem_map.mp hx
    rfl
  have h2 : ∀ l : List Int, PyData.canLayAll0 (D.pys (l.map .int)) = true ∧ PyData.depthAll (D.pys (l.map .int)) ≤ 0 := by
    intro l
    induction l with
    | nil => exact ⟨rfl, Nat.le_refl _⟩
    | cons a l ih =>
      refine ⟨?_, ?_⟩
      · simp only [List.map_cons, D.pys, PyData.canLayAll0, ih.1, D.py, PyData.canLay0, Bool.and_self]
      · simp only [List.map_cons, D.pys, PyData.depthAll, D.py, PyData.depth]
        have := ih.2
        omega
  unfold okD
  rw [h1]
  simp only [Bool.true_and, SeqAt.shaped, D.py, PyData.canLay0, (h2 is).1, PyData.depth, decide_eq_true_eq]
  have := (h2 is).2
  omega
theorem mem_lst {is : List Int} {i : Int} : cmpD .mem (.int i) (.lst (is.map .int)) = some (decide (i ∈ is)) := by
  simp only [cmpD, inD]
  rw [okD_int, okD_lst]
  simp only [Bool.and_self, if_true]
  rw [any_ints]
theorem notMem_lst {is : List Int} {i : Int} : cmpD .notMem (.int i) (.lst (is.map .int)) = some (!decide (i ∈ is)) := by
  have h := @mem_lst is i
  simp only [cmpD] at h ⊢
  rw [h]; rfl
theorem nats_ints {l : List Nat} : (l.map fun i : Nat => D.int (i : Nat)) = (l.map fun i : Nat => (i : Int)).map D.int := by rw [List.map_map]; rfl
theorem mem_cast {l : List Nat} {j : Nat} : ((j : Int) ∈ l.map fun i : Nat => (i : Int)) ↔ j ∈ l := by
  rw [List.mem_map]
  exact ⟨fun ⟨a, h1, h2⟩ => by rw [← Int.ofNat.inj h2]; exact h1, fun h => ⟨j, h, rfl⟩⟩
theorem mem_lstN {l : List Nat} {j : Nat} : cmpD .mem (.int (j : Nat)) (.lst (l.map fun i : Nat => .int (i : Nat))) = some (decide (j ∈ l)) := by
  rw [nats_ints, mem_lst]
  simp only [mem_cast]
theorem notMem_lstN {l : List Nat} {j : Nat} : cmpD .notMem (.int (j : Nat)) (.lst (l.map fun i : Nat => .int (i : Nat))) = some (!decide (j ∈ l)) := by
  rw [nats_ints, notMem_lst]
  simp only [mem_cast]
theorem mem_tupN {l : List Nat} {j : Nat} : cmpD .mem (.int (j : Nat)) (tupN l) = some (decide (j ∈ l)) := by
  unfold tupN
  rw [nats_ints, mem_ints]
  simp only [mem_cast]
theorem notMem_tupN {l : List Nat} {j : Nat} : cmpD .notMem (.int (j : Nat)) (tupN l) = some (!decide (j ∈ l)) := by
  unfold tupN
  rw [nats_ints, notMem_ints]
  simp only [mem_cast]
theorem wp_dcGo {body : D → M (Option (D × D))} {n : Nat} {Q : List D × List D → Nat → Prop} {ds : List D} (I : Nat → List D → List D → Nat → Prop) (h0 : I 0 [] [] n)
    (ht : ∀ i d ks vs n, ds[i]? = some d → I i ks vs n → wp (body d) n fun r n1 => match r with
      | none => I (i + 1) ks vs n1
      | some p => kindOk ks p.1 = true ∧ I (i + 1) (dkeys ks p.1) (dvals ks vs p.1 p.2) n1)
    (hq : ∀ ks vs n, I ds.length ks vs n → Q (ks, vs) n) : wp (dcGo body ds [] []) n Q := by
  have key : ∀ (ds : List D) (I : Nat → List D → List D → Nat → Prop) (i : Nat) (ks vs : List D) (n : Nat), I i ks vs n →
      (∀ j d ks vs n, ds[j]? = some d → I (i + j) ks vs n → wp (body d) n fun r n1 => match r with
        | none => I (i + j + 1) ks vs n1
        | some p => kindOk ks p.1 = true ∧ I (i + j + 1) (dkeys ks p.1) (dvals ks vs p.1 p.2) n1) →
      wp (dcGo body ds ks vs) n fun r n1 => I (i + ds.length) r.1 r.2 n1 := by
    intro ds
    induction ds with
    | nil => intro I i ks vs n h0 _; exact wp_pure'.mpr h0
    | cons d ds ih =>
      intro I i ks vs n h0 ht
      rw [dcGo]
      refine wp_bind'.mpr ((ht 0 d ks vs n rfl h0).mono fun r n1 h1 => ?_)
      have tl : ∀ j d' ks vs n, ds[j]? = some d' → I (i + 1 + j) ks vs n → wp (body d') n fun r n1 => match r with
          | none => I (i + 1 + j + 1) ks vs n1
          | some p => kindOk ks p.1 = true ∧ I (i + 1 + j + 1) (dkeys ks p.1) (dvals ks vs p.1 p.2) n1 := by
        intro j d' ks vs n hj h
        have := ht (j + 1) d' ks vs n (by simpa using hj) (by rw [show i + (j + 1) = i + 1 + j by omega]; exact h)
        rw [show i + (j + 1) + 1 = i + 1 + j + 1 by omega] at this
        exact this
      rw [List.length_cons, show i + (ds.length + 1) = i + 1 + ds.length by omega]
      cases r with
      | none => exact ih I (i + 1) ks vs n1 h1 tl
      | some p =>
        show wp (if kindOk ks p.1 = true then _ else M.fail) n1 _
        rw [if_pos h1.1]
        exact ih I (i + 1) _ _ n1 h1.2 tl
  refine (key ds I 0 [] [] n h0 fun j d ks vs n hj h => ?_).mono fun r n1 h => hq r.1 r.2 n1 (by rw [Nat.zero_add] at h; exact h)
  rw [Nat.zero_add] at h ⊢
  exact ht j d ks vs n hj h
/-! ### worths -/
def wD : Option Int → D
  | none => .none
  | some i => .int i
def wAt (w : List (Option Int)) (g : Int) : Option Int := w.getD g.toNat none
def IsW (x : D) (w : List (Option Int)) : Prop := x = .lst (w.map wD) ∨ x = .tup (w.map wD)
theorem ix_w {x : D} {w : List (Option Int)} (h : IsW x w) {g : Int} (g0 : 0 ≤ g) (g1 : g < w.length) : ixD x (.int g) = some (wD (wAt w g)) := by
  obtain ⟨j, rfl⟩ : ∃ j : Nat, g = j := ⟨g.toNat, by omega⟩
  have hj : j < w.length := by omega
  have e : (w.map wD)[j]? = some (wD (wAt w j)) := by
    unfold wAt
    rw [List.getElem?_map, List.getElem?_eq_getElem hj, List.getD_eq_getElem?_getD, Int.toNat_natCast, List.getElem?_eq_getElem hj]
    rfl
  rcases h with rfl | rfl <;> exact atI_nat e
theorem ix_cs {cs : List Int} {j : Nat} (hj : j < cs.length) : ixD (tupI cs) (.int (j : Nat)) = some (.int (cAt cs j)) := ix_tupI hj 0
@[simp] theorem isNot_wD {o : Option Int} : cmpD .isNot (wD o) .none = some o.isSome := by cases o <;> rfl
@[simp] theorem is_wD {o : Option Int} : cmpD .is (wD o) .none = some o.isNone := by cases o <;> rfl
theorem ne_bool {a b : Bool} : cmpD .ne (.bool a) (.bool b) = some (a != b) := by
  simp only [cmpD, eqD_of okD_bool okD_bool]
  cases a <;> cases b <;> rfl
theorem eq_str {x y : Str} : cmpD .eq (.str x) (.str y) = some (decide (x = y)) := by
  show eqD _ _ = _
  unfold eqD
  split
  · simp only [D.py, PyData.eqv]
    congr 1
  · rfl
theorem wp_picked {α : Type} {n : Nat} {body : D → M (Option D)} {g : α → D} {Q : List D → Nat → Prop} (f : α → Option D) {l : List α} (h : ∀ a ∈ l, wp (body (g a)) n fun r m => r = f a ∧ m = n) (q : Q (l.filterMap f) n) : wp (lcGo body (l.map g)) n Q := by
  refine wp_of (a := l.filterMap f) (n' := n) ?_ q
  clear q
  induction l with
  | nil => rfl
  | cons a l ih =>
    show (body (g a) >>= _) n = _
    rw [M.bind_ap, wp_out (h a List.mem_cons_self)]
    show (lcGo body (l.map g) >>= _) n = _
    rw [M.bind_ap, ih fun b hb => h b (List.mem_cons_of_mem _ hb), List.filterMap_cons]
    cases f a <;> rfl
theorem max_ints {kn : List Int} (h : kn ≠ []) : Bi.op .max [.lst (kn.map .int)] = some (.int (maxI kn)) := by
  cases kn with
  | nil => exact absurd rfl h
  | cons a r =>
    have e : intsD ((a :: r).map .int) = some (a :: r) := by
      have := intsD_map' (a :: r) id
      simpa using this
    show (match intsD ((a :: r).map .int) with | some (n :: ns) => some (D.int (maxI (n :: ns))) | _ => none) = _
    rw [e]
theorem min_ints {kn : List Int} (h : kn ≠ []) : Bi.op .min [.lst (kn.map .int)] = some (.int (minI kn)) := by
  cases kn with
  | nil => exact absurd rfl h
  | cons a r =>
    have e : intsD ((a :: r).map .int) = some (a :: r) := by
      have := intsD_map' (a :: r) id
      simpa using this
    show (match intsD ((a :: r).map .int) with | some (n :: ns) => some (D.int (minI (n :: ns))) | _ => none) = _
    rw [e]
theorem mk_min {kn : List Int} : Mk.op .min [.lst (kn.map .int)] .none = some (wD (if kn = [] then none else some (minI kn))) := by
  have e : intsD (kn.map .int) = some kn := by
    have := intsD_map' kn id
    simpa using this
  show (match intsD (kn.map .int) with | some [] => some D.none | some (n :: ns) => some (D.int (Mk.pick .min (n :: ns))) | none => none) = _
  rw [e]
  cases kn <;> rfl
end
end

/-! ### breadth first -/
section
variable {α β : Type} [DecidableEq α]
/-- the nodes, and where each was come from -/
abbrev Ent (α β : Type) := List α × List (Option (α × β))
def bStep (x : α) : List (β × α) → Ent α β → Ent α β
  | [], s => s
  | (l, y) :: r, (ns, ps) => if y ∈ ns then bStep x r (ns, ps) else bStep x r (ns ++ [y], ps ++ [some (x, l)])
def bGo (step : α → List (β × α)) : Nat → Nat → Ent α β → Ent α β
  | 0, _, s => s
  | k + 1, i, s => match s.1[i]? with
    | none => s
    | some x => bGo step k (i + 1) (bStep x (step x) s)
def bfs (step : α → List (β × α)) (start : α) : Ent α β := bGo step WFUEL 0 ([start], [none])
/-- what a search has found -/
structure BfsOk (step : α → List (β × α)) (start : α) (s : Ent α β) (dep : Nat → Nat) : Prop where
  len : s.2.length = s.1.length
  nd : s.1.Nodup
  h0 : s.1[0]? = some start
  p0 : s.2[0]? = some none
  d0 : dep 0 = 0
  mono : ∀ a b, a ≤ b → b < s.1.length → dep a ≤ dep b
  root : ∀ b, s.2[b]? = some none → b = 0
  par : ∀ b p l, s.2[b]? = some (some (p, l)) → ∃ a x, a < b ∧ s.1[a]? = some p ∧ s.1[b]? = some x ∧ (l, x) ∈ step p ∧ dep b = dep a + 1
  cls : ∀ a x l y, s.1[a]? = some x → (l, y) ∈ step x → ∃ b, s.1[b]? = some y ∧ dep b ≤ dep a + 1
/-- .. ahead of its end: the node i is looked at, so many of its steps are done -/
structure BI (step : α → List (β × α)) (start : α) (U : List α) (i : Nat) (dn : List (β × α)) (s : Ent α β) (dep : Nat → Nat) : Prop where
  len : s.2.length = s.1.length
  nd : s.1.Nodup
  sub : ∀ x ∈ s.1, x ∈ U
  h0 : s.1[0]? = some start
  p0 : s.2[0]? = some none
  d0 : dep 0 = 0
  mono : ∀ a b, a ≤ b → b < s.1.length → dep a ≤ dep b
  root : ∀ b, s.2[b]? = some none → b = 0
  par : ∀ b p l, s.2[b]? = some (some (p, l)) → ∃ a x, a < b ∧ s.1[a]? = some p ∧ s.1[b]? = some x ∧ (l, x) ∈ step p ∧ dep b = dep a + 1
  hi : i < s.1.length
  near : ∀ b, b < s.1.length → dep b ≤ dep i + 1
  cls : ∀ a x l y, a < i → s.1[a]? = some x → (l, y) ∈ step x → ∃ b, s.1[b]? = some y ∧ dep b ≤ dep a + 1
  cur : ∀ l y, (l, y) ∈ dn → ∃ b, s.1[b]? = some y ∧ dep b ≤ dep i + 1
theorem nodup_sub_len : ∀ {l U : List α}, l.Nodup → (∀ x ∈ l, x ∈ U) → l.length ≤ U.length
  | [], _, _, _ => Nat.zero_le _
  | a :: l, U, nd, h => by
    rw [List.nodup_cons] at nd
    have ha := h a List.mem_cons_self
    have := nodup_sub_len (U := U.erase a) nd.2 fun x hx => (List.mem_erase_of_ne (fun z => nd.1 (by rw [← z]; exact hx))).mpr (h x (List.mem_cons_of_mem _ hx))
    rw [List.length_erase_of_mem ha] at this
    have hp : 0 < U.length := List.length_pos_of_mem ha
    rw [List.length_cons]
    omega
theorem snoc_get {γ : Type} {l : List γ} {a x : γ} {b : Nat} (h : l[b]? = some x) : (l ++ [a])[b]? = some x := by
  have := (List.getElem?_eq_some_iff.mp h).1
  rw [List.getElem?_append_left this]
  exact h
theorem snoc_split {γ : Type} {l : List γ} {a x : γ} {b : Nat} (h : (l ++ [a])[b]? = some x) : (b < l.length ∧ l[b]? = some x) ∨ (b = l.length ∧ x = a) := by
  by_cases hb : b < l.length
  · rw [List.getElem?_append_left hb] at h
    exact .inl ⟨hb, h⟩
  · have := (List.getElem?_eq_some_iff.mp h).1
    rw [List.length_append, List.length_singleton] at this
    have e : b = l.length := by omega
    subst e
    rw [List.getElem?_append_right (Nat.le_refl _)] at h
    simp at h
    exact .inr ⟨rfl, h.symm⟩
variable {step : α → List (β × α)} {start : α} {U : List α}
theorem bi_skip {i : Nat} {dn : List (β × α)} {s : Ent α β} {dep : Nat → Nat} {l : β} {y : α} (h : BI step start U i dn s dep) (hy : y ∈ s.1) : BI step start U i (dn ++ [(l, y)]) s dep := by
  refine { h with cur := fun l' y' hm => ?_ }
  rcases List.mem_append.mp hm with hm | hm
  · exact h.cur l' y' hm
  · simp at hm
    obtain ⟨rfl, rfl⟩ := hm
    obtain ⟨b, hb, e⟩ := List.getElem_of_mem hy
    exact ⟨b, by rw [List.getElem?_eq_getElem hb, e], h.near b hb⟩
theorem bi_add {i : Nat} {dn : List (β × α)} {ns : List α} {ps : List (Option (α × β))} {dep : Nat → Nat} {x : α} {l : β} {y : α} (h : BI step start U i dn (ns, ps) dep) (hx : ns[i]? = some x) (hl : (l, y) ∈ step x) (hy : y ∉ ns) (hU : y ∈ U) :
    BI step start U i (dn ++ [(l, y)]) (ns ++ [y], ps ++ [some (x, l)]) (fun j => if j = ns.length then dep i + 1 else dep j) := by
  have hlen : ps.length = ns.length := h.len
  have hi : i < ns.length := h.hi
  have dlt : ∀ b, b < ns.length → (if b = ns.length then dep i + 1 else dep b) = dep b := fun b hb => if_neg (by omega)
  have dge : (if ns.length = ns.length then dep i + 1 else dep ns.length) = dep i + 1 := if_pos rfl
  have lt_of : ∀ {b : Nat} {z : α}, ns[b]? = some z → b < ns.length := fun e => (List.getElem?_eq_some_iff.mp e).1
  refine ⟨by simp [hlen], ?_, fun z hz => ?_, snoc_get h.h0, snoc_get h.p0, ?_, fun a b hab hb => ?_, fun b hb => ?_, fun b p l' hb => ?_, by simp; omega, fun b hb => ?_, fun a z l' y' ha hz hl' => ?_, fun l' y' hm => ?_⟩
  · rw [List.nodup_append]
    refine ⟨h.nd, by simp, fun a ha b hb => ?_⟩
    simp at hb
    subst hb
    exact fun e => hy (e ▸ ha)
  · rcases List.mem_append.mp hz with hz | hz
    · exact h.sub z hz
    · simp at hz; subst hz; exact hU
  · rw [dlt 0 (by omega)]; exact h.d0
  · simp only [List.length_append, List.length_singleton] at hb
    by_cases hb' : b < ns.length
    · rw [dlt a (by omega), dlt b hb']
      exact h.mono a b hab hb'
    · have e : b = ns.length := by omega
      subst e
      rw [dge]
      by_cases ha : a = ns.length
      · rw [ha, dge]; exact Nat.le_refl _
      · rw [dlt a (by omega)]
        exact h.near a (by show a < ns.length; omega)
  · rcases snoc_split hb with ⟨_, e⟩ | ⟨_, e⟩
    · exact h.root b e
    · cases e
  · rcases snoc_split hb with ⟨hb', e⟩ | ⟨hb', e⟩
    · obtain ⟨a, z, h1, h2, h3, h4, h5⟩ := h.par b p l' e
      refine ⟨a, z, h1, snoc_get h2, snoc_get h3, h4, ?_⟩
      rw [dlt b (by omega), dlt a (by omega)]
      exact h5
    · cases e
      subst hb'
      refine ⟨i, y, by omega, snoc_get hx, ?_, hl, ?_⟩
      · rw [hlen, List.getElem?_append_right (Nat.le_refl _)]
        simp
      · rw [hlen, dge, dlt i hi]
  · simp only [List.length_append, List.length_singleton] at hb
    show (if b = ns.length then dep i + 1 else dep b) ≤ (if i = ns.length then dep i + 1 else dep i) + 1
    rw [dlt i hi]
    by_cases hb' : b < ns.length
    · rw [dlt b hb']; exact h.near b hb'
    · have e : b = ns.length := by omega
      subst e
      rw [dge]
      exact Nat.le_refl _
  · have hz' : ns[a]? = some z := by rw [← hz]; exact (List.getElem?_append_left (show a < ns.length by omega)).symm
    obtain ⟨b, h1, h2⟩ := h.cls a z l' y' ha hz' hl'
    refine ⟨b, snoc_get h1, ?_⟩
    show (if b = ns.length then dep i + 1 else dep b) ≤ (if a = ns.length then dep i + 1 else dep a) + 1
    rw [dlt b (lt_of h1), dlt a (by omega)]
    exact h2
  · show ∃ b, (ns ++ [y])[b]? = some y' ∧ (if b = ns.length then dep i + 1 else dep b) ≤ (if i = ns.length then dep i + 1 else dep i) + 1
    rw [dlt i hi]
    rcases List.mem_append.mp hm with hm | hm
    · obtain ⟨b, h1, h2⟩ := h.cur l' y' hm
      refine ⟨b, snoc_get h1, ?_⟩
      rw [dlt b (lt_of h1)]
      exact h2
    · simp at hm
      obtain ⟨rfl, rfl⟩ := hm
      exact ⟨ns.length, by rw [List.getElem?_append_right (Nat.le_refl _)]; simp, by rw [dge]; exact Nat.le_refl _⟩
theorem bi_steps {i : Nat} {x : α} : ∀ {r dn : List (β × α)} {s : Ent α β} {dep : Nat → Nat}, BI step start U i dn s dep → s.1[i]? = some x → (∀ p ∈ r, p ∈ step x ∧ p.2 ∈ U) → (∃ dep', BI step start U i (dn ++ r) (bStep x r s) dep') ∧ s.1.length ≤ (bStep x r s).1.length
  | [], dn, s, dep, h, _, _ => ⟨⟨dep, by rw [List.append_nil]; exact h⟩, Nat.le_refl _⟩
  | (l, y) :: r, dn, (ns, ps), dep, h, hx, hr => by
    obtain ⟨h1, h2⟩ := hr (l, y) List.mem_cons_self
    have hr' := fun p hp => hr p (List.mem_cons_of_mem _ hp)
    unfold bStep
    split
    · rename_i hy
      have := bi_steps (r := r) (bi_skip (l := l) h hy) hx hr'
      rw [List.append_assoc] at this
      exact this
    · rename_i hy
      have := bi_steps (r := r) (bi_add h hx h1 hy h2) (snoc_get hx) hr'
      rw [List.append_assoc] at this
      refine ⟨this.1, Nat.le_trans ?_ this.2⟩
      simp
/-- ahead of the node i -/
def BP (step : α → List (β × α)) (start : α) (U : List α) (i : Nat) (s : Ent α β) : Prop := (i < s.1.length ∧ ∃ dep, BI step start U i [] s dep) ∨ (i = s.1.length ∧ s.1.length ≤ U.length ∧ ∃ dep, BfsOk step start s dep)
theorem bp_len {i : Nat} {s : Ent α β} (h : BP step start U i s) : i ≤ s.1.length ∧ s.1.length ≤ U.length := by
  rcases h with ⟨h, dep, b⟩ | ⟨h, h2, _⟩
  · exact ⟨by omega, nodup_sub_len b.nd b.sub⟩
  · exact ⟨by omega, h2⟩
theorem bp_next {i : Nat} {s : Ent α β} {x : α} (hU : ∀ x ∈ U, ∀ p ∈ step x, p.2 ∈ U) (h : BP step start U i s) (hx : s.1[i]? = some x) : x ∈ U ∧ BP step start U (i + 1) (bStep x (step x) s) := by
  have hlt := (List.getElem?_eq_some_iff.mp hx).1
  rcases h with ⟨h, dep, b⟩ | ⟨h, _⟩
  · have hxU := b.sub x (List.mem_of_getElem? hx)
    refine ⟨hxU, ?_⟩
    obtain ⟨⟨dep', b'⟩, hl⟩ := bi_steps b hx fun p hp => ⟨hp, hU x hxU p hp⟩
    rw [List.nil_append] at b'
    have hx' : (bStep x (step x) s).1[i]? = some x := by
      clear b' hl b
      generalize step x = r
      induction r generalizing s with
      | nil => exact hx
      | cons p r ih =>
        obtain ⟨l, y⟩ := p
        obtain ⟨ns, ps⟩ := s
        unfold bStep
        split
        · exact ih hx hlt h
        · exact ih (snoc_get hx) (by simp; exact Nat.lt_succ_of_lt hlt) (by simp; exact Nat.lt_succ_of_lt h)
    have cls : ∀ a z l y, a < i + 1 → (bStep x (step x) s).1[a]? = some z → (l, y) ∈ step z → ∃ b, (bStep x (step x) s).1[b]? = some y ∧ dep' b ≤ dep' a + 1 := fun a z l y ha hz hl => by
      by_cases e : a = i
      · subst e
        rw [hx'] at hz
        cases hz
        exact b'.cur l y hl
      · exact b'.cls a z l y (by omega) hz hl
    by_cases hlt2 : i + 1 < (bStep x (step x) s).1.length
    · exact .inl ⟨hlt2, dep', { b' with hi := hlt2, near := fun c hc => Nat.le_trans (b'.near c hc) (Nat.succ_le_succ (b'.mono i (i + 1) (Nat.le_succ _) hlt2)), cls := cls, cur := fun _ _ z => (by cases z) }⟩
    · have e : i + 1 = (bStep x (step x) s).1.length := by have := b'.hi; omega
      exact .inr ⟨e, nodup_sub_len b'.nd b'.sub, dep', b'.len, b'.nd, b'.h0, b'.p0, b'.d0, b'.mono, b'.root, b'.par, fun a z l y hz hl => cls a z l y (by have := (List.getElem?_eq_some_iff.mp hz).1; omega) hz hl⟩
  · omega
theorem bgo_ok (hU : ∀ x ∈ U, ∀ p ∈ step x, p.2 ∈ U) : ∀ {k i : Nat} {s : Ent α β}, BP step start U i s → U.length < i + k → ∃ dep, BfsOk step start (bGo step k i s) dep
  | 0, i, s, h, hk => by have := bp_len h; omega
  | k + 1, i, s, h, hk => by
    unfold bGo
    cases e : s.1[i]? with
    | none =>
      rcases h with ⟨h, _⟩ | ⟨_, _, h⟩
      · rw [List.getElem?_eq_getElem h] at e
        cases e
      · exact h
    | some x => exact bgo_ok hU (bp_next hU h e).2 (by omega)
theorem bp_start (h0 : start ∈ U) : BP step start U 0 (([start], [none]) : Ent α β) := by
  have one : ∀ (b : Nat) (o : Option (α × β)), ([none] : List (Option (α × β)))[b]? = some o → b = 0 ∧ o = none := fun b o hb => by
    have := (List.getElem?_eq_some_iff.mp hb).1
    simp at this
    subst this
    simp at hb
    exact ⟨rfl, hb.symm⟩
  refine .inl ⟨Nat.zero_lt_one, fun _ => 0, ?_⟩
  refine ⟨rfl, by simp, fun x hx => ?_, rfl, rfl, rfl, fun _ _ _ _ => Nat.le_refl _, fun b hb => (one b _ hb).1, fun b p l hb => (by cases (one b _ hb).2), Nat.zero_lt_one, fun _ _ => Nat.zero_le _, fun a _ _ _ ha => by omega, fun _ _ z => (by cases z)⟩
  simp at hx
  subst hx
  exact h0
theorem bfs_ok (h0 : start ∈ U) (hU : ∀ x ∈ U, ∀ p ∈ step x, p.2 ∈ U) (hl : U.length ≤ 16777216) : ∃ dep, BfsOk step start (bfs step start) dep :=
  bgo_ok hU (bp_start h0) (by unfold WFUEL; omega)
/-- a way by labels -/
def Ways (step : α → List (β × α)) : α → List β → α → Prop
  | x, [], z => x = z
  | x, l :: c, z => ∃ y, (l, y) ∈ step x ∧ Ways step y c z
theorem Ways.snoc {l : β} {y z : α} : ∀ {c : List β} {x : α}, Ways step x c y → (l, z) ∈ step y → Ways step x (c ++ [l]) z
  | [], _, rfl, h2 => ⟨z, h2, rfl⟩
  | _ :: _, _, ⟨w, h1, h⟩, h2 => ⟨w, h1, Ways.snoc h h2⟩
theorem BfsOk.short {s : Ent α β} {dep : Nat → Nat} (h : BfsOk step start s dep) {z : α} : ∀ {c : List β} {a : Nat} {x : α}, s.1[a]? = some x → Ways step x c z → ∃ b, s.1[b]? = some z ∧ dep b ≤ dep a + c.length
  | [], a, x, hx, e => by
    have e : x = z := e
    subst e
    exact ⟨a, hx, Nat.le_refl _⟩
  | l :: c, a, x, hx, ⟨y, h1, h2⟩ => by
    obtain ⟨b, hb, e1⟩ := h.cls a x l y hx h1
    obtain ⟨b', hb', e2⟩ := BfsOk.short h hb h2
    exact ⟨b', hb', by rw [List.length_cons]; omega⟩
/-- where a node was come from -/
def prnB (s : Ent α β) (x : α) : Option (α × β) := match s.1.findIdx? (· == x) with
  | some i => (s.2[i]?).join
  | none => none
/-- the labels of the way to a node, the last one first -/
def wayB (s : Ent α β) : Nat → α → List β
  | 0, _ => []
  | k + 1, x => match prnB s x with
    | none => []
    | some (p, l) => l :: wayB s k p
theorem idx_nodup : ∀ {l : List α} {a : Nat} {x : α}, l.Nodup → l[a]? = some x → l.findIdx? (· == x) = some a
  | [], a, x, _, h => by simp at h
  | y :: l, 0, x, _, h => by
    simp at h
    subst h
    rw [List.findIdx?_cons]
    simp
  | y :: l, a + 1, x, nd, h => by
    rw [List.nodup_cons] at nd
    rw [List.getElem?_cons_succ] at h
    have hne : (y == x) = false := by
      rw [beq_eq_false_iff_ne]
      intro e
      exact nd.1 (e ▸ List.mem_of_getElem? h)
    rw [List.findIdx?_cons, hne, idx_nodup nd.2 h]
    rfl
theorem BfsOk.parAt {s : Ent α β} {dep : Nat → Nat} (h : BfsOk step start s dep) {b : Nat} {x : α} (hx : s.1[b]? = some x) : s.2[b]? = some (prnB s x) := by
  have hb := (List.getElem?_eq_some_iff.mp hx).1
  unfold prnB
  rw [idx_nodup h.nd hx]
  simp only
  rw [List.getElem?_eq_getElem (by rw [h.len]; exact hb)]
  rfl
theorem BfsOk.way {s : Ent α β} {dep : Nat → Nat} (h : BfsOk step start s dep) : ∀ {k b : Nat} {x : α}, b < k → s.1[b]? = some x → Ways step start (wayB s k x).reverse x ∧ (wayB s k x).length = dep b
  | 0, b, x, hk, _ => by omega
  | k + 1, b, x, hk, hx => by
    have hp := h.parAt hx
    unfold wayB
    cases e : prnB s x with
    | none =>
      rw [e] at hp
      have := h.root b hp
      subst this
      rw [h.h0] at hx
      cases hx
      exact ⟨rfl, h.d0.symm⟩
    | some q =>
      obtain ⟨p, l⟩ := q
      rw [e] at hp
      obtain ⟨a, x', h1, h2, h3, h4, h5⟩ := h.par b p l hp
      rw [hx] at h3
      cases h3
      obtain ⟨w1, w2⟩ := BfsOk.way h (k := k) (b := a) (by omega) h2
      simp only [List.reverse_cons, List.length_cons]
      exact ⟨w1.snoc h4, by omega⟩
end
/-! ### .. as data -/
section
variable {α β : Type} [DecidableEq α] {enc : α → D} {encL : β → D}
def encP (enc : α → D) (encL : β → D) : Option (α × β) → D
  | none => .none
  | some (p, l) => .tup [enc p, encL l]
def roadsD (enc : α → D) (encL : β → D) (s : Ent α β) : D := .obj 1 nsRoads [.dict (s.1.map enc) (s.2.map (encP enc encL)), .lst (s.1.map enc)]
/-- nodes as data -/
structure Enc (enc : α → D) : Prop where
  inj : ∀ x y, keyOf (enc x) = keyOf (enc y) → x = y
  kind : (∀ x, isK (enc x) = true) ∨ (∀ x, tupKey (enc x) = true)
  nc : ∀ x, noClo (enc x) = true
theorem Enc.ok (E : Enc enc) {ns : List α} {x : α} : kindOk (ns.map enc) (enc x) = true := by
  unfold kindOk
  rcases E.kind with h | h
  · rw [h, List.all_map]
    simp [h]
  · have ht : ∀ x, isTup (enc x) = true := fun x => by
      have := h x
      unfold tupKey at this
      exact (Bool.and_eq_true_iff.mp this).1
    rw [h, List.all_map]
    simp [ht]
theorem Enc.idx (E : Enc enc) {x : α} : ∀ {ns : List α}, didx (ns.map enc) (enc x) = ns.findIdx? (· == x)
  | [] => rfl
  | y :: ns => by
    rw [List.map_cons, List.findIdx?_cons]
    by_cases e : y = x
    · subst e
      rw [didx_pos rfl]
      simp
    · have hne : (y == x) = false := by rw [beq_eq_false_iff_ne]; exact e
      rw [didx_neg (fun z => e (E.inj _ _ z)), Enc.idx E, hne]
      simp
theorem Enc.has (E : Enc enc) {x : α} {ns : List α} : (didx (ns.map enc) (enc x)).isSome = decide (x ∈ ns) := by
  rw [E.idx, Bool.eq_iff_iff]
  simp
theorem rdStep_eq (E : Enc enc) {x : α} : ∀ {r : List (β × α)} {s : Ent α β}, (bStep x r s).1.length ≤ 16777216 → s.1.length ≤ (bStep x r s).1.length ∧
    rdStep (enc x) (r.map fun p => .tup [encL p.1, enc p.2]) (s.1.map enc, s.2.map (encP enc encL), s.1.map enc) = some ((bStep x r s).1.map enc, (bStep x r s).2.map (encP enc encL), (bStep x r s).1.map enc)
  | [], s, _ => ⟨Nat.le_refl _, rfl⟩
  | (l, y) :: r, (ns, ps), hl => by
    rw [List.map_cons, rdStep, if_pos E.ok, E.has]
    unfold bStep at hl ⊢
    by_cases hy : y ∈ ns
    · rw [if_pos hy] at hl ⊢
      rw [if_pos (by simpa using hy)]
      exact rdStep_eq E hl
    · rw [if_neg hy] at hl ⊢
      rw [if_neg (by simpa using hy)]
      obtain ⟨h1, h2⟩ := rdStep_eq E hl
      have h1' : ns.length + 1 ≤ (bStep x r (ns ++ [y], ps ++ [some (x, l)])).1.length := by simpa using h1
      refine ⟨by show ns.length ≤ _; omega, ?_⟩
      rw [if_pos (by simp; omega)]
      simpa [encP] using h2
theorem rdGo_eq (E : Enc enc) {step : α → List (β × α)} {start : α} {U : List α} {f : D → M D} {m : Nat} (hU : ∀ x ∈ U, ∀ p ∈ step x, p.2 ∈ U) (hl : U.length ≤ 16777216)
    (hf : ∀ x ∈ U, ∃ rd, f (enc x) m = some (rd, m) ∧ itemsD rd = some ((step x).map fun p => .tup [encL p.1, enc p.2])) :
    ∀ {k i : Nat} {s : Ent α β}, BP step start U i s → U.length < i + k → rdGo f k i (s.1.map enc, s.2.map (encP enc encL), s.1.map enc) m = some (((bGo step k i s).1.map enc, (bGo step k i s).2.map (encP enc encL), (bGo step k i s).1.map enc), m)
  | 0, i, s, h, hk => by have := bp_len h; omega
  | k + 1, i, s, h, hk => by
    unfold bGo rdGo
    simp only
    rw [List.getElem?_map]
    cases e : s.1[i]? with
    | none => rfl
    | some x =>
      simp only [Option.map_some]
      obtain ⟨hx, h'⟩ := bp_next hU h e
      obtain ⟨rd, h1, h2⟩ := hf x hx
      rw [M.bind_ap, h1]
      show (M.opt (itemsD rd) >>= _) m = _
      rw [h2, M.bind_ap]
      show (M.opt (rdStep _ _ _) >>= _) m = _
      rw [(rdStep_eq E (Nat.le_trans (bp_len h').2 hl)).2, M.bind_ap]
      exact rdGo_eq E hU hl hf h' (by omega)
/-- Roads made -/
theorem roads_wp (E : Enc enc) {step : α → List (β × α)} {start : α} (U : List α) {C : Nat → List D → M D} {j : Nat} {caps : List D} {n : Nat} {Q : D → Nat → Prop} (h0 : start ∈ U) (hU : ∀ x ∈ U, ∀ p ∈ step x, p.2 ∈ U) (hl : U.length ≤ 16777216)
    (hf : ∀ x ∈ U, wp (C j (caps ++ [enc x])) n fun rd m => m = n ∧ itemsD rd = some ((step x).map fun p => .tup [encL p.1, enc p.2])) :
    wp (roadsC C [enc start, .clo j caps]) n Q ↔ Q (roadsD enc encL (bfs step start)) n := by
  refine wp_eq ?_
  have hk : kindOk [] (enc start) = true := E.ok (ns := [])
  have e0 : roadsC C [enc start, .clo j caps] = if kindOk [] (enc start) = true then (do
      let s ← rdGo (fun nd => if noClo nd = true then C j (caps ++ [nd]) else M.fail) WFUEL 0 ([enc start], [.none], [enc start])
      pure (.obj 1 nsRoads [.dict s.1 s.2.1, .lst s.2.2])) else M.fail := rfl
  rw [e0, if_pos hk]
  have := rdGo_eq (k := WFUEL) (i := 0) (s := ([start], [none])) (encL := encL) (f := fun nd => if noClo nd = true then C j (caps ++ [nd]) else M.fail) (m := n) E hU hl (fun x hx => by
    obtain ⟨rd, m, e1, e2, e3⟩ := hf x hx
    subst e2
    refine ⟨rd, ?_, e3⟩
    rw [if_pos (E.nc x)]
    exact e1) (bp_start h0) (by unfold WFUEL; omega)
  rw [M.bind_ap]
  have e : rdGo (fun nd => if noClo nd = true then C j (caps ++ [nd]) else M.fail) WFUEL 0 ([enc start], [.none], [enc start]) n = _ := this
  rw [e]
  rfl
theorem objD_roads {x : Str} {tb : List (Nat × Nat)} {s : Ent α β} (h : nsRoads.contains x = false) : objD x tb (roadsD enc encL s) = tb.lookup 1 := by
  unfold roadsD
  rw [objD_o, h]
  rfl
@[simp] theorem objD_way {tb : List (Nat × Nat)} {s : Ent α β} : objD (Str.ofString "way_to") tb (roadsD enc encL s) = tb.lookup 1 := objD_roads (by decide +kernel)
@[simp] theorem objD_asc {tb : List (Nat × Nat)} {s : Ent α β} : objD (Str.ofString "ascending") tb (roadsD enc encL s) = tb.lookup 1 := objD_roads (by decide +kernel)
@[simp] theorem objD_has {tb : List (Nat × Nat)} {s : Ent α β} : objD (Str.ofString "has") tb (roadsD enc encL s) = tb.lookup 1 := objD_roads (by decide +kernel)
@[simp] theorem fld_nodes {cs : List Nat} {s : Ent α β} : fldD (Str.ofString "nodes") cs (roadsD enc encL s) = if cs.contains 1 = true then some (.lst (s.1.map enc)) else none := rfl
@[simp] theorem fld_before {cs : List Nat} {s : Ent α β} : fldD (Str.ofString "_before") cs (roadsD enc encL s) = if cs.contains 1 = true then some (.dict (s.1.map enc) (s.2.map (encP enc encL))) else none := rfl
end

/-! ### pairs of states of two plants -/
section
variable {N1 N2 dd : Nat} {rs1 rs2 : List (List Int)} {es1 es2 : List Int}
def pairD (p : Nat × Nat) : D := .tup [.int p.1, .int p.2]
def optP : Option (Nat × Nat) → D
  | some p => pairD p
  | none => .none
@[simp] theorem truD_optP {o : Option (Nat × Nat)} : truD (optP o) = some o.isSome := by cases o <;> rfl
/-- where a deed leads both -/
def bothG (rs1 rs2 : List (List Int)) (p : Nat × Nat) (j : Nat) : Option (Nat × Nat) := if goal rs1 p.1 j = -1 ∨ goal rs2 p.2 j = -1 then none else some ((goal rs1 p.1 j).toNat, (goal rs2 p.2 j).toNat)
def stepsB (rs1 rs2 : List (List Int)) (dd : Nat) (p : Nat × Nat) : List (Nat × (Nat × Nat)) := (List.range dd).filterMap fun j => (bothG rs1 rs2 p j).map fun q => (j, q)
def farL (rs1 rs2 : List (List Int)) (p : Nat × Nat) : List Nat := (doR (rowOf rs1 p.1)).filter fun j => goal rs2 p.2 j == -1
def natD (j : Nat) : D := .int j
theorem bothG_lt (h1 : IsPl N1 dd rs1 es1) (h2 : IsPl N2 dd rs2 es2) {p q : Nat × Nat} {j : Nat} (hp : p.1 < N1 ∧ p.2 < N2) (hj : j < dd) (e : bothG rs1 rs2 p j = some q) : q.1 < N1 ∧ q.2 < N2 := by
  unfold bothG at e
  split at e
  · cases e
  · rename_i hn
    cases e
    have a1 := h1.goalBd hp.1 hj
    have a2 := h2.goalBd hp.2 hj
    have b1 : ¬ goal rs1 p.1 j = -1 := fun z => hn (.inl z)
    have b2 : ¬ goal rs2 p.2 j = -1 := fun z => hn (.inr z)
    show (goal rs1 p.1 j).toNat < N1 ∧ (goal rs2 p.2 j).toNat < N2
    omega
theorem mem_stepsB {p q : Nat × Nat} {j : Nat} : (j, q) ∈ stepsB rs1 rs2 dd p ↔ j < dd ∧ bothG rs1 rs2 p j = some q := by
  unfold stepsB
  rw [List.mem_filterMap]
  constructor
  · rintro ⟨a, ha, e⟩
    rw [Option.map_eq_some_iff] at e
    obtain ⟨q', e1, e2⟩ := e
    cases e2
    exact ⟨List.mem_range.mp ha, e1⟩
  · rintro ⟨hj, e⟩
    exact ⟨j, List.mem_range.mpr hj, by rw [e]; rfl⟩
def allP (N1 N2 : Nat) : List (Nat × Nat) := (List.range N1).flatMap fun a => (List.range N2).map fun b => (a, b)
theorem mem_allP {p : Nat × Nat} : p ∈ allP N1 N2 ↔ p.1 < N1 ∧ p.2 < N2 := by
  unfold allP
  rw [List.mem_flatMap]
  constructor
  · rintro ⟨a, ha, h⟩
    obtain ⟨b, hb, rfl⟩ := List.mem_map.mp h
    exact ⟨List.mem_range.mp ha, List.mem_range.mp hb⟩
  · rintro ⟨ha, hb⟩
    exact ⟨p.1, List.mem_range.mpr ha, List.mem_map.mpr ⟨p.2, List.mem_range.mpr hb, rfl⟩⟩
theorem allP_len : (allP N1 N2).length = N1 * N2 := by
  unfold allP
  simp only [List.length_flatMap, List.length_map, List.length_range]
  rw [List.map_const', List.sum_replicate_nat, List.length_range]
theorem stepsB_in (h1 : IsPl N1 dd rs1 es1) (h2 : IsPl N2 dd rs2 es2) : ∀ x ∈ allP N1 N2, ∀ p ∈ stepsB rs1 rs2 dd x, p.2 ∈ allP N1 N2 := fun x hx p hp => by
  obtain ⟨j, q⟩ := p
  obtain ⟨hj, e⟩ := mem_stepsB.mp hp
  exact mem_allP.mpr (bothG_lt h1 h2 (mem_allP.mp hx) hj e)
theorem enc_pair : Enc pairD := by
  refine ⟨fun x y h => ?_, .inr fun x => rfl, fun x => rfl⟩
  obtain ⟨a, b⟩ := x
  obtain ⟨c, d⟩ := y
  simp [pairD, keyOf, keysOf] at h
  obtain ⟨h1, h2⟩ := h
  exact Prod.ext (by show a = c; omega) (by show b = d; omega)
def pairI (p : Nat × Nat) : List Int := [(p.1 : Int), (p.2 : Int)]
theorem pairD_eq {p : Nat × Nat} : pairD p = tupI (pairI p) := rfl
theorem map_pairD {l : List (Nat × Nat)} : l.map pairD = (l.map pairI).map tupI := by rw [List.map_map]; rfl
end

section
variable {rows : List Int} {k n : Nat} {Q : D → Nat → Prop} {d : D}
/-- is_integer -/
theorem f4 (hd : d.data = true) : wp (callF (tab rows) (k + 1) 4 [d]) n Q ↔ Q (.bool (isIntD d)) n := by
  refine wp_eq (wp_out ?_)
  rw [wp_def tab_4 rfl]
  cases d <;> simp_all [d_4, b_4, n_4, isIntD, D.data]
end

section
variable {rows : List Int} {k n : Nat} {Q : D → Nat → Prop} {d : D}
/-- is_number -/
theorem f5 {lo hi : Int} (hd : d.data = true) : wp (callF (tab rows) (k + 2) 5 [d, .int lo, .int hi]) n Q ↔ Q (.bool (numIn d lo hi)) n := by
  refine wp_eq (wp_out ?_)
  rw [wp_def tab_5 rfl]
  simp [d_5, b_5, n_5, f4 hd, -Bool.exists_bool]
  cases d <;> simp [isIntD, numIn, -Bool.exists_bool]
  rename_i i
  by_cases h : lo ≤ i <;> simp [h, -Bool.exists_bool]
end

section
variable {rows : List Int} {k n : Nat} {Q : D → Nat → Prop} {d : D}
def isTupN (d : D) (m : Int) : Bool := match d with
  | .tup xs => decide ((xs.length : Int) = m)
  | _ => false
/-- is_tuple -/
theorem f6 {m : Int} (hd : d.data = true) : wp (callF (tab rows) (k + 1) 6 [d, .int m]) n Q ↔ Q (.bool (isTupN d m)) n := by
  refine wp_eq (wp_out ?_)
  rw [wp_def tab_6 rfl]
  cases d <;> simp_all [d_6, b_6, n_6, isTupN, D.data, -Bool.exists_bool]
end

section
variable {rows : List Int} {k n : Nat} {Q : D → Nat → Prop} {d : D}
def isBtw (d : D) (lo hi : Int) : Bool := match d with
  | .tup xs => decide (lo ≤ xs.length) && decide ((xs.length : Int) ≤ hi)
  | _ => false
/-- is_between -/
theorem f7 {lo hi : Int} (hd : d.data = true) : wp (callF (tab rows) (k + 1) 7 [d, .int lo, .int hi]) n Q ↔ Q (.bool (isBtw d lo hi)) n := by
  refine wp_eq (wp_out ?_)
  rw [wp_def tab_7 rfl]
  cases d with
  | tup xs =>
    simp [d_7, b_7, n_7, isBtw]
    by_cases h : lo ≤ (xs.length : Int) <;> simp [h]
  | _ => simp_all [d_7, b_7, n_7, isBtw, D.data]
end

section
variable {rows : List Int} {k n : Nat} {Q : D → Nat → Prop} {d : D}
/-- a tuple of m items, the first of which is the text w -/
def isTag (d : D) (w : Str) (m : Nat) : Bool := match d with
  | .tup (.str s :: xs) => decide (xs.length + 1 = m) && decide (s = w)
  | _ => false
theorem isTag_some {d : D} {w : Str} {m : Nat} (h : isTag d w m = true) : ∃ xs, d = .tup (.str w :: xs) ∧ xs.length + 1 = m := by
  unfold isTag at h
  split at h
  · simp at h
    obtain ⟨h1, rfl⟩ := h
    exact ⟨_, rfl, h1⟩
  · cases h
theorem lenEq {xs : List D} {m : Nat} : cmpD .eq (.int xs.length) (.int m) = some (decide (xs.length = m)) := by
  rw [eq_int]
  congr 1
  rw [Bool.eq_iff_iff]
  simp
  omega
/-- is_tagged -/
theorem f57 {w : Str} {m : Nat} (hm : 1 ≤ m) (hd : d.data = true) : wp (callF (tab rows) (k + 2) 57 [d, .str w, .int (m : Nat)]) n Q ↔ Q (.bool (isTag d w m)) n := by
  refine wp_eq (wp_out ?_)
  rw [wp_def tab_57 rfl]
  simp [d_57, b_57, n_57, f6 hd, -Bool.exists_bool]
  cases d with
  | tup xs =>
    cases xs with
    | nil =>
      have : ¬ (0 : Int) = (m : Int) := by omega
      simp [isTupN, isTag, this]
    | cons x xs =>
      by_cases hl : xs.length + 1 = m
      · have hl' : (xs.length : Int) + 1 = (m : Int) := by omega
        cases x with
        | str s => simp [isTupN, hl', isTag, hl, eq_str]
        | _ => simp_all [isTupN, isTag, D.data, D.datas]
      · have hl' : ¬ (xs.length : Int) + 1 = (m : Int) := by omega
        cases x <;> simp [isTupN, hl', isTag, hl]
  | _ => simp [isTupN, isTag]
end

section
variable {rows : List Int} {k n : Nat} {Q : D → Nat → Prop} {d : D}
def upD (xs : List D) : Bool := (List.range (xs.length - 1)).all fun i => decide (intOf (xs.getD i .none) < intOf (xs.getD (i + 1) .none))
theorem allInt_get {xs : List D} (h : ∀ x ∈ xs, isIntD x = true) {i : Nat} (hi : i < xs.length) : xs[i]? = some (.int (intOf (xs.getD i .none))) := by
  have h1 := h xs[i] (List.getElem_mem hi)
  rw [List.getD_eq_getElem?_getD, List.getElem?_eq_getElem hi]
  simp only [Option.getD_some]
  cases e : xs[i] <;> rw [e] at h1 <;> first | rfl | cases h1
theorem atI_int {xs : List D} (h : ∀ x ∈ xs, isIntD x = true) {i : Nat} (hi : i < xs.length) : atI xs (i : Int) = some (.int (intOf (xs.getD i .none))) := atI_nat (allInt_get h hi)
/-- is_ascending, of ints -/
theorem f8 {xs : List D} (h : ∀ x ∈ xs, isIntD x = true) (hl : xs.length ≤ 16777216) : wp (callF (tab rows) (k + 1) 8 [.tup xs]) n Q ↔ Q (.bool (upD xs)) n := by
  refine wp_eq (wp_out ?_)
  rw [wp_def tab_8 rfl]
  simp [d_8, b_8, n_8]
  rw [range2_eq (by omega)]
  simp
  refine ⟨by omega, wp_lc_range (fun i => .bool (decide (intOf (xs.getD i .none) < intOf (xs.getD (i + 1) .none)))) (fun i hi => ?_) ?_⟩
  · have h1 : i < xs.length := by omega
    have h2 : i + 1 < xs.length := by omega
    have e1 : (1 + (i : Int)) - 1 = (i : Int) := by omega
    have e2 : 1 + (i : Int) = ((i + 1 : Nat) : Int) := by omega
    simp [e1, atI_int h h1, -Bool.exists_bool]
    rw [e2, atI_int h h2]
    simp [-Bool.exists_bool]
  · have e : ((xs.length : Int) - 1).toNat = xs.length - 1 := by omega
    simp [e, upD]
end
section
variable {rows : List Int} {k n : Nat} {Q : D → Nat → Prop}
/-- is_ascending, of rows -/
theorem f8r {rs : List (List Int)} (hl : rs.length ≤ 16777216) : wp (callF (tab rows) (k + 1) 8 [.tup (rs.map tupI)]) n Q ↔ Q (.bool (upR rs)) n := by
  refine wp_eq (wp_out ?_)
  rw [wp_def tab_8 rfl]
  simp [d_8, b_8, n_8]
  rw [range2_eq (by omega)]
  simp
  refine ⟨by omega, wp_lc_range (fun i => .bool (decide (rs.getD i [] < rs.getD (i + 1) []))) (fun i hi => ?_) ?_⟩
  · have h1 : i < rs.length := by omega
    have h2 : i + 1 < rs.length := by omega
    have e1 : (1 + (i : Int)) - 1 = (i : Int) := by omega
    have e2 : 1 + (i : Int) = ((i + 1 : Nat) : Int) := by omega
    simp [e1, atI_row h1, -Bool.exists_bool, -List.getD_eq_getElem?_getD]
    rw [e2, atI_row h2]
    simp [lt_rows, -Bool.exists_bool, -List.getD_eq_getElem?_getD]
  · have e : ((rs.length : Int) - 1).toNat = rs.length - 1 := by omega
    simp [upR, -List.getD_eq_getElem?_getD]
end

section
variable {rows : List Int} {k n : Nat} {Q : D → Nat → Prop} {d : D}
def tupAll (d : D) (p : D → Bool) : Bool := match d with
  | .tup xs => xs.all p
  | _ => false
/-- are_integers -/
theorem f9 {lo hi : Int} (hd : d.data = true) (hl : ∀ xs, d = .tup xs → xs.length ≤ 16777216) : wp (callF (tab rows) (k + 3) 9 [d, .int lo, .int hi]) n Q ↔ Q (.bool (tupAll d fun x => numIn x lo hi)) n := by
  refine wp_eq (wp_out ?_)
  rw [wp_def tab_9 rfl]
  cases d with
  | tup xs =>
    have hx := fun x hx => datas_mem (x := x) hd hx
    simp [d_9, b_9, n_9]
    refine ⟨hl _ rfl, wp_lc_map (fun x => .bool (numIn x lo hi)) (fun x hx' => ?_) ?_⟩
    · simp [f5 (hx x hx')]
    · simp [tupAll]
  | _ => simp_all [d_9, b_9, n_9, tupAll, D.data]
end

section
variable {rows : List Int} {k n : Nat} {Q : D → Nat → Prop} {d : D}
def intsX : D → List Int
  | .tup ys => ys.map intOf
  | _ => []
def rowX (m : Nat) (lo hi : Int) (x : D) : Bool := isTupN x m && tupAll x fun y => numIn y lo hi
/-- ascending rows of m ints -/
def rowsB (d : D) (m : Nat) (lo hi : Int) : Bool := match d with
  | .tup xs => xs.all (rowX m lo hi) && upR (xs.map intsX)
  | _ => false
theorem rowX_eq {m : Nat} {lo hi : Int} {x : D} (h : tupAll x (fun y => numIn y lo hi) = true) : x = tupI (intsX x) := by
  cases x with
  | tup ys =>
    unfold intsX tupI
    rw [List.map_map]
    congr 1
    have h : ys.all (fun y => numIn y lo hi) = true := h
    rw [List.all_eq_true] at h
    conv => lhs; rw [← List.map_id ys]
    refine List.map_congr_left fun y hy => ?_
    have := h y hy
    cases y <;> first | rfl | cases this
  | _ => cases h
theorem rowsX_eq {m : Nat} {lo hi : Int} {xs : List D} (h : ∀ x ∈ xs, tupAll x (fun y => numIn y lo hi) = true) : xs = (xs.map intsX).map tupI := by
  rw [List.map_map]
  conv => lhs; rw [← List.map_id xs]
  exact List.map_congr_left fun x hx => rowX_eq (m := m) (h x hx)
/-- are_rows -/
theorem f83 {m : Nat} {lo hi : Int} {t e : Nat} (ht : t ≤ 1000000) (hs : Sm t e d) : wp (callF (tab rows) (k + 4) 83 [d, .int (m : Nat), .int lo, .int hi]) n Q ↔ Q (.bool (rowsB d m lo hi)) n := by
  refine wp_eq (wp_out ?_)
  rw [wp_def tab_83 rfl]
  cases d with
  | tup xs =>
    obtain ⟨e, rfl⟩ : ∃ e', e = e' + 1 := by
      cases e with
      | zero => exact hs.elim
      | succ e => exact ⟨e, rfl⟩
    obtain ⟨hl, hx⟩ := hs
    have hd := fun x h => (hx x h).data
    have hlx : ∀ x ∈ xs, ∀ ys, x = .tup ys → ys.length ≤ 16777216 := fun x h ys e2 => by
      have := hx x h
      subst e2
      cases e with
      | zero => exact this.elim
      | succ e => have := this.1; omega
    simp [d_83, b_83, n_83, -Bool.exists_bool]
    refine ⟨by omega, wp_lc_map (fun x => .bool (isTupN x m)) (fun x h => ?_) ?_⟩
    · simp [f6 (hd x h)]
    · simp [-Bool.exists_bool]
      by_cases h1 : xs.all (fun x => isTupN x m) = true
      · have hne : ¬ ∃ x, x ∈ xs ∧ isTupN x m = false := fun ⟨x, hx1, hx2⟩ => by
          rw [List.all_eq_true.mp h1 x hx1] at hx2
          cases hx2
        rw [if_neg hne]
        refine ⟨by omega, wp_lc_map (fun x => .bool (tupAll x fun y => numIn y lo hi)) (fun x h => ?_) ?_⟩
        · simp [f9 (hd x h) (hlx x h)]
        · simp [-Bool.exists_bool]
          by_cases h2 : xs.all (fun x => tupAll x fun y => numIn y lo hi) = true
          · have h2' := List.all_eq_true.mp h2
            rw [if_pos h2']
            have e3 := rowsX_eq (m := m) h2'
            have h3 : xs.all (rowX m lo hi) = true := by
              rw [List.all_eq_true] at h1 ⊢
              intro x h
              unfold rowX
              rw [h1 x h, h2' x h]
              rfl
            have hul : (xs.map intsX).length ≤ 16777216 := by rw [List.length_map]; omega
            have hu := f8r (rows := rows) (k := k + 2) (n := n) (Q := fun d m' => d = D.bool (rowsB (.tup xs) m lo hi) ∧ m' = n) hul
            rw [← e3] at hu
            refine hu.mpr ⟨?_, rfl⟩
            show _ = D.bool (xs.all (rowX m lo hi) && upR (xs.map intsX))
            rw [h3]
            rfl
          · rw [if_neg fun z => h2 (List.all_eq_true.mpr z)]
            have h3 : xs.all (rowX m lo hi) = false := by
              rw [Bool.eq_false_iff]
              intro z
              refine h2 (List.all_eq_true.mpr fun x h => ?_)
              have := List.all_eq_true.mp z x h
              unfold rowX at this
              exact (Bool.and_eq_true_iff.mp this).2
            simp [rowsB, h3, -Bool.exists_bool, -List.all_eq_false]
      · have hne : ∃ x, x ∈ xs ∧ isTupN x m = false := by
          have := List.all_eq_false.mp (Bool.eq_false_iff.mpr h1)
          simpa using this
        rw [if_pos hne]
        have h3 : xs.all (rowX m lo hi) = false := by
          rw [Bool.eq_false_iff]
          intro z
          refine h1 (List.all_eq_true.mpr fun x h => ?_)
          have := List.all_eq_true.mp z x h
          unfold rowX at this
          exact (Bool.and_eq_true_iff.mp this).1
        simp [rowsB, h3, -Bool.exists_bool, -List.all_eq_false]
  | _ => simp_all [d_83, b_83, n_83, rowsB, D.data]
end

section
variable {rows : List Int} {k n : Nat} {Q : D → Nat → Prop} {d : D}
/-- deeds_of -/
theorem f26 {N dd : Nat} {rs : List (List Int)} {es : List Int} (h : IsPl N dd rs es) (hN : 1 ≤ N) (hd : dd ≤ 40) : wp (callF (tab rows) (k + 1) 26 [plantD rs es]) n Q ↔ Q (.int dd) n := by
  obtain ⟨r, hr, hl⟩ : ∃ r, rowOf rs 0 = r ∧ r.length = dd := ⟨_, rfl, h.rowLen (by omega)⟩
  have e0 : ixD (tupII rs) (.int 0) = some (tupI r) := by rw [← hr]; exact ix_tupII (s := 0) (by rw [h.len]; omega)
  refine wp_eq (wp_out ?_)
  rw [wp_def tab_26 rfl]
  simp [d_26, b_26, n_26, plantD, e0]
  simp [tupI, hl]
end

section
variable {rows : List Int} {k n : Nat} {Q : D → Nat → Prop} {d : D}
/-- doable -/
theorem f27 {N dd : Nat} {rs : List (List Int)} {es : List Int} (h : IsPl N dd rs es) {s : Nat} (hs : s < N) (hd : dd ≤ 40) : wp (callF (tab rows) (k + 1) 27 [plantD rs es, .int (s : Nat)]) n Q ↔ Q (tupN (doR (rowOf rs s))) n := by
  obtain ⟨r, hr, hl⟩ : ∃ r, rowOf rs s = r ∧ r.length = dd := ⟨_, rfl, h.rowLen hs⟩
  have e0 : ixD (tupII rs) (.int (s : Nat)) = some (tupI r) := by rw [← hr]; exact ix_tupII (by rw [h.len]; exact hs)
  have e1 : enumGo 0 (r.map D.int) = (List.range r.length).map fun j => .tup [.int ((0 + j : Nat) : Int), .int (r.getD j (-1))] := enum_map
  refine wp_eq (wp_out ?_)
  rw [wp_def tab_27 rfl]
  simp [d_27, b_27, n_27, plantD, e0]
  simp [tupI, e1]
  refine ⟨by omega, wp_pick (fun j => r.getD j (-1) != -1) (fun j => .int (j : Nat)) (fun j _ => ?_) ?_⟩
  · by_cases hj : r[j]?.getD (-1) = -1 <;> simp [hj]
  · simp [tupN, doR, hr]
end

section
variable {rows : List Int} {k n : Nat} {Q : D → Nat → Prop} {d : D}
theorem aft_append {rs : List (List Int)} : ∀ {c : List Nat} {s : Nat} {c' : List Nat}, aft rs s (c ++ c') = (aft rs s c).bind fun s' => aft rs s' c'
  | [], s, c' => rfl
  | j :: c, s, c' => by
    simp only [List.cons_append, aft]
    split
    · rfl
    · exact aft_append
theorem aft_lt {N dd : Nat} {rs : List (List Int)} {es : List Int} (h : IsPl N dd rs es) : ∀ {c : List Nat} {s s' : Nat}, s < N → (∀ j ∈ c, j < dd) → aft rs s c = some s' → s' < N
  | [], s, s', hs, _, e => by cases e; exact hs
  | j :: c, s, s', hs, hc, e => by
    simp only [aft] at e
    split at e
    · cases e
    · have := h.goalBd hs (hc j List.mem_cons_self)
      exact aft_lt h (by omega) (fun j hj => hc j (List.mem_cons_of_mem _ hj)) e
def optI : Option Nat → D
  | some s => .int (s : Nat)
  | none => .none
/-- after -/
theorem f28 {N dd : Nat} {rs : List (List Int)} {es : List Int} (h : IsPl N dd rs es) (hN : 1 ≤ N) {c : List Nat} (hc : ∀ j ∈ c, j < dd) : wp (callF (tab rows) (k + 1) 28 [plantD rs es, tupN c]) n Q ↔ Q (optI (aft rs 0 c)) n := by
  refine wp_eq (wp_out ?_)
  rw [wp_def tab_28 rfl]
  simp [d_28, b_28, n_28, plantD, tupN]
  refine wp_for (I := fun i ρ m => m = n ∧ ∃ (s : Nat) (x3 : Sl), ρ = [.val (.tup [tupII rs, tupI es]), .val (.tup (c.map fun i => .int (i : Nat))), .val (.int (s : Nat)), x3] ∧ aft rs 0 (c.take i) = some s) ⟨rfl, 0, _, rfl, rfl⟩ ?_ ?_
  · rintro i d ρ m hd ⟨rfl, s, x3, rfl, ha⟩
    rw [List.getElem?_map, Option.map_eq_some_iff] at hd
    obtain ⟨j, hj, rfl⟩ := hd
    have hjd : j < dd := hc j (List.mem_of_getElem? hj)
    have hs : s < N := aft_lt h (by omega) (fun j hj => hc j (List.mem_of_mem_take hj)) ha
    obtain ⟨r, hr, hl⟩ : ∃ r, rowOf rs s = r ∧ r.length = dd := ⟨_, rfl, h.rowLen hs⟩
    have e0 : ixD (tupII rs) (.int (s : Nat)) = some (tupI r) := by rw [← hr]; exact ix_tupII (by rw [h.len]; exact hs)
    have e1 : ixD (tupI r) (.int (j : Nat)) = some (.int (goal rs s j)) := by unfold goal; rw [hr]; exact ix_tupI (by omega) (-1)
    have e2 : aft rs 0 (c.take (i + 1)) = aft rs s [j] := by
      rw [List.take_add_one, hj, aft_append, ha]
      rfl
    have hg := h.goalBd hs hjd
    have e3 : aft rs 0 c = (aft rs s [j]).bind fun s' => aft rs s' (c.drop (i + 1)) := by
      conv => lhs; rw [← List.take_append_drop (i + 1) c]
      rw [aft_append, e2]
    by_cases hz : goal rs s j = -1
    · simp [e0, e1, hz]
      rw [e3]
      simp [aft, hz, optI]
    · simp [e0, e1, hz]
      refine ⟨(goal rs s j).toNat, by omega, ?_⟩
      rw [e2]
      simp [aft, hz]
  · rintro ρ m ⟨rfl, s, x3, rfl, ha⟩
    simp at ha
    simp [ha, optI]
end

section
variable {rows : List Int} {k n : Nat} {Q : D → Nat → Prop} {α β : Type} {encL : β → D} {enc : α → D} {s : Ent α β}
/-- Roads.ascending, of rows of ints -/
theorem f702 {en : α → List Int} (he : ∀ x, enc x = tupI (en x)) (hl : s.1.length ≤ 16777216) : wp (callF (tab rows) (k + 1) 702 [roadsD enc encL s]) n Q ↔ Q (.tup ((sortR (s.1.map en)).map tupI)) n := by
  refine wp_eq (wp_out ?_)
  rw [wp_def tab_702 rfl]
  have e : s.1.map enc = (s.1.map en).map tupI := by rw [List.map_map]; exact List.map_congr_left fun x _ => he x
  have e2 : (sortR (s.1.map en)).length ≤ 16777216 := by rw [sortR_perm.length_eq, List.length_map]; exact hl
  have e3 : ((nsRoads.zip [D.dict (s.1.map enc) (s.2.map (encP enc encL)), .lst (s.1.map enc)]).lookup (Str.ofString "nodes")) = some (.lst (s.1.map enc)) := rfl
  simp [d_702, b_702, n_702]
  rw [e, sorted_rows (by simpa using hl)]
  simp
end

section
variable {rows : List Int} {k n : Nat} {Q : D → Nat → Prop} {α β : Type} [DecidableEq α] {encL : β → D} {enc : α → D} {s : Ent α β} {step : α → List (β × α)} {start : α} {dep : Nat → Nat}
theorem dget_enc (E : Enc enc) (h : BfsOk step start s dep) {b : Nat} {x : α} (hx : s.1[b]? = some x) : dgetD (s.1.map enc) (s.2.map (encP enc encL)) (enc x) = some (encP enc encL (prnB s x)) := by
  unfold dgetD
  rw [E.idx, idx_nodup h.nd hx]
  show (s.2.map (encP enc encL))[b]? = _
  rw [List.getElem?_map, h.parAt hx]
  rfl
theorem ix_roads (E : Enc enc) (h : BfsOk step start s dep) {b : Nat} {x : α} (hx : s.1[b]? = some x) : ixD (.dict (s.1.map enc) (s.2.map (encP enc encL))) (enc x) = some (encP enc encL (prnB s x)) := by
  show (if kindOk (s.1.map enc) (enc x) = true then dgetD (s.1.map enc) (s.2.map (encP enc encL)) (enc x) else none) = _
  rw [if_pos E.ok]
  exact dget_enc E h hx
/-- the way to a node -/
def wayTo (s : Ent α β) (x : α) : List β := (wayB s s.1.length x).reverse
/-- Roads.way_to -/
theorem f711 (E : Enc enc) (h : BfsOk step start s dep) (hl : s.1.length ≤ 1000000) {b : Nat} {x : α} (hx : s.1[b]? = some x) : wp (callF (tab rows) (k + 1) 711 [roadsD enc encL s, enc x]) n Q ↔ Q (.tup ((wayTo s x).map encL)) n := by
  have e3 : ((nsRoads.zip [D.dict (s.1.map enc) (s.2.map (encP enc encL)), .lst (s.1.map enc)]).lookup (Str.ofString "_before")) = some (.dict (s.1.map enc) (s.2.map (encP enc encL))) := rfl
  refine wp_eq (wp_out ?_)
  rw [wp_def tab_711 rfl]
  simp [d_711, b_711, n_711]
  have hb := (List.getElem?_eq_some_iff.mp hx).1
  refine wp_while (I := fun ρ m => m = n ∧ ∃ (b' : Nat) (y : α) (acc : List β) (x3 : Sl) (kk : Nat), ρ = [.val (roadsD enc encL s), .val (enc y), .own (.lst (acc.map encL)), x3] ∧ s.1[b']? = some y ∧ b' < kk ∧ acc.length + kk ≤ s.1.length ∧ acc ++ wayB s kk y = wayB s s.1.length x)
    (fun ρ => match (ρ[2]? : Option Sl) with | some (.own (.lst l)) => s.1.length - l.length | _ => 0) ⟨rfl, b, x, [], .un, s.1.length, rfl, hx, hb, by simp, rfl⟩ (by simp; unfold WFUEL; omega) ?_
  rintro ρ m ⟨rfl, b', y, acc, x3, kk, rfl, hy, hk, hle, hw⟩
  have eix := ix_roads (encL := encL) E h hy
  obtain ⟨kk, rfl⟩ : ∃ k', kk = k' + 1 := ⟨kk - 1, by omega⟩
  have hwy : wayB s (kk + 1) y = match prnB s y with | none => [] | some (p, l) => l :: wayB s kk p := rfl
  simp [eix]
  cases hp : prnB s y with
  | none =>
    rw [hp] at hwy
    simp only at hwy
    rw [hwy, List.append_nil] at hw
    simp [encP]
    unfold wayTo
    rw [← hw, List.map_reverse]
  | some q =>
    obtain ⟨p, l⟩ := q
    rw [hp] at hwy
    simp only at hwy
    have hpar := h.parAt hy
    rw [hp] at hpar
    obtain ⟨a, z, h1, h2, h3, h4, h5⟩ := h.par b' p l hpar
    simp [encP, eix, hp]
    refine ⟨by omega, ⟨a, p, acc ++ [l], ⟨rfl, by simp⟩, h2, kk, by omega, by simp; omega, ?_⟩, by omega⟩
    rw [List.append_assoc, ← hw, hwy]
    rfl
end

section
variable {rows : List Int} {k n : Nat} {Q : D → Nat → Prop} {N1 N2 dd : Nat} {rs1 rs2 : List (List Int)} {es1 es2 : List Int}
/-- step_both -/
theorem f68 (h1 : IsPl N1 dd rs1 es1) (h2 : IsPl N2 dd rs2 es2) {p : Nat × Nat} (hp : p.1 < N1 ∧ p.2 < N2) {j : Nat} (hj : j < dd) : wp (callF (tab rows) (k + 1) 68 [plantD rs1 es1, plantD rs2 es2, pairD p, .int (j : Nat)]) n Q ↔ Q (optP (bothG rs1 rs2 p j)) n := by
  obtain ⟨r1, hr1, hl1⟩ : ∃ r, rowOf rs1 p.1 = r ∧ r.length = dd := ⟨_, rfl, h1.rowLen hp.1⟩
  obtain ⟨r2, hr2, hl2⟩ : ∃ r, rowOf rs2 p.2 = r ∧ r.length = dd := ⟨_, rfl, h2.rowLen hp.2⟩
  have e0 : ixD (tupII rs1) (.int (p.1 : Nat)) = some (tupI r1) := by rw [← hr1]; exact ix_tupII (by rw [h1.len]; exact hp.1)
  have e1 : ixD (tupI r1) (.int (j : Nat)) = some (.int (goal rs1 p.1 j)) := by unfold goal; rw [hr1]; exact ix_tupI (by omega) (-1)
  have e2 : ixD (tupII rs2) (.int (p.2 : Nat)) = some (tupI r2) := by rw [← hr2]; exact ix_tupII (by rw [h2.len]; exact hp.2)
  have e3 : ixD (tupI r2) (.int (j : Nat)) = some (.int (goal rs2 p.2 j)) := by unfold goal; rw [hr2]; exact ix_tupI (by omega) (-1)
  have e4 : ∀ a b : Int, cmpD .mem (.int (-1)) (.tup [.int a, .int b]) = some (decide ((-1 : Int) ∈ [a, b])) := fun a b => mem_ints (is := [a, b])
  have g1 := h1.goalBd hp.1 hj
  have g2 := h2.goalBd hp.2 hj
  refine wp_eq (wp_out ?_)
  rw [wp_def tab_68 rfl]
  simp [d_68, b_68, n_68, plantD, pairD, e0, e1, e2, e3, e4]
  unfold bothG
  by_cases z1 : goal rs1 p.1 j = -1
  · simp [z1, optP]
  · by_cases z2 : goal rs2 p.2 j = -1
    · simp [z2, optP]
    · have y1 : ¬ (-1 : Int) = goal rs1 p.1 j := fun e => z1 e.symm
      have y2 : ¬ (-1 : Int) = goal rs2 p.2 j := fun e => z2 e.symm
      simp [z1, z2, y1, y2, optP, pairD]
      omega
end

section
variable {rows : List Int} {k n : Nat} {Q : D → Nat → Prop} {N1 N2 dd : Nat} {rs1 rs2 : List (List Int)} {es1 es2 : List Int}
/-- the steps of both -/
theorem f726 (h1 : IsPl N1 dd rs1 es1) (h2 : IsPl N2 dd rs2 es2) (hd : dd ≤ 40) {p : Nat × Nat} (hp : p.1 < N1 ∧ p.2 < N2) : wp (callF (tab rows) (k + 2) 726 [plantD rs1 es1, plantD rs2 es2, .lst (rangeD 0 dd), pairD p]) n Q ↔ Q (.lst ((stepsB rs1 rs2 dd p).map fun q => .tup [natD q.1, pairD q.2])) n := by
  refine wp_eq (wp_out ?_)
  rw [wp_def tab_726 rfl]
  simp [d_726, e_726, n_726]
  have em : rangeD 0 dd = (List.range dd).map fun j => .int ((j : Nat) : Int) := by simp [rangeD]
  rw [em]
  refine ⟨by first | omega | (simp; omega), wp_picked (fun j => (bothG rs1 rs2 p j).map fun q => .tup [natD j, pairD q]) (fun j hj => ?_) ?_⟩
  · have hj := List.mem_range.mp hj
    simp
    rw [f68 h1 h2 hp hj]
    cases e : bothG rs1 rs2 p j with
    | none => simp only [truD_optP, ex1_some, Option.isSome_none, Bool.false_eq_true, if_false]; exact ⟨rfl, trivial⟩
    | some q =>
      simp
      rw [f68 h1 h2 hp hj, e]
      simp [optP, natD]
  · simp only [and_true]
    congr 1
    unfold stepsB
    rw [List.map_filterMap]
    congr 1
    funext j
    cases bothG rs1 rs2 p j <;> rfl
end

section
variable {rows : List Int} {k n : Nat} {Q : D → Nat → Prop} {N1 N2 dd : Nat} {rs1 rs2 : List (List Int)} {es1 es2 : List Int}
/-- both_steps -/
theorem f84 (h1 : IsPl N1 dd rs1 es1) (hN : 1 ≤ N1) (hd : dd ≤ 40) : wp (callF (tab rows) (k + 2) 84 [plantD rs1 es1, plantD rs2 es2]) n Q ↔ Q (.clo 726 [plantD rs1 es1, plantD rs2 es2, .lst (rangeD 0 dd)]) n := by
  refine wp_eq (wp_out ?_)
  rw [wp_def tab_84 rfl]
  simp [d_84, b_84, n_84]
  rw [f26 h1 hN hd]
  simp
  omega
end

section
variable {rows : List Int} {k n : Nat} {Q : D → Nat → Prop} {N1 N2 dd : Nat} {rs1 rs2 : List (List Int)} {es1 es2 : List Int}
/-- further_deeds -/
theorem f85 (h1 : IsPl N1 dd rs1 es1) (h2 : IsPl N2 dd rs2 es2) (hd : dd ≤ 40) {p : Nat × Nat} (hp : p.1 < N1 ∧ p.2 < N2) : wp (callF (tab rows) (k + 2) 85 [plantD rs1 es1, plantD rs2 es2, pairD p]) n Q ↔ Q (.lst ((farL rs1 rs2 p).map natD)) n := by
  obtain ⟨r2, hr2, hl2⟩ : ∃ r, rowOf rs2 p.2 = r ∧ r.length = dd := ⟨_, rfl, h2.rowLen hp.2⟩
  have e2 : ixD (tupII rs2) (.int (p.2 : Nat)) = some (tupI r2) := by rw [← hr2]; exact ix_tupII (by rw [h2.len]; exact hp.2)
  have e3 : ∀ j, j < dd → ixD (tupI r2) (.int (j : Nat)) = some (.int (goal rs2 p.2 j)) := fun j hj => by unfold goal; rw [hr2]; exact ix_tupI (by omega) (-1)
  have ez : ixD (plantD rs2 es2) (.int 0) = some (tupII rs2) := rfl
  refine wp_eq (wp_out ?_)
  rw [wp_def tab_85 rfl]
  simp [d_85, b_85, n_85, pairD]
  rw [f27 h1 hp.1 hd]
  simp [tupN]
  have hlr := h1.rowLen hp.1
  have hdl : (doR (rowOf rs1 p.1)).length ≤ dd := by
    unfold doR
    refine Nat.le_trans (List.length_filter_le _ _) ?_
    rw [List.length_range, hlr]
    exact Nat.le_refl _
  refine ⟨by omega, wp_pick (fun j => goal rs2 p.2 j == -1) natD (fun j hj => ?_) ?_⟩
  · have hjd : j < dd := by have := (mem_doR.mp hj).1; omega
    simp [ez, e2, e3 j hjd]
    by_cases z : goal rs2 p.2 j = -1 <;> simp [z, natD]
  · simp [farL]
end

section
variable {rows : List Int} {k n : Nat} {Q : D → Nat → Prop} {N1 N2 dd : Nat} {rs1 rs2 : List (List Int)} {es1 es2 : List Int}
def bfsB (rs1 rs2 : List (List Int)) (dd : Nat) : Ent (Nat × Nat) Nat := bfs (stepsB rs1 rs2 dd) (0, 0)
theorem bfsB_ok (h1 : IsPl N1 dd rs1 es1) (h2 : IsPl N2 dd rs2 es2) (hN1 : 1 ≤ N1 ∧ N1 ≤ 40) (hN2 : 1 ≤ N2 ∧ N2 ≤ 40) : (∃ dep, BfsOk (stepsB rs1 rs2 dd) (0, 0) (bfsB rs1 rs2 dd) dep) ∧ (bfsB rs1 rs2 dd).1.length ≤ N1 * N2 ∧ ∀ p ∈ (bfsB rs1 rs2 dd).1, p.1 < N1 ∧ p.2 < N2 := by
  have hb : N1 * N2 ≤ 1600 := Nat.mul_le_mul hN1.2 hN2.2
  have h0 : ((0, 0) : Nat × Nat) ∈ allP N1 N2 := mem_allP.mpr ⟨hN1.1, hN2.1⟩
  obtain ⟨dep, h⟩ := bfs_ok (step := stepsB rs1 rs2 dd) h0 (stepsB_in h1 h2) (by rw [allP_len]; omega)
  have sub : ∀ p ∈ (bfsB rs1 rs2 dd).1, p ∈ allP N1 N2 := fun p hp => by
    obtain ⟨b, hb, e⟩ := List.getElem_of_mem hp
    have hx : (bfsB rs1 rs2 dd).1[b]? = some p := by rw [List.getElem?_eq_getElem hb, e]
    obtain ⟨w, _⟩ := h.way (k := b + 1) (Nat.lt_succ_self b) hx
    clear hx e hb hp
    have key : ∀ {c : List Nat} {x z : Nat × Nat}, x ∈ allP N1 N2 → Ways (stepsB rs1 rs2 dd) x c z → z ∈ allP N1 N2 := by
      intro c
      induction c with
      | nil => intro x z hx e; rw [← (show x = z from e)]; exact hx
      | cons l c ih => intro x z hx ⟨y, h1', h2'⟩; exact ih (stepsB_in h1 h2 x hx _ h1') h2'
    exact key h0 w
  exact ⟨⟨dep, h⟩, by rw [← allP_len]; exact nodup_sub_len h.nd sub, fun p hp => mem_allP.mp (sub p hp)⟩
/-- Roads of both plants -/
theorem f705b (h1 : IsPl N1 dd rs1 es1) (h2 : IsPl N2 dd rs2 es2) (hN1 : 1 ≤ N1 ∧ N1 ≤ 40) (hN2 : 1 ≤ N2 ∧ N2 ≤ 40) (hd : dd ≤ 40) : wp (callF (tab rows) (k + 3) 705 [pairD (0, 0), .clo 726 [plantD rs1 es1, plantD rs2 es2, .lst (rangeD 0 dd)]]) n Q ↔ Q (roadsD pairD natD (bfsB rs1 rs2 dd)) n := by
  have hb : N1 * N2 ≤ 1600 := Nat.mul_le_mul hN1.2 hN2.2
  rw [wp_primC tab_705]
  refine roads_wp enc_pair (allP N1 N2) (mem_allP.mpr ⟨hN1.1, hN2.1⟩) (stepsB_in h1 h2) (by rw [allP_len]; omega) fun x hx => ?_
  have := f726 (rows := rows) (k := k) (n := n) (Q := fun rd m => m = n ∧ itemsD rd = some ((stepsB rs1 rs2 dd x).map fun p => .tup [natD p.1, pairD p.2])) h1 h2 hd (mem_allP.mp hx)
  exact this.mpr ⟨rfl, rfl⟩
def strC : Str := Str.ofString "course"
def strW : Str := Str.ofString "within"
/-- what within_paper tells -/
def withinP (rs1 rs2 : List (List Int)) (dd : Nat) : D := match (bfsB rs1 rs2 dd).1.find? fun p => decide (farL rs1 rs2 p ≠ []) with
  | some p => .tup [.str strC, .tup ((wayTo (bfsB rs1 rs2 dd) p ++ (farL rs1 rs2 p).take 1).map natD)]
  | none => .tup [.str strW, .tup ((sortR ((bfsB rs1 rs2 dd).1.map pairI)).map tupI)]
theorem find_go {α : Type} {p : α → Bool} {l : List α} {i : Nat} {a : α} (hp : ∀ x ∈ l.take i, p x = false) (ha : l[i]? = some a) (hpa : p a = true) : l.find? p = some a := by
  induction l generalizing i with
  | nil => simp at ha
  | cons x l ih =>
    cases i with
    | zero =>
      simp at ha
      subst ha
      rw [List.find?_cons_of_pos hpa]
    | succ i =>
      have hx : p x = false := hp x (by simp)
      rw [List.find?_cons_of_neg (by rw [hx]; simp)]
      exact ih (i := i) (fun y hy => hp y (by simp [hy])) (by simpa using ha)
/-- within_paper -/
theorem f724 (h1 : IsPl N1 dd rs1 es1) (h2 : IsPl N2 dd rs2 es2) (hN1 : 1 ≤ N1 ∧ N1 ≤ 40) (hN2 : 1 ≤ N2 ∧ N2 ≤ 40) (hd : dd ≤ 40) : wp (callF (tab rows) (k + 5) 724 [plantD rs1 es1, plantD rs2 es2]) n Q ↔ Q (withinP rs1 rs2 dd) n := by
  obtain ⟨⟨dep, hB⟩, hlen, hin⟩ := bfsB_ok h1 h2 hN1 hN2
  have hb : N1 * N2 ≤ 1600 := Nat.mul_le_mul hN1.2 hN2.2
  have e3 : ((nsRoads.zip [D.dict ((bfsB rs1 rs2 dd).1.map pairD) ((bfsB rs1 rs2 dd).2.map (encP pairD natD)), .lst ((bfsB rs1 rs2 dd).1.map pairD)]).lookup (Str.ofString "nodes")) = some (.lst ((bfsB rs1 rs2 dd).1.map pairD)) := rfl
  refine wp_eq (wp_out ?_)
  rw [wp_def tab_724 rfl]
  simp [d_724, b_724, n_724]
  rw [f84 h1 hN1.1 hd]
  simp
  rw [show (D.tup [.int 0, .int 0]) = pairD (0, 0) from rfl, f705b h1 h2 hN1 hN2 hd]
  simp
  generalize hs : bfsB rs1 rs2 dd = s at hB hlen hin
  refine wp_for (I := fun i ρ m => m = n ∧ (∃ x3 x4 : Sl, ρ = [.val (plantD rs1 es1), .val (plantD rs2 es2), .val (roadsD pairD natD s), x3, x4]) ∧ ∀ x ∈ s.1.take i, decide (farL rs1 rs2 x ≠ []) = false) ⟨rfl, ⟨.un, .un, rfl⟩, by simp⟩ ?_ ?_
  · rintro i d ρ m hd2 ⟨rfl, ⟨x3, x4, rfl⟩, hno⟩
    rw [List.getElem?_map, Option.map_eq_some_iff] at hd2
    obtain ⟨p, hp, rfl⟩ := hd2
    have hpl := hin p (List.mem_of_getElem? hp)
    simp
    rw [f85 h1 h2 hd hpl]
    simp
    cases hf : farL rs1 rs2 p with
    | nil =>
      simp
      have key : ∀ x ∈ s.1.take (i + 1), farL rs1 rs2 x = [] := fun x hx => by
        rw [List.take_add_one, hp] at hx
        rcases List.mem_append.mp hx with hx | hx
        · simpa using hno x hx
        · simp at hx; subst hx; exact hf
      exact fun a b h => key (a, b) h
    | cons j r =>
      have hfd : s.1.find? (fun p => decide (farL rs1 rs2 p ≠ [])) = some p := find_go hno hp (by simp [hf])
      have hw : withinP rs1 rs2 dd = .tup [.str strC, .tup ((wayTo s p ++ [j]).map natD)] := by
        unfold withinP
        rw [hs, hfd]
        simp only [hf]
        rfl
      have hwl : (wayTo s p).length ≤ 1600 := by
        unfold wayTo
        rw [List.length_reverse, (hB.way (List.getElem?_eq_some_iff.mp hp).1 hp).2]
        have key : ∀ b, b < s.1.length → dep b ≤ b := by
          intro b
          induction b using Nat.strongRecOn with
          | ind b ih =>
            intro hb
            obtain ⟨x, hx⟩ : ∃ x, s.1[b]? = some x := ⟨s.1[b], List.getElem?_eq_getElem hb⟩
            have hpa := hB.parAt hx
            cases e : prnB s x with
            | none =>
              rw [e] at hpa
              rw [hB.root b hpa, hB.d0]
              exact Nat.le_refl _
            | some q =>
              obtain ⟨pp, l⟩ := q
              rw [e] at hpa
              obtain ⟨a, _, q1, q2, _, _, q5⟩ := hB.par b pp l hpa
              have := ih a q1 (by omega)
              omega
        have := key i (List.getElem?_eq_some_iff.mp hp).1
        have := (List.getElem?_eq_some_iff.mp hp).1
        omega
      simp [hw]
      rw [f711 enc_pair hB (by omega) hp]
      simp [natD]
      refine ⟨by omega, ?_⟩
      rw [hw]
      simp [strC, natD]
  · rintro ρ m ⟨rfl, ⟨x3, x4, rfl⟩, hno⟩
    rw [List.length_map, List.take_length] at hno
    have hfd : s.1.find? (fun p => decide (farL rs1 rs2 p ≠ [])) = none := List.find?_eq_none.mpr fun x hx => by rw [hno x hx]; simp
    have hw : withinP rs1 rs2 dd = .tup [.str strW, .tup ((sortR (s.1.map pairI)).map tupI)] := by
      unfold withinP
      rw [hs, hfd]
    simp [hw]
    rw [f702 (enc := pairD) (en := pairI) (fun x => rfl) (by omega)]
    simp
    rw [hw]
    rfl
end

section
variable {rows : List Int} {k n : Nat} {Q : D → Nat → Prop} {d : D} {N1 N2 dd : Nat} {rs1 rs2 : List (List Int)} {es1 es2 : List Int}
def fitX (N1 N2 : Nat) : D → Bool
  | .tup [.int a, .int b] => decide (a < N1) && decide (b < N2)
  | _ => false
def prX : D → Nat × Nat
  | .tup [.int a, .int b] => (a.toNat, b.toNat)
  | _ => (0, 0)
def fitAll (N1 N2 : Nat) : D → Bool
  | .tup xs => xs.all (fitX N1 N2)
  | _ => false
def prsOf : D → List (Nat × Nat)
  | .tup xs => xs.map prX
  | _ => []
theorem fitAll_ps {ps : List (Nat × Nat)} : fitAll N1 N2 (.tup (ps.map pairD)) = ps.all fun p => decide (p.1 < N1) && decide (p.2 < N2) := by
  show (ps.map pairD).all (fitX N1 N2) = _
  rw [List.all_map]
  congr 1
  funext p
  simp [fitX, pairD]
theorem prsOf_ps {ps : List (Nat × Nat)} : prsOf (.tup (ps.map pairD)) = ps := by
  show (ps.map pairD).map prX = _
  rw [List.map_map]
  conv => rhs; rw [← List.map_id ps]
  refine List.map_congr_left fun p _ => ?_
  simp [prX, pairD]
/-- a row of pairs of states, ascending, as data -/
def prsOk (N1 N2 : Nat) (d : D) : Bool := rowsB d 2 0 ((max N1 N2 : Nat) - 1 : Int) && fitAll N1 N2 d
theorem rowX_two {lo hi : Int} {x : D} (h : rowX 2 lo hi x = true) : ∃ a b : Int, x = .tup [.int a, .int b] ∧ lo ≤ a ∧ a ≤ hi ∧ lo ≤ b ∧ b ≤ hi := by
  unfold rowX at h
  rw [Bool.and_eq_true] at h
  obtain ⟨h1, h2⟩ := h
  have e := rowX_eq (m := 2) h2
  cases x with
  | tup ys =>
    have hl : (ys.length : Int) = 2 := of_decide_eq_true h1
    match ys, hl, h2 with
    | [y, z], _, h2 =>
      have h2 : ([y, z].all fun y => numIn y lo hi) = true := h2
      simp only [List.all_cons, List.all_nil, Bool.and_true, Bool.and_eq_true] at h2
      obtain ⟨a, rfl⟩ : ∃ a, y = .int a := by cases y <;> first | exact ⟨_, rfl⟩ | cases h2.1
      obtain ⟨b, rfl⟩ : ∃ a, z = .int a := by cases z <;> first | exact ⟨_, rfl⟩ | cases h2.2
      simp [numIn] at h2
      exact ⟨a, b, rfl, h2.1.1, h2.1.2, h2.2.1, h2.2.2⟩
    | [], hl, _ => cases hl
    | [_], hl, _ => cases hl
    | _ :: _ :: _ :: _, hl, _ => simp at hl; omega
  | _ => cases h1
/-- rows of pairs, as pairs -/
theorem rows_two {hi : Int} {xs : List D} (h : xs.all (rowX 2 0 hi) = true) : ∃ ps : List (Nat × Nat), xs = ps.map pairD ∧ ∀ p ∈ ps, (p.1 : Int) ≤ hi ∧ (p.2 : Int) ≤ hi := by
  induction xs with
  | nil => exact ⟨[], rfl, by simp⟩
  | cons x xs ih =>
    rw [List.all_cons, Bool.and_eq_true] at h
    obtain ⟨ps, rfl, hb⟩ := ih h.2
    obtain ⟨a, b, rfl, h1, h2, h3, h4⟩ := rowX_two h.1
    refine ⟨(a.toNat, b.toNat) :: ps, ?_, fun p hp => ?_⟩
    · have e1 : ((a.toNat : Nat) : Int) = a := by omega
      have e2 : ((b.toNat : Nat) : Int) = b := by omega
      simp [pairD, e1, e2]
    · rcases List.mem_cons.mp hp with rfl | hp
      · show ((a.toNat : Nat) : Int) ≤ hi ∧ ((b.toNat : Nat) : Int) ≤ hi
        omega
      · exact hb p hp
theorem okD_rows {rs : List (List Int)} : okD (.tup (rs.map tupI)) = true := by
  have h1 : D.data (.tup (rs.map tupI)) = true := datas_of fun x hx => by
    obtain ⟨r, _, rfl⟩ := List.mem_map.mp hx
    exact datas_of fun y hy => by
      obtain ⟨i, _, rfl⟩ := List.mem_map.mp hy
      rfl
  have h2 : ∀ l : List Int, PyData.canLayAll0 (D.pys (l.map .int)) = true ∧ PyData.depthAll (D.pys (l.map .int)) ≤ 0 := by
    intro l
    induction l with
    | nil => exact ⟨rfl, Nat.le_refl _⟩
    | cons a l ih =>
      refine ⟨?_, ?_⟩
      · simp only [List.map_cons, D.pys, PyData.canLayAll0, ih.1, D.py, PyData.canLay0, Bool.and_self]
      · simp only [List.map_cons, D.pys, PyData.depthAll, D.py, PyData.depth]
        have := ih.2
        omega
  have h3 : ∀ l : List (List Int), PyData.canLayAll0 (D.pys (l.map tupI)) = true ∧ PyData.depthAll (D.pys (l.map tupI)) ≤ 1 := by
    intro l
    induction l with
    | nil => exact ⟨rfl, Nat.zero_le _⟩
    | cons a l ih =>
      have := h2 a
      refine ⟨?_, ?_⟩
      · simp only [List.map_cons, D.pys, PyData.canLayAll0, ih.1, tupI, D.py, PyData.canLay0, this.1, Bool.and_self]
      · simp only [List.map_cons, D.pys, PyData.depthAll, tupI, D.py, PyData.depth]
        have := ih.2
        have := this
        omega
  unfold okD
  rw [h1]
  simp only [Bool.true_and, SeqAt.shaped, D.py, PyData.canLay0, (h3 rs).1, PyData.depth, decide_eq_true_eq]
  have := (h3 rs).2
  omega
theorem eqv_ints : ∀ {a b : List Int}, PyData.eqv (D.py (tupI a)) (D.py (tupI b)) = decide (a = b) := by
  intro a b
  have key : ∀ a b : List Int, PyData.eqvAll (D.pys (a.map .int)) (D.pys (b.map .int)) = decide (a = b) := by
    intro a
    induction a with
    | nil => intro b; cases b <;> simp [D.pys, PyData.eqvAll]
    | cons x a ih =>
      intro b
      cases b with
      | nil => simp [D.pys, PyData.eqvAll]
      | cons y b =>
        simp only [List.map_cons, D.pys, PyData.eqvAll, ih, D.py, PyData.eqv]
        by_cases h : x = y <;> simp [h]
  simp only [tupI, D.py, PyData.eqv]
  exact key a b
/-- a row among rows -/
theorem mem_rows {rs : List (List Int)} {a : List Int} : cmpD .mem (tupI a) (.tup (rs.map tupI)) = some (decide (a ∈ rs)) := by
  have e1 : okD (tupI a) = true := okD_ints
  have e2 : okD (.tup (rs.map tupI)) = true := okD_rows
  have e3 : cmpD .mem (tupI a) (.tup (rs.map tupI)) = if (okD (tupI a) && okD (.tup (rs.map tupI))) = true then some ((D.pys (rs.map tupI)).any fun z => PyData.eqv z (D.py (tupI a))) else none := rfl
  rw [e3, e1, e2]
  simp only [Bool.and_self, if_true]
  congr 1
  clear e1 e2 e3
  induction rs with
  | nil => simp [D.pys]
  | cons r rs ih =>
    simp only [List.map_cons, D.pys, List.any_cons, ih, List.mem_cons]
    rw [@eqv_ints r a]
    by_cases h : r = a
    · subst h; simp
    · have h' : ¬ a = r := fun e => h e.symm
      simp [h, h']
theorem mem_pairs {ps : List (Nat × Nat)} {p : Nat × Nat} : cmpD .mem (pairD p) (.tup (ps.map pairD)) = some (decide (p ∈ ps)) := by
  rw [map_pairD, pairD_eq, mem_rows]
  congr 1
  rw [decide_eq_decide, List.mem_map]
  constructor
  · rintro ⟨q, hq, e⟩
    have : q = p := by
      simp only [pairI, List.cons.injEq, and_true] at e
      exact Prod.ext (by omega) (by omega)
    exact this ▸ hq
  · exact fun h => ⟨p, h, rfl⟩
/-- are_pairs -/
theorem f87 (h1 : IsPl N1 dd rs1 es1) (h2 : IsPl N2 dd rs2 es2) (hN1 : 1 ≤ N1 ∧ N1 ≤ 40) (hN2 : 1 ≤ N2 ∧ N2 ≤ 40) {t e : Nat} (ht : t ≤ 1000000) (hs : Sm t e d) : wp (callF (tab rows) (k + 5) 87 [plantD rs1 es1, plantD rs2 es2, d]) n Q ↔ Q (.bool (prsOk N1 N2 d && decide ((0, 0) ∈ prsOf d))) n := by
  have e1 : ixD (plantD rs1 es1) (.int 0) = some (tupII rs1) := rfl
  have e2 : ixD (plantD rs2 es2) (.int 0) = some (tupII rs2) := rfl
  have l1 : Bi.op .len [tupII rs1] = some (.int N1) := by simp [tupII, h1.len]
  have l2 : Bi.op .len [tupII rs2] = some (.int N2) := by simp [tupII, h2.len]
  have em : (if N1 < N2 then (N2 : Int) else (N1 : Int)) - 1 = ((max N1 N2 : Nat) : Int) - 1 := by split <;> omega
  refine wp_eq (wp_out ?_)
  rw [wp_def tab_87 rfl]
  simp [d_87, b_87, n_87, e1, e2, l1, l2, -Bool.exists_bool]
  rw [em, show (2 : Int) = ((2 : Nat) : Int) from rfl, f83 ht hs]
  simp [-Bool.exists_bool]
  unfold prsOk
  cases hr : rowsB d 2 0 (((max N1 N2 : Nat) : Int) - 1) with
  | false => simp [-Bool.exists_bool]
  | true =>
    simp [-Bool.exists_bool]
    cases d with
    | tup xs =>
      have hr : (xs.all (rowX 2 0 (((max N1 N2 : Nat) : Int) - 1)) && upR (xs.map intsX)) = true := hr
      rw [Bool.and_eq_true] at hr
      obtain ⟨ps, rfl, hb⟩ := rows_two hr.1
      have hl : ps.length ≤ t := by
        cases e with
        | zero => exact hs.elim
        | succ e => have := hs.1; simpa using this
      simp [-Bool.exists_bool]
      refine ⟨by omega, wp_mapped (fun p : Nat × Nat => .bool (decide (p.1 < N1) && decide (p.2 < N2))) (fun p hp => ?_) ?_⟩
      · simp [pairD, e1, e2, l1, l2, -Bool.exists_bool]
        by_cases z : p.1 < N1 <;> simp [z, -Bool.exists_bool]
      · have hm := @mem_pairs ps (0, 0)
        rw [show pairD (0, 0) = .tup [.int 0, .int 0] from rfl] at hm
        rw [prsOf_ps, fitAll_ps]
        cases hf : ps.all fun p => decide (p.1 < N1) && decide (p.2 < N2) with
        | true =>
          have hf' := hf
          simp only [op_33, boolsD_mapf, all_id, Option.map_some, ex1_some, wp_nil, hf, boolD_b, if_true]
          simp [hm, -Bool.exists_bool]
        | false =>
          simp only [op_33, boolsD_mapf, all_id, Option.map_some, ex1_some, wp_nil, hf, boolD_b]
          simp [-Bool.exists_bool]
    | _ => cases hr
end

section
variable {rows : List Int} {k n : Nat} {Q : D → Nat → Prop} {d : D} {N dd : Nat} {rs : List (List Int)} {es : List Int}
/-- is_row_of_deeds -/
theorem f88 (h : IsPl N dd rs es) (hN : 1 ≤ N) (hd : dd ≤ 40) {t e : Nat} (ht : t ≤ 100000) (hs : Sm t e d) : wp (callF (tab rows) (k + 4) 88 [plantD rs es, d]) n Q ↔ Q (.bool (tupAll d fun x => numIn x 0 ((dd : Int) - 1))) n := by
  have hdl : ∀ xs, d = .tup xs → xs.length ≤ 16777216 := fun xs e2 => by
    subst e2
    cases e with
    | zero => exact hs.elim
    | succ e => have := hs.1; omega
  refine wp_eq (wp_out ?_)
  rw [wp_def tab_88 rfl]
  simp [d_88, b_88, n_88, -Bool.exists_bool]
  rw [f7 hs.data]
  simp [-Bool.exists_bool]
  cases hb : isBtw d 0 100000 with
  | true =>
    simp [-Bool.exists_bool]
    rw [f26 h hN hd]
    simp [-Bool.exists_bool]
    rw [f9 hs.data hdl]
    simp
  | false =>
    simp [-Bool.exists_bool]
    cases d with
    | tup xs =>
      cases e with
      | zero => exact hs.elim
      | succ e =>
        have := hs.1
        simp [isBtw] at hb
        omega
    | _ => rfl
end

section
variable {rows : List Int} {k n : Nat} {Q : D → Nat → Prop} {d : D} {N1 N2 dd : Nat} {rs1 rs2 : List (List Int)} {es1 es2 : List Int}
def secD : D → D
  | .tup [_, v] => v
  | _ => .none
def natsOf : D → List Nat
  | .tup xs => xs.map fun x => (intOf x).toNat
  | _ => []
/-- a course of the one plant that the other cannot do -/
def cOk (rs1 rs2 : List (List Int)) (dd : Nat) (v : D) : Bool := tupAll v (fun x => numIn x 0 ((dd : Int) - 1)) && ((aft rs1 0 (natsOf v)).isSome && (aft rs2 0 (natsOf v)).isNone)
def okP (rs1 rs2 : List (List Int)) (dd : Nat) (ps : List (Nat × Nat)) (p : Nat × Nat) : Bool := decide (farL rs1 rs2 p = []) && (stepsB rs1 rs2 dd p).all fun q => decide (q.2 ∈ ps)
/-- what the definition says of a value -/
def wRight (N1 N2 dd : Nat) (rs1 rs2 : List (List Int)) (d : D) : Bool :=
  if isTag d strC 2 = true then cOk rs1 rs2 dd (secD d)
  else isTag d strW 2 && ((prsOk N1 N2 (secD d) && decide ((0, 0) ∈ prsOf (secD d))) && (prsOf (secD d)).all (okP rs1 rs2 dd (prsOf (secD d))))
@[simp] theorem prX_pair {p : Nat × Nat} : prX (pairD p) = p := by simp [prX, pairD]
theorem nums_tupN {v : D} {dd : Nat} (h : tupAll v (fun x => numIn x 0 ((dd : Int) - 1)) = true) : v = tupN (natsOf v) ∧ ∀ j ∈ natsOf v, j < dd := by
  cases v with
  | tup xs =>
    have h : xs.all (fun x => numIn x 0 ((dd : Int) - 1)) = true := h
    rw [List.all_eq_true] at h
    have hx : ∀ x ∈ xs, ∃ i : Int, x = .int i ∧ 0 ≤ i ∧ i ≤ (dd : Int) - 1 := fun x hm => by
      have := h x hm
      cases x <;> first | (cases this; done) | skip
      rename_i i
      simp [numIn] at this
      exact ⟨i, rfl, this.1, this.2⟩
    refine ⟨?_, fun j hj => ?_⟩
    · show D.tup xs = .tup ((xs.map fun x => (intOf x).toNat).map fun i : Nat => .int (i : Nat))
      rw [List.map_map]
      congr 1
      conv => lhs; rw [← List.map_id xs]
      refine List.map_congr_left fun x hm => ?_
      obtain ⟨i, rfl, h1, h2⟩ := hx x hm
      simp [intOf]
      omega
    · obtain ⟨x, hm, rfl⟩ := List.mem_map.mp (show j ∈ xs.map fun x => (intOf x).toNat from hj)
      obtain ⟨i, rfl, h1, h2⟩ := hx x hm
      simp [intOf]
      omega
  | _ => cases h
theorem tag_sec {w : Str} (h : isTag d w 2 = true) : d = .tup [.str w, secD d] := by
  obtain ⟨xs, rfl, hl⟩ := isTag_some h
  match xs, hl with
  | [v], _ => rfl
theorem prs_ps {v : D} (h : prsOk N1 N2 v = true) : ∃ ps : List (Nat × Nat), v = .tup (ps.map pairD) ∧ prsOf v = ps ∧ (∀ p ∈ ps, p.1 < N1 ∧ p.2 < N2) ∧ upR (ps.map pairI) = true := by
  unfold prsOk at h
  rw [Bool.and_eq_true] at h
  obtain ⟨h1, h2⟩ := h
  cases v with
  | tup xs =>
    have h1 : (xs.all (rowX 2 0 (((max N1 N2 : Nat) : Int) - 1)) && upR (xs.map intsX)) = true := h1
    rw [Bool.and_eq_true] at h1
    obtain ⟨ps, rfl, hb⟩ := rows_two h1.1
    refine ⟨ps, rfl, prsOf_ps, fun p hp => ?_, ?_⟩
    · rw [fitAll_ps, List.all_eq_true] at h2
      simpa using h2 p hp
    · have := h1.2
      rw [List.map_map] at this
      exact this
  | _ => cases h1
theorem isNone_optI {o : Option Nat} : cmpD .is (optI o) .none = some o.isNone := by cases o <;> rfl
theorem isNot_optI {o : Option Nat} : cmpD .isNot (optI o) .none = some o.isSome := by cases o <;> rfl
theorem dkeys_enc {α : Type} [DecidableEq α] {enc : α → D} (E : Enc enc) {l : List α} {x : α} : dkeys (l.map enc) (enc x) = (if x ∈ l then l else l ++ [x]).map enc := by
  unfold dkeys
  rw [E.has]
  by_cases h : x ∈ l <;> simp [h]
/-- check_within -/
theorem f89 (h1 : IsPl N1 dd rs1 es1) (h2 : IsPl N2 dd rs2 es2) (hN1 : 1 ≤ N1 ∧ N1 ≤ 40) (hN2 : 1 ≤ N2 ∧ N2 ≤ 40) (hd : dd ≤ 40) {t e : Nat} (ht : t ≤ 100000) (hs : Sm t (e + 1) d) : wp (callF (tab rows) (k + 6) 89 [plantD rs1 es1, plantD rs2 es2, d]) n Q ↔ Q (.bool (wRight N1 N2 dd rs1 rs2 d)) n := by
  have hsec : ∀ w, isTag d w 2 = true → Sm t e (secD d) ∧ ixD d (.int 1) = some (secD d) := fun w h => by
    have e1 := tag_sec h
    rw [e1] at hs
    refine ⟨hs.2 _ (by simp), ?_⟩
    rw [e1]
    rfl
  refine wp_eq (wp_out ?_)
  rw [wp_def tab_89 rfl]
  simp [d_89, b_89, n_89, -Bool.exists_bool]
  rw [show (2 : Int) = ((2 : Nat) : Int) from rfl, f57 (by omega) hs.data]
  unfold wRight
  rw [show Str.ofString "course" = strC from rfl, show Str.ofString "within" = strW from rfl]
  cases hC : isTag d strC 2 with
  | true =>
    obtain ⟨hsv, ei⟩ := hsec _ hC
    generalize secD d = v at hsv ei
    simp [ei, -Bool.exists_bool]
    rw [f88 h1 hN1.1 hd ht hsv]
    unfold cOk
    cases hv : tupAll v (fun x => numIn x 0 ((dd : Int) - 1)) with
    | false => simp [-Bool.exists_bool]
    | true =>
      obtain ⟨ev, hb⟩ := nums_tupN hv
      simp [ei, -Bool.exists_bool]
      generalize natsOf v = c at ev hb
      subst ev
      rw [f28 h1 hN1.1 hb]
      simp [isNot_optI, -Bool.exists_bool]
      cases ha : aft rs1 0 c with
      | none => simp [-Bool.exists_bool]
      | some s =>
        simp [ei, -Bool.exists_bool]
        rw [f28 h2 hN2.1 hb]
        simp [isNone_optI]
  | false =>
    simp [-Bool.exists_bool]
    rw [show (2 : Int) = ((2 : Nat) : Int) from rfl, f57 (by omega) hs.data]
    cases hW : isTag d strW 2 with
    | false => simp [-Bool.exists_bool]
    | true =>
      obtain ⟨hsv, ei⟩ := hsec _ hW
      generalize secD d = v at hsv ei
      simp [ei, -Bool.exists_bool]
      rw [f87 h1 h2 hN1 hN2 (by omega) hsv]
      cases hp : prsOk N1 N2 v with
      | false => simp [-Bool.exists_bool]
      | true =>
        obtain ⟨ps, rfl, epr, hin, _⟩ := prs_ps hp
        have hl : ps.length ≤ t := by
          cases e with
          | zero => exact hsv.elim
          | succ e => have := hsv.1; simpa using this
        rw [epr]
        cases hz : decide ((0, 0) ∈ ps) with
        | false => simp [-Bool.exists_bool]
        | true =>
          simp [ei, -Bool.exists_bool]
          refine ⟨by omega, wp_dcGo (I := fun i ks vs m => m = n ∧ ∃ l : List (Nat × Nat), ks = l.map pairD ∧ ∀ p, p ∈ l ↔ p ∈ ps.take i) ⟨rfl, [], rfl, by simp⟩ ?_ ?_⟩
          · rintro i d' ks vs m hd' ⟨rfl, l, rfl, hm⟩
            rw [List.getElem?_map, Option.map_eq_some_iff] at hd'
            obtain ⟨p, hpi, rfl⟩ := hd'
            simp
            refine ⟨enc_pair.ok, _, dkeys_enc enc_pair, fun a b => ?_⟩
            rw [List.take_add_one, hpi]
            by_cases hpl : p ∈ l
            · rw [if_pos hpl, hm]
              simp
              intro e1
              rw [e1]
              exact (hm p).mp hpl
            · rw [if_neg hpl]
              simp [hm]
          · rintro ks vs m ⟨rfl, l, rfl, hm⟩
            rw [List.length_map, List.take_length] at hm
            simp [ei, -Bool.exists_bool]
            have emem : ∀ q : Nat × Nat, cmpD .mem (pairD q) (.dict (l.map pairD) vs) = some (decide (q ∈ ps)) := fun q => by
              have e1 : cmpD .mem (pairD q) (.dict (l.map pairD) vs) = if kindOk (l.map pairD) (pairD q) = true then some (didx (l.map pairD) (pairD q)).isSome else none := rfl
              rw [e1, if_pos enc_pair.ok, enc_pair.has]
              congr 1
              rw [decide_eq_decide]
              exact hm q
            have hall : (ps.map pairD).all (fun x => okP rs1 rs2 dd ps (prX x)) = ps.all (okP rs1 rs2 dd ps) := by
              rw [List.all_map]
              exact congrArg (ps.all ·) (funext fun p => by simp)
            refine wp_for_all (p := fun x => okP rs1 rs2 dd ps (prX x)) (R := fun ρ => ∃ x4, ρ = [.val (plantD rs1 es1), .val (plantD rs2 es2), .val d, .val (.dict (l.map pairD) vs), x4, .un, .un]) (.bool false) ⟨_, rfl⟩ ?_ ?_ ?_
            · rintro x ρ hx ⟨x4, rfl⟩
              obtain ⟨p, hpm, rfl⟩ := List.mem_map.mp hx
              have hpi := hin p hpm
              simp [-Bool.exists_bool]
              rw [f85 h1 h2 hd hpi]
              cases hf : farL rs1 rs2 p with
              | cons j r =>
                have ho : okP rs1 rs2 dd ps p = false := by unfold okP; rw [hf]; rfl
                simp [ho, -Bool.exists_bool]
              | nil =>
                have ho : okP rs1 rs2 dd ps p = (stepsB rs1 rs2 dd p).all fun q => decide (q.2 ∈ ps) := by unfold okP; rw [hf]; rfl
                have hnc : noClos [pairD p] = true := rfl
                have hsl : (stepsB rs1 rs2 dd p).length ≤ dd := by
                  unfold stepsB
                  refine Nat.le_trans (List.length_filterMap_le _ _) ?_
                  rw [List.length_range]
                  exact Nat.le_refl _
                simp [-Bool.exists_bool]
                rw [f84 h1 hN1.1 hd]
                simp [hnc, -Bool.exists_bool]
                rw [f726 h1 h2 hd hpi]
                simp [-Bool.exists_bool]
                refine ⟨by omega, wp_mapped (fun q : Nat × (Nat × Nat) => .bool (decide (q.2 ∈ ps))) (fun q hq => ?_) ?_⟩
                · simp [emem, -Bool.exists_bool]
                · rw [prX_pair, ho]
                  cases hb : (stepsB rs1 rs2 dd p).all fun q => decide (q.2 ∈ ps) with
                  | true =>
                    simp only [op_33, boolsD_mapf, all_id, Option.map_some, ex1_some, wp_nil, hb, boolD_b]
                    simp [-Bool.exists_bool]
                  | false =>
                    simp only [op_33, boolsD_mapf, all_id, Option.map_some, ex1_some, wp_nil, hb, boolD_b]
                    simp [-Bool.exists_bool]
            · rintro ha ρ ⟨x4, rfl⟩
              rw [hall] at ha
              simp [ha, -Bool.exists_bool, -List.all_eq_true]
            · intro ha
              rw [hall] at ha
              simp [ha, -Bool.exists_bool, -List.all_eq_false]
end

section
variable {rows : List Int} {k n : Nat} {Q : D → Nat → Prop} {N1 N2 dd : Nat} {rs1 rs2 : List (List Int)} {es1 es2 : List Int}
/-- is_within -/
theorem f725 (h1 : IsPl N1 dd rs1 es1) (h2 : IsPl N2 dd rs2 es2) (hN1 : 1 ≤ N1 ∧ N1 ≤ 40) (hN2 : 1 ≤ N2 ∧ N2 ≤ 40) (hd : dd ≤ 40) : wp (callF (tab rows) (k + 6) 725 [plantD rs1 es1, plantD rs2 es2]) n Q ↔ Q (.bool (isTag (withinP rs1 rs2 dd) strW 2)) n := by
  refine wp_eq (wp_out ?_)
  rw [wp_def tab_725 rfl]
  simp [d_725, b_725, n_725, -Bool.exists_bool]
  rw [f724 h1 h2 hN1 hN2 hd]
  unfold withinP
  split <;> simp [isTag, eq_str, strW, strC, -Bool.exists_bool]
end

section
variable {rows : List Int} {k n : Nat} {Q : D → Nat → Prop} {d : D}
/-- _law_draw -/
theorem f3 {m : Int} : wp (callF (tab rows) (k + 1) 3 [.pool, .int m]) n Q ↔ (0 < m ∧ 0 < rows.length ∧ rows.length < 1073741824 ∧ n < 1152921504606846976) ∧ Q (.int (drawI rows n m)) (n + 1) := by
  rw [wp_prim tab_3, wp_drawC]
/-- how many draws may have been made -/
def LIM : Nat := 1152921504606846976
structure Rw (rows : List Int) : Prop where
  a : 0 < rows.length
  b : rows.length < 1073741824
/-- a draw, whatever comes -/
theorem wp_draw3 {m : Int} (R : Rw rows) (hm : 0 < m) (hn : n < LIM) (h : ∀ i, 0 ≤ i → i < m → Q (.int i) (n + 1)) : wp (callF (tab rows) (k + 1) 3 [.pool, .int m]) n Q :=
  f3.mpr ⟨⟨hm, R.a, R.b, hn⟩, h _ (drawI_bd hm).1 (drawI_bd hm).2⟩
end

section
variable {rows : List Int} {k n : Nat} {Q : D → Nat → Prop} {d : D}
/-- _law_deeds -/
theorem f32 (R : Rw rows) (hn : n + 2 < LIM) (h : ∀ dd : Nat, 1 ≤ dd → dd ≤ 4 → Q (.int dd) (n + 1)) : wp (callF (tab rows) (k + 2) 32 [.pool]) n Q := by
  rw [wp_def tab_32 rfl]
  simp [d_32, b_32, n_32]
  refine wp_draw3 R (by decide) (by omega) fun w w0 w1 => ?_
  simp
  refine draw_ix w0 (by simpa using w1) fun x hx => ?_
  simp only [List.mem_cons, List.not_mem_nil, or_false] at hx
  rcases hx with rfl | rfl | rfl | rfl | rfl | rfl | rfl | rfl
  · exact h 2 (by decide) (by decide)
  · exact h 2 (by decide) (by decide)
  · exact h 3 (by decide) (by decide)
  · exact h 1 (by decide) (by decide)
  · exact h 3 (by decide) (by decide)
  · exact h 2 (by decide) (by decide)
  · exact h 4 (by decide) (by decide)
  · exact h 3 (by decide) (by decide)
end

section
variable {rows : List Int} {k n : Nat} {Q : D → Nat → Prop} {d : D}
/-- _law_plant -/
theorem f15p {M dd : Nat} (R : Rw rows) (hM : 1 ≤ M ∧ M ≤ 16) (hdd : dd ≤ 5) (hn : n + 400 < LIM) (h : ∀ (N : Nat) rs es n', 1 ≤ N → N ≤ M → IsPl N dd rs es → n' ≤ n + 400 → Q (plantD rs es) n') : wp (callF (tab rows) (k + 2) 15 [.pool, .int M, .int dd]) n Q := by
  have main : ∀ (N : Nat) (n : Nat) (bare : Int) (Q : Out → Nat → Prop) (f : D → Out), 1 ≤ N → N ≤ 16 → n + 350 < LIM → 0 < bare → (∀ rs es n', IsPl N dd rs es → n' ≤ n + 350 → Q (.rt (plantD rs es)) n') →
      wp (xSs (callF (tab rows) (k + 1)) ((fun b => match b with | Ss.cons _ (.cons _ (.cons _ r)) => r | _ => .nil) b_15) [.val .pool, .val (.int M), .val (.int dd), .val (.int N), .val (.int bare), .un, .un, .un, .un, .un, .un]) n Q := by
    intro N n bare Q f hN1 hN hn hb h
    simp [b_15]
    rw [range1_eq (by omega)]
    simp
    refine wp_for (I := fun i ρ n' => n' ≤ n + 10 * i ∧ ∃ (rs : List (List Int)) (x6 x7 x8 x9 x10 : Sl), ρ = [.val .pool, .val (.int M), .val (.int dd), .val (.int N), .val (.int bare), .val (tupII rs), x6, x7, x8, x9, x10] ∧ RowsPl i N dd rs) ⟨by omega, [], _, _, _, _, _, rfl, rfl, by simp, by simp⟩ ?_ ?_
    · rintro i d ρ n' hd ⟨hn', rs, x6, x7, x8, x9, x10, rfl, hr⟩
      obtain ⟨hi, rfl⟩ := range_get.mp hd
      simp
      rw [range1_eq (by omega)]
      simp
      refine wp_for (I := fun j ρ n2 => n2 ≤ n' + 2 * j ∧ ∃ (r : List Int) (x8 x9 x10 : Sl), ρ = [.val .pool, .val (.int M), .val (.int dd), .val (.int N), .val (.int bare), .val (tupII rs), .val (.int i), .val (tupI r), x8, x9, x10] ∧ r.length = j ∧ ∀ x ∈ r, -1 ≤ x ∧ x < N) ⟨by omega, [], _, _, _, rfl, rfl, by simp⟩ ?_ ?_
      · rintro j d ρ n2 hd2 ⟨hn2, r, x8, x9, x10, rfl, hl, hb2⟩
        obtain ⟨hj, rfl⟩ := range_get.mp hd2
        simp
        refine wp_draw3 R (by omega) (by omega) fun v v0 v1 => ?_
        simp
        refine wp_draw3 R hb (by omega) fun u u0 u1 => ?_
        have hlr : r.length + 1 ≤ 16777216 := by omega
        simp [tupI, hlr]
        split
        · refine ⟨by omega, r ++ [-1], by simp, by simp [hl], fun x hx => ?_⟩
          rcases List.mem_append.mp hx with hx | hx
          · exact hb2 x hx
          · simp at hx; subst hx; omega
        · refine ⟨by omega, r ++ [v], by simp, by simp [hl], fun x hx => ?_⟩
          rcases List.mem_append.mp hx with hx | hx
          · exact hb2 x hx
          · simp at hx; subst hx; omega
      · rintro ρ n2 ⟨hn2, r, x8, x9, x10, rfl, hl, hb2⟩
        simp at hl hn2
        have hls : rs.length + 1 ≤ 16777216 := by have := hr.len; omega
        simp [tupII, hls]
        exact ⟨by omega, rs ++ [r], by simp, hr.add hl hb2⟩
    · rintro ρ n' ⟨hn', rs, x6, x7, x8, x9, x10, rfl, hr⟩
      simp at hr hn'
      simp
      refine wp_draw3 R (by decide) (by omega) fun ln l0 l1 => ?_
      simp
      rw [range1_eq (by omega)]
      simp
      refine ⟨by omega, pick_up (fun i n2 hi hn2 => ?_) fun es he1 he2 => ?_⟩
      · simp
        refine wp_draw3 R (by omega) (by omega) fun v v0 v1 => ?_
        by_cases hv : v = 0 <;> simp [hv]
      · simp
        exact h rs es _ ⟨hr.len, hr.row, hr.bd, he1, he2⟩ (by omega)
  rw [wp_def tab_15 rfl]
  simp [d_15, n_15, b_15]
  refine wp_draw3 R (by omega) (by omega) fun v v0 v1 => ?_
  simp
  refine wp_draw3 R (by decide) (by omega) fun u u0 u1 => ?_
  simp
  have key : ∀ N : Nat, 1 ≤ N → N ≤ 16 → ∀ x : D, x ∈ [D.int 2, .int 3, .int 5, .int 9] → ∃ b, x = .int b ∧ 0 < b := by
    intro N _ _ x hx
    simp at hx
    rcases hx with rfl | rfl | rfl | rfl <;> exact ⟨_, rfl, by decide⟩
  split
  · refine wp_draw3 R (by decide) (by omega) fun w w0 w1 => ?_
    simp
    refine draw_ix w0 (by simpa using w1) fun x hx => ?_
    obtain ⟨b, rfl, hb⟩ := key 1 (by omega) (by omega) x hx
    have q := main M (n + 3) b (fun o n1 => Out.go (fun o n => match o with | .rt d => Q d n | _ => False) n1 (fun _ => Q .none n1) o) (fun d => .rt d) hM.1 hM.2 (by omega) hb (fun rs es n' h1 h2 => h M rs es n' hM.1 (Nat.le_refl _) h1 (by omega))
    simp [b_15] at q ⊢
    exact q
  · refine wp_draw3 R (by decide) (by omega) fun w w0 w1 => ?_
    simp
    refine draw_ix w0 (by simpa using w1) fun x hx => ?_
    obtain ⟨b, rfl, hb⟩ := key 1 (by omega) (by omega) x hx
    obtain ⟨N, hN1, hN2, hN⟩ : ∃ N : Nat, 1 ≤ N ∧ N ≤ 16 ∧ 1 + v = N := ⟨(1 + v).toNat, by omega, by omega, by omega⟩
    have q := main N (n + 3) b (fun o n1 => Out.go (fun o n => match o with | .rt d => Q d n | _ => False) n1 (fun _ => Q .none n1) o) (fun d => .rt d) hN1 hN2 (by omega) hb (fun rs es n' h1 h2 => h N rs es n' hN1 (by omega) h1 (by omega))
    rw [hN]
    simp [b_15] at q ⊢
    exact q
theorem f15 {M dd : Nat} (R : Rw rows) (hM : 1 ≤ M ∧ M ≤ 16) (hdd : dd ≤ 4) (hn : n + 400 < LIM) (h : ∀ d n', Sm 40 3 d → n' ≤ n + 400 → Q d n') : wp (callF (tab rows) (k + 2) 15 [.pool, .int M, .int dd]) n Q :=
  f15p R hM (by omega) hn fun N rs es n' h1 h2 hp hn' => h _ _ (hp.sm (by omega) (by omega)) hn'
end

section
variable {rows : List Int} {k n : Nat} {Q : D → Nat → Prop} {d : D} {N dd : Nat} {rs : List (List Int)} {es : List Int}
/-- _law_wish -/
theorem f91 (R : Rw rows) (h : IsPl N dd rs es) (hN : 1 ≤ N ∧ N ≤ 40) (hd : 1 ≤ dd ∧ dd ≤ 5) (hn : n + 500 < LIM) (hq : ∀ (N' : Nat) rs' es' n', 1 ≤ N' → N' ≤ 3 → IsPl N' dd rs' es' → n' ≤ n + 500 → Q (plantD rs' es') n') : wp (callF (tab rows) (k + 3) 91 [.pool, plantD rs es]) n Q := by
  obtain ⟨r0, e1, e2, e3⟩ := len_row0 h hN.1
  have l1 : Bi.op .len [tupII rs] = some (.int N) := by simp [tupII, h.len]
  rw [wp_def tab_91 rfl]
  simp [d_91, b_91, n_91, e1, e2, e3, l1]
  have other : ∀ n' (Q' : D → Nat → Prop), n' ≤ n + 1 → (∀ (N' : Nat) rs' es' n', 1 ≤ N' → N' ≤ 3 → IsPl N' dd rs' es' → n' ≤ n + 500 → Q' (plantD rs' es') n') → wp (callF (tab rows) (k + 2) 15 [.pool, .int 3, .int dd]) n' Q' := fun n' Q' hn' hq' =>
    f15p (M := 3) R (by decide) hd.2 (by omega) fun N' rs' es' n2 a1 a2 a3 a4 => hq' N' rs' es' n2 a1 a2 a3 (by omega)
  by_cases hl : N < 4
  · have hl' : (N : Int) < 4 := by omega
    simp [hl']
    refine wp_draw3 R (by decide) (by omega) fun v v0 v1 => ?_
    simp
    split
    · simp [e1, tupII]
      refine wp_for (I := fun i ρ m => m ≤ n + 1 + i * dd ∧ ∃ (rs' : List (List Int)) (x3 x4 x5 : Sl), ρ = [.val .pool, .val (plantD rs es), .val (tupII rs'), x3, x4, x5] ∧ RowsPl i N dd rs') ⟨by omega, [], _, _, _, rfl, ⟨rfl, by simp, by simp⟩⟩ ?_ ?_
      · rintro i d' ρ m hd' ⟨hm, rs', x3, x4, x5, rfl, hr⟩
        rw [List.getElem?_map, Option.map_eq_some_iff] at hd'
        obtain ⟨r, hri, rfl⟩ := hd'
        have hrm := List.mem_of_getElem? hri
        have hrl := h.row r hrm
        have hrb := h.bd r hrm
        have hi : i < N := by rw [← h.len]; exact (List.getElem?_eq_some_iff.mp hri).1
        have b1 : i * dd + dd = (i + 1) * dd := (Nat.succ_mul _ _).symm
        have b2 : (i + 1) * dd ≤ 20 := Nat.le_trans (Nat.mul_le_mul (by omega : i + 1 ≤ 4) hd.2) (by decide)
        have eit : itemsD (tupI r) = some (r.map .int) := rfl
        simp [eit]
        refine wp_for (I := fun j ρ m' => m' ≤ m + j ∧ ∃ (c : List Int) (x5 : Sl), ρ = [.val .pool, .val (plantD rs es), .val (tupII rs'), .val (tupI r), .val (tupI c), x5] ∧ c.length = j ∧ ∀ g ∈ c, -1 ≤ g ∧ g < N) ⟨Nat.le_add_right _ _, [], _, rfl, rfl, by simp⟩ ?_ ?_
        · rintro j g ρ m' hg ⟨hm', c, x5, rfl, hcl, hcb⟩
          rw [List.getElem?_map, Option.map_eq_some_iff] at hg
          obtain ⟨g, hgj, rfl⟩ := hg
          have hgb := hrb g (List.mem_of_getElem? hgj)
          have hj : j < dd := by rw [← hrl]; exact (List.getElem?_eq_some_iff.mp hgj).1
          simp
          refine wp_draw3 R (by decide) (by omega) fun u u0 u1 => ?_
          have hc1 : c.length + 1 ≤ 16777216 := by omega
          simp
          split
          · simp [tupI, hc1]
            refine ⟨by omega, c ++ [-1], by simp, by simp [hcl], fun x hx => ?_⟩
            rcases List.mem_append.mp hx with hx | hx
            · exact hcb x hx
            · simp at hx; subst hx; omega
          · simp [tupI, hc1]
            refine ⟨by omega, c ++ [g], by simp, by simp [hcl], fun x hx => ?_⟩
            rcases List.mem_append.mp hx with hx | hx
            · exact hcb x hx
            · simp at hx; subst hx; exact hgb
        · rintro ρ m' ⟨hm', c, x5, rfl, hcl, hcb⟩
          simp at hcl hm'
          have hrl' := hr.len
          have hr1 : rs'.length + 1 ≤ 16777216 := by omega
          simp [tupII, hr1]
          exact ⟨by omega, rs' ++ [c], by simp, hr.add (by omega) hcb⟩
      · rintro ρ m ⟨hm, rs', x3, x4, x5, rfl, hr⟩
        simp at hr hm
        rw [h.len] at hr hm
        have b2 : N * dd ≤ 20 := Nat.le_trans (Nat.mul_le_mul (by omega : N ≤ 4) hd.2) (by decide)
        simp
        exact hq N rs' [] m hN.1 (by omega) ⟨hr.len, hr.row, hr.bd, by simp, by simp⟩ (by omega)
    · simp [e1, e2, e3]
      exact other _ _ (by omega) hq
  · have hl' : ¬ (N : Int) < 4 := by omega
    simp [hl', e1, e2, e3]
    exact other _ _ (by omega) hq
end

section
variable {rows : List Int} {k n : Nat} {Q : D → Nat → Prop} {d : D} {N dd : Nat} {rs : List (List Int)} {es : List Int}
/-- _law_course: at most `most` deeds -/
theorem f33 {most : Nat} (R : Rw rows) (h : IsPl N dd rs es) (hN : 1 ≤ N ∧ N ≤ 40) (hd : 1 ≤ dd ∧ dd ≤ 40) (hm : most ≤ 100) (hn : n + 210 < LIM) (hq : ∀ is n', is.length ≤ most → (∀ i ∈ is, 0 ≤ i ∧ i < (dd : Int)) → n' ≤ n + 1 + most → Q (tupI is) n') : wp (callF (tab rows) (k + 2) 33 [.pool, plantD rs es, .int most]) n Q := by
  obtain ⟨r0, e1, e2, e3⟩ := len_row0 h hN.1
  rw [wp_def tab_33 rfl]
  simp [d_33, b_33, n_33, e1, e2, e3]
  refine wp_draw3 R (by omega) (by omega) fun v v0 v1 => ?_
  obtain ⟨w, rfl⟩ : ∃ w : Nat, v = w := ⟨v.toNat, by omega⟩
  simp
  rw [range1_eq (by omega)]
  simp
  refine wp_for (I := fun i ρ m => m ≤ n + 1 + i ∧ ∃ (is : List Int) (s : Nat) (x5 x6 x7 : Sl), ρ = [.val .pool, .val (plantD rs es), .val (.int most), .val (tupI is), .val (.int (s : Nat)), x5, x6, x7] ∧ is.length ≤ i ∧ (∀ x ∈ is, 0 ≤ x ∧ x < (dd : Int)) ∧ s < N) ⟨by omega, [], 0, _, _, _, rfl, by simp, by simp, by omega⟩ ?_ ?_
  · rintro i d' ρ m hd' ⟨hm', is, s, x5, x6, x7, rfl, hl, hb, hs⟩
    obtain ⟨hi, rfl⟩ := range_get.mp hd'
    obtain ⟨r, hr, hrl⟩ : ∃ r, rowOf rs s = r ∧ r.length = dd := ⟨_, rfl, h.rowLen hs⟩
    have q0 : ixD (tupII rs) (.int (s : Nat)) = some (tupI r) := by rw [← hr]; exact ix_tupII (by rw [h.len]; exact hs)
    have q1 : ∀ j, j < dd → ixD (tupI r) (.int (j : Nat)) = some (.int (goal rs s j)) := fun j hj => by unfold goal; rw [hr]; exact ix_tupI (by omega) (-1)
    have hg := fun j (hj : j < dd) => h.goalBd hs hj
    simp [e1, e2, e3]
    rw [range1_eq (by omega)]
    simp
    have em : rangeD 0 dd = (List.range dd).map fun j => .int ((j : Nat) : Int) := by simp [rangeD]
    rw [em]
    refine ⟨by omega, wp_pick (fun j => decide (0 ≤ goal rs s j)) (fun j => .int (j : Nat)) (fun j hj => ?_) ?_⟩
    · have hj := List.mem_range.mp hj
      simp [e1, q0, q1 j hj]
    · generalize hL : (List.range dd).filter (fun j => decide (0 ≤ goal rs s j)) = L
      have hLm : ∀ j ∈ L, j < dd ∧ 0 ≤ goal rs s j := fun j hj => by
        rw [← hL, List.mem_filter] at hj
        exact ⟨List.mem_range.mp hj.1, by simpa using hj.2⟩
      cases L with
      | nil =>
        simp
        exact ⟨by omega, is, s, ⟨rfl, rfl⟩, by omega, hb, hs⟩
      | cons a L =>
        have hLl : (a :: L).length ≤ dd := by
          rw [← hL]
          exact Nat.le_trans (List.length_filter_le _ _) (by simp)
        simp only [List.length_cons] at hLl
        have hpos : (0 : Int) < ((((a :: L).map fun j : Nat => D.int (j : Nat)).length : Nat) : Int) := by simp
        simp
        refine wp_draw3 R (by omega) (by omega) fun u u0 u1 => ?_
        simp
        refine draw_ix (xs := .int (a : Nat) :: L.map fun j : Nat => .int (j : Nat)) u0 (by simpa using u1) fun x hx => ?_
        obtain ⟨j, hj, rfl⟩ : ∃ j ∈ a :: L, x = .int (j : Nat) := by
          rcases List.mem_cons.mp hx with rfl | hx
          · exact ⟨a, List.mem_cons_self, rfl⟩
          · obtain ⟨j, hj, rfl⟩ := List.mem_map.mp hx
            exact ⟨j, List.mem_cons_of_mem _ hj, rfl⟩
        obtain ⟨hjd, hj0⟩ := hLm j hj
        have hgj := hg j hjd
        have hl1 : is.length + 1 ≤ 16777216 := by omega
        have q2 := q1 j hjd
        simp only [tupI] at q2 q0
        simp [tupI, hl1, e1, q0, q2]
        refine ⟨by omega, is ++ [(j : Int)], (goal rs s j).toNat, ⟨by simp, by omega⟩, by simp; omega, fun x hx => ?_, by omega⟩
        rcases List.mem_append.mp hx with hx | hx
        · exact hb x hx
        · simp at hx; subst hx; omega
  · rintro ρ m ⟨hm', is, s, x5, x6, x7, rfl, hl, hb, hs⟩
    simp at hl hm'
    simp
    exact hq is m (by omega) hb (by omega)
end

section
variable {rows : List Int} {k n : Nat} {Q : D → Nat → Prop} {d : D}
/-- _law_row: at most `most` numbers below dd -/
theorem f34 {dd most : Nat} (R : Rw rows) (hd : 0 < dd) (hm : most ≤ 100) (hn : n + 110 < LIM) (h : ∀ is n', is.length ≤ most → (∀ i ∈ is, 0 ≤ i ∧ i < (dd : Int)) → n' ≤ n + 1 + most → Q (tupI is) n') : wp (callF (tab rows) (k + 2) 34 [.pool, .int dd, .int most]) n Q := by
  rw [wp_def tab_34 rfl]
  simp [d_34, b_34, n_34]
  refine wp_draw3 R (by omega) (by omega) fun v v0 v1 => ?_
  obtain ⟨w, rfl⟩ : ∃ w : Nat, v = w := ⟨v.toNat, by omega⟩
  simp
  rw [range1_eq (by omega)]
  simp
  refine wp_for (I := fun i ρ n' => n' = n + 1 + i ∧ ∃ (is : List Int) (x4 : Sl), ρ = [.val .pool, .val (.int dd), .val (.int most), .val (tupI is), x4] ∧ is.length = i ∧ ∀ x ∈ is, 0 ≤ x ∧ x < (dd : Int)) ⟨rfl, [], _, rfl, rfl, by simp⟩ ?_ ?_
  · rintro i d ρ n' hd2 ⟨rfl, is, x4, rfl, hl, hb⟩
    obtain ⟨hi, rfl⟩ := range_get.mp hd2
    simp
    refine wp_draw3 R (by omega) (by omega) fun u u0 u1 => ?_
    have hlr : is.length + 1 ≤ 16777216 := by omega
    simp [tupI, hlr]
    refine ⟨by omega, is ++ [u], by simp, by simp [hl], fun x hx => ?_⟩
    rcases List.mem_append.mp hx with hx | hx
    · exact hb x hx
    · simp at hx; subst hx; exact ⟨u0, u1⟩
  · rintro ρ n' ⟨rfl, is, x4, rfl, hl, hb⟩
    simp at hl
    simp
    exact h is _ (by omega) hb (by omega)
end

section
variable {rows : List Int} {k n : Nat} {Q : D → Nat → Prop} {d : D}
def kindD : D → Int
  | .bool _ => 1
  | .int _ => 2
  | .str _ => 3
  | .tup _ => 4
  | .lst _ => 5
  | .none => 6
  | _ => 0
/-- _law_kind -/
theorem f16 (hd : d.data = true) : wp (callF (tab rows) (k + 1) 16 [d]) n Q ↔ Q (.int (kindD d)) n := by
  refine wp_eq (wp_out ?_)
  rw [wp_def tab_16 rfl]
  cases d <;> simp_all [d_16, b_16, n_16, kindD, D.data]
end

section
variable {rows : List Int} {k n : Nat} {Q : D → Nat → Prop} {d : D}
/-- _law_is -/
theorem f17 {a b : Bool} : wp (callF (tab rows) (k + 1) 17 [.bool a, .bool b]) n Q ↔ Q (.bool (a == b)) n := by
  refine wp_eq (wp_out ?_)
  rw [wp_def tab_17 rfl]
  cases a <;> cases b <;> simp [d_17, b_17, n_17]
end

section
variable {rows : List Int} {k n : Nat} {Q : D → Nat → Prop} {d : D}
/-- _law_int -/
theorem f18 {lo hi : Int} (hd : d.data = true) : wp (callF (tab rows) (k + 2) 18 [d, .int lo, .int hi]) n Q ↔ Q (.bool (numIn d lo hi)) n := by
  refine wp_eq (wp_out ?_)
  rw [wp_def tab_18 rfl]
  simp [d_18, b_18, n_18, f16 hd, -Bool.exists_bool]
  cases d <;> simp [kindD, numIn, -Bool.exists_bool]
  rename_i i
  by_cases h : lo ≤ i <;> simp [h, -Bool.exists_bool]
end

section
variable {rows : List Int} {k n : Nat} {Q : D → Nat → Prop} {d : D}
/-- _law_ints -/
theorem f19 {lo hi : Int} (hd : d.data = true) : wp (callF (tab rows) (k + 3) 19 [d, .int lo, .int hi]) n Q ↔ Q (.bool (tupAll d fun x => numIn x lo hi)) n := by
  refine wp_eq (wp_out ?_)
  rw [wp_def tab_19 rfl]
  cases d with
  | tup xs =>
    have hx := fun x hx => datas_mem (x := x) hd hx
    simp [d_19, b_19, n_19, -Bool.exists_bool]
    refine wp_for_all (p := fun x => numIn x lo hi) (R := fun ρ => ∃ x3, ρ = [.val (.tup xs), .val (.int lo), .val (.int hi), x3]) (.bool false) ⟨_, rfl⟩ ?_ ?_ ?_
    · rintro x ρ hx' ⟨x3, rfl⟩
      simp [f18 (hx x hx'), -Bool.exists_bool]
    · intro h ρ hρ
      simp [tupAll, h, -List.all_eq_true]
    · intro h
      simp [tupAll, h, -List.all_eq_false]
  | _ => simp_all [d_19, b_19, n_19, tupAll, D.data]
end

section
variable {rows : List Int} {k n : Nat} {Q : D → Nat → Prop} {d : D}
/-- _law_up -/
theorem f20 {xs : List D} (h : ∀ x ∈ xs, isIntD x = true) (hl : xs.length ≤ 16777216) : wp (callF (tab rows) (k + 1) 20 [.tup xs]) n Q ↔ Q (.bool (upD xs)) n := by
  refine wp_eq (wp_out ?_)
  rw [wp_def tab_20 rfl]
  simp [d_20, b_20, n_20, -Bool.exists_bool]
  rw [range2_eq (by omega)]
  simp
  refine wp_for_all_range (fun i => decide (intOf (xs.getD i .none) < intOf (xs.getD (i + 1) .none))) (R := fun ρ => ∃ x1, ρ = [.val (.tup xs), x1]) (.bool false) ⟨_, rfl⟩ ?_ ?_ ?_
  · rintro i ρ hi ⟨x1, rfl⟩
    have h1 : i < xs.length := by omega
    have h2 : i + 1 < xs.length := by omega
    have e1 : (1 + (i : Int)) - 1 = (i : Int) := by omega
    have e2 : 1 + (i : Int) = ((i + 1 : Nat) : Int) := by omega
    simp [e1, atI_int h h1, -Bool.exists_bool]
    rw [e2, atI_int h h2]
    simp [-Bool.exists_bool]
  · intro ha ρ hρ
    simp [upD, -List.all_eq_true]
    exact ha
  · intro ha
    simp [upD, -List.all_eq_false]
    exact ha
end

section
variable {rows : List Int} {k n : Nat} {Q : D → Nat → Prop} {d : D}
/-- _law_up, of rows -/
theorem f20r {rs : List (List Int)} (hl : rs.length ≤ 16777216) : wp (callF (tab rows) (k + 1) 20 [.tup (rs.map tupI)]) n Q ↔ Q (.bool (upR rs)) n := by
  refine wp_eq (wp_out ?_)
  rw [wp_def tab_20 rfl]
  simp [d_20, b_20, n_20, -Bool.exists_bool]
  rw [range2_eq (by omega)]
  simp
  refine wp_for_all_range (fun i => decide (rs.getD i [] < rs.getD (i + 1) [])) (R := fun ρ => ∃ x1, ρ = [.val (.tup (rs.map tupI)), x1]) (.bool false) ⟨_, rfl⟩ ?_ ?_ ?_
  · rintro i ρ hi ⟨x1, rfl⟩
    have h1 : i < rs.length := by omega
    have h2 : i + 1 < rs.length := by omega
    have e1 : (1 + (i : Int)) - 1 = (i : Int) := by omega
    have e2 : 1 + (i : Int) = ((i + 1 : Nat) : Int) := by omega
    simp [e1, atI_row h1, -Bool.exists_bool, -List.getD_eq_getElem?_getD]
    rw [e2, atI_row h2]
    simp [lt_rows, -Bool.exists_bool, -List.getD_eq_getElem?_getD]
  · intro ha ρ hρ
    simp [upR, -List.all_eq_true, -List.getD_eq_getElem?_getD]
    exact ha
  · intro ha
    simp [upR, -List.all_eq_false, -List.getD_eq_getElem?_getD]
    exact ha
/-- _law_tuples -/
theorem f92 {m : Nat} {lo hi : Int} {t e : Nat} (ht : t ≤ 1000000) (hs : Sm t e d) : wp (callF (tab rows) (k + 4) 92 [d, .int (m : Nat), .int lo, .int hi]) n Q ↔ Q (.bool (rowsB d m lo hi)) n := by
  refine wp_eq (wp_out ?_)
  rw [wp_def tab_92 rfl]
  cases d with
  | tup xs =>
    obtain ⟨e, rfl⟩ : ∃ e', e = e' + 1 := by
      cases e with
      | zero => exact hs.elim
      | succ e => exact ⟨e, rfl⟩
    obtain ⟨hl, hx⟩ := hs
    have hd := fun x h => (hx x h).data
    simp [d_92, b_92, n_92, -Bool.exists_bool]
    refine wp_for_all (p := rowX m lo hi) (R := fun ρ => ∃ x4, ρ = [.val (.tup xs), .val (.int m), .val (.int lo), .val (.int hi), x4]) (.bool false) ⟨_, rfl⟩ ?_ ?_ ?_
    · rintro x ρ hx' ⟨x4, rfl⟩
      simp [-Bool.exists_bool]
      rw [f19 (hd x hx')]
      simp [-Bool.exists_bool]
      unfold rowX
      cases h2 : tupAll x (fun y => numIn y lo hi) with
      | false => simp [-Bool.exists_bool]
      | true =>
        have e3 := rowX_eq (m := m) h2
        cases x with
        | tup ys =>
          simp [isTupN, -Bool.exists_bool]
        | _ => cases h2
    · intro h ρ ⟨x4, hρ⟩
      subst hρ
      have h2 : ∀ x ∈ xs, tupAll x (fun y => numIn y lo hi) = true := fun x hx' => by
        have := List.all_eq_true.mp h x hx'
        unfold rowX at this
        exact (Bool.and_eq_true_iff.mp this).2
      have e3 := rowsX_eq (m := m) h2
      have hul : (xs.map intsX).length ≤ 16777216 := by rw [List.length_map]; omega
      have hu := f20r (rows := rows) (k := k + 2) (n := n) (Q := fun d m' => d = D.bool (rowsB (.tup xs) m lo hi) ∧ m' = n) hul
      rw [← e3] at hu
      simp [-Bool.exists_bool]
      refine hu.mpr ⟨?_, rfl⟩
      show _ = D.bool (xs.all (rowX m lo hi) && upR (xs.map intsX))
      rw [h]
      rfl
    · intro h
      simp [rowsB, h, -Bool.exists_bool, -List.all_eq_false]
  | _ => simp_all [d_92, b_92, n_92, rowsB, D.data]
end

section
variable {rows : List Int} {k n : Nat} {Q : D → Nat → Prop} {d : D}
/-- _law_tag -/
theorem f65 {w : Str} {m : Nat} (hm : 1 ≤ m) (hd : d.data = true) : wp (callF (tab rows) (k + 1) 65 [d, .str w, .int (m : Nat)]) n Q ↔ Q (.bool (isTag d w m)) n := by
  refine wp_eq (wp_out ?_)
  rw [wp_def tab_65 rfl]
  simp [d_65, b_65, n_65, -Bool.exists_bool]
  cases d with
  | tup xs =>
    cases xs with
    | nil =>
      have : ¬ (0 : Int) = (m : Int) := by omega
      simp [isTag, this]
    | cons x xs =>
      by_cases hl : xs.length + 1 = m
      · have hl' : (xs.length : Int) + 1 = (m : Int) := by omega
        cases x with
        | str s => simp [hl', isTag, hl, eq_str]
        | _ => simp_all [isTag, D.data, D.datas]
      · have hl' : ¬ (xs.length : Int) + 1 = (m : Int) := by omega
        cases x <;> simp [hl', isTag, hl]
  | _ => simp_all [isTag, D.data]
end

section
variable {rows : List Int} {k n : Nat} {Q : D → Nat → Prop} {d : D}
/-- _law_after -/
theorem f36 {N dd : Nat} {rs : List (List Int)} {es : List Int} (h : IsPl N dd rs es) (hN : 1 ≤ N) {c : List Nat} (hc : ∀ j ∈ c, j < dd) : wp (callF (tab rows) (k + 1) 36 [plantD rs es, tupN c]) n Q ↔ Q (.int (match aft rs 0 c with | some s => (s : Int) | none => -1)) n := by
  refine wp_eq (wp_out ?_)
  rw [wp_def tab_36 rfl]
  simp [d_36, b_36, n_36, plantD, tupN]
  refine wp_for (I := fun i ρ m => m = n ∧ ∃ (x3 : Sl), ρ = [.val (.tup [tupII rs, tupI es]), .val (.tup (c.map fun i => .int (i : Nat))), .val (.int (match aft rs 0 (c.take i) with | some s => (s : Int) | none => -1)), x3]) ⟨rfl, _, rfl⟩ ?_ ?_
  · rintro i d ρ m hd ⟨rfl, x3, rfl⟩
    rw [List.getElem?_map, Option.map_eq_some_iff] at hd
    obtain ⟨j, hj, rfl⟩ := hd
    have hjd : j < dd := hc j (List.mem_of_getElem? hj)
    rw [List.take_add_one, hj, aft_append]
    cases ha : aft rs 0 (c.take i) with
    | none => simp
    | some s =>
      have hs : s < N := aft_lt h (by omega) (fun j hj => hc j (List.mem_of_mem_take hj)) ha
      obtain ⟨r, hr, hl⟩ : ∃ r, rowOf rs s = r ∧ r.length = dd := ⟨_, rfl, h.rowLen hs⟩
      have e0 : ixD (tupII rs) (.int (s : Nat)) = some (tupI r) := by rw [← hr]; exact ix_tupII (by rw [h.len]; exact hs)
      have e1 : ixD (tupI r) (.int (j : Nat)) = some (.int (goal rs s j)) := by unfold goal; rw [hr]; exact ix_tupI (by omega) (-1)
      have hg := h.goalBd hs hjd
      by_cases hz : goal rs s j = -1
      · simp [e0, e1, hz, aft]
      · simp [e0, e1, hz, aft]
        omega
  · rintro ρ m ⟨rfl, x3, rfl⟩
    simp
end

section
variable {rows : List Int} {k n : Nat} {Q : D → Nat → Prop} {d : D}
theorem natRepr_len (n : Nat) : (Nat.repr n).toList.length ≤ n + 1 := by
  show (String.ofList (Nat.toDigits 10 n)).toList.length ≤ n + 1
  rw [String.toList_ofList]
  have := digits_len 10 (n + 1) n []
  simp at this
  exact this
theorem strInt_len {i : Int} : (Str.ofString (toString i)).length ≤ i.natAbs + 2 := by
  rw [Str.ofString_eq_toList]
  show (((toString i).toList.map Char.toNat).toArray).size ≤ _
  rw [List.size_toArray, List.length_map]
  cases i with
  | ofNat m =>
    have := natRepr_len m
    show (Nat.repr m).toList.length ≤ m + 2
    omega
  | negSucc m =>
    have := natRepr_len (m + 1)
    show (("-" ++ Nat.repr (m + 1)) : String).toList.length ≤ (m + 1) + 2
    rw [String.toList_append, List.length_append]
    have e : ("-" : String).toList.length = 1 := by decide
    omega
theorem up_len3 {x : Str} : (Txt.upper x).length ≤ 3 * x.length := PyProof.Rows.len_upper x
theorem lx : (Str.ofString "x").length = 1 := by decide +kernel
theorem l0 : (Str.ofString "").length = 0 := by decide +kernel
theorem str_app {x y : Str} : (x ++ y).length = x.length + y.length := by
  show (x.cps ++ y.cps).size = x.cps.size + y.cps.size
  exact Array.size_append
theorem strD_ok {i : Int} (h : i.natAbs ≤ 1000) : Bi.op .str [.int i] = some (.str (Str.ofString (toString i))) := by
  have : i.natAbs.log2 < 1920 := by
    have := Nat.log2_le_self i.natAbs
    omega
  simp only [Bi.op, strD]
  rw [if_pos this]
theorem upperD_ok {x : Str} (h : x.length ≤ 5592405) : upperD (.str x) = some (.str (Txt.upper x)) := by
  unfold upperD
  simp only
  rw [if_pos h]
/-- _law_bent: small data stay small -/
theorem f23 (R : Rw rows) {t : Nat} (ht : t ≤ 1000) : ∀ (e : Nat) {k n : Nat} {d : D} {Q : D → Nat → Prop}, Sm t e d → n + 5 * (e + 1) < LIM → (∀ r n', Sm (3 * t + 16) (e + 1) r → n' ≤ n + 5 * (e + 1) → Q r n') → wp (callF (tab rows) (k + e + 2) 23 [.pool, d]) n Q := by
  intro e
  have leaf : ∀ {e k n : Nat} {d : D} {Q : D → Nat → Prop}, isTupD d = false → Sm t e d → n + 5 * (e + 1) < LIM → (∀ r n', Sm (3 * t + 16) (e + 1) r → n' ≤ n + 5 * (e + 1) → Q r n') → wp (callF (tab rows) (k + e + 2) 23 [.pool, d]) n Q := by
    intro e k n d Q hnt hs hn h
    rw [wp_def tab_23 rfl]
    have hn0 : n < LIM := by omega
    cases d with
    | tup _ => cases hnt
    | pool => simp at hs
    | scr _ => simp at hs
    | dict _ _ => simp at hs
    | clo _ _ => simp at hs
    | obj _ _ _ => simp at hs
    | str x =>
      simp at hs
      have h1 := @up_len3 x
      have h2 : x.length + 1 ≤ 16777216 := by omega
      have h3 : x.length ≤ 5592405 := by omega
      simp [d_23, b_23, n_23, lx, h2, upperD_ok h3]
      refine wp_draw3 R (by decide) hn0 fun j j0 j1 => ?_
      simp
      refine draw_ix j0 (by simpa using j1) fun r hr => ?_
      refine h r _ ?_ (by omega)
      simp at hr
      rcases hr with rfl | rfl | rfl | rfl | rfl <;> simp [str_app, lx, l0] <;> omega
    | int i =>
      simp at hs
      have h1 : i.natAbs ≤ 1000 := by omega
      have h2 : (Str.ofString i.repr).length ≤ i.natAbs + 2 := strInt_len
      simp [d_23, b_23, n_23, f16 (d := .int i) rfl, kindD, strD_ok h1]
      refine wp_draw3 R (by decide) hn0 fun j j0 j1 => ?_
      simp
      refine draw_ix j0 (by simpa using j1) fun r hr => ?_
      refine h r _ ?_ (by omega)
      simp at hr
      rcases hr with rfl | rfl | rfl | rfl | rfl | rfl | rfl | rfl | rfl | rfl <;> simp <;> omega
    | none =>
      simp [d_23, b_23, n_23, f16 (d := .none) rfl, kindD]
      refine wp_draw3 R (by decide) hn0 fun j j0 j1 => ?_
      simp
      refine draw_ix j0 (by simpa using j1) fun r hr => ?_
      refine h r _ ?_ (by omega)
      simp at hr
      rcases hr with rfl | rfl | rfl | rfl <;> simp [lx] <;> omega
    | bool b =>
      simp [d_23, b_23, n_23, f16 (d := .bool b) rfl, kindD]
      refine wp_draw3 R (by decide) hn0 fun j j0 j1 => ?_
      simp
      refine draw_ix j0 (by simpa using j1) fun r hr => ?_
      refine h r _ ?_ (by omega)
      simp at hr
      rcases hr with rfl | rfl | rfl | rfl <;> simp [lx] <;> omega
    | lst xs =>
      simp [d_23, b_23, n_23, f16 hs.data, kindD]
      refine wp_draw3 R (by decide) hn0 fun j j0 j1 => ?_
      simp
      refine draw_ix j0 (by simpa using j1) fun r hr => ?_
      refine h r _ ?_ (by omega)
      simp at hr
      rcases hr with rfl | rfl | rfl | rfl <;> simp [lx] <;> omega
  induction e with
  | zero =>
    intro k n d Q hs hn h
    refine leaf (e := 0) (k := k) (n := n) (d := d) (Q := Q) ?_ hs hn h
    cases d with
    | tup _ => rw [sm_tup0] at hs; exact hs.elim
    | _ => rfl
  | succ e ih =>
    intro k n d Q hs hn h
    cases d with
    | tup xs =>
      obtain ⟨hl, hx⟩ := hs
      rw [wp_def tab_23 rfl]
      have hx' : ∀ x ∈ xs, Sm (3 * t + 16) (e + 1) x := fun x hm => (hx x hm).mono (by omega) (by omega)
      have fin : ∀ (ys : List D) (n' : Nat), ys.length ≤ 3 * t + 16 → (∀ y ∈ ys, Sm (3 * t + 16) (e + 1) y) → n' ≤ n + 5 * (e + 1 + 1) → Q (.tup ys) n' := fun ys n' h1 h2 h3 => h _ _ ⟨h1, h2⟩ h3
      have lim : ∀ j, j ≤ 9 → n + j < LIM := fun j hj => by omega
      simp [d_23, b_23, n_23]
      refine wp_draw3 R (by decide) (lim 0 (by omega)) fun way w0 w1 => ?_
      simp
      have hlen : xs.length ≤ 1000 := by omega
      have cl : ∀ lo hi, (cutD xs lo hi).length ≤ t := fun lo hi => Nat.le_trans cutD_le hl
      have cm : ∀ lo hi, ∀ y ∈ cutD xs lo hi, Sm (3 * t + 16) (e + 1) y := fun lo hi y hy => hx' y (mem_cutD hy)
      by_cases hxe : xs = []
      · rw [if_pos hxe]
        refine wp_draw3 R (by decide) (lim 1 (by omega)) fun j j0 j1 => ?_
        simp
        refine draw_ix j0 (by simpa using j1) fun r hr => ?_
        simp
        refine ⟨by omega, fin _ _ (by simp; omega) (fun y hy => ?_) (by omega)⟩
        rcases List.mem_append.mp hy with hy | hy
        · exact hx' y hy
        · simp at hy
          subst hy
          simp at hr
          rcases hr with rfl | rfl | rfl | rfl <;> simp
      rw [if_neg hxe]
      by_cases hw0 : way = 0
      · rw [if_pos hw0]
        refine wp_draw3 R (by decide) (lim 1 (by omega)) fun j j0 j1 => ?_
        simp
        refine draw_ix j0 (by simpa using j1) fun r hr => ?_
        simp
        refine ⟨by omega, fin _ _ (by simp; omega) (fun y hy => ?_) (by omega)⟩
        rcases List.mem_append.mp hy with hy | hy
        · exact hx' y hy
        · simp at hy
          subst hy
          simp at hr
          rcases hr with rfl | rfl | rfl | rfl <;> simp
      rw [if_neg hw0]
      have hpos : 0 < xs.length := List.length_pos_iff.mpr hxe
      refine wp_draw3 R (by omega) (lim 1 (by omega)) fun at' a0 a1 => ?_
      have c2 : ∀ lo hi lo' hi', (cutD xs lo hi).length + (cutD xs lo' hi').length ≤ 16777216 := fun lo hi lo' hi' => by
        have := cl lo hi; have := cl lo' hi'; omega
      obtain ⟨v, ev, mv⟩ := atI_mem a0 a1
      by_cases hw1 : way = 1
      · simp [hw1]
        refine ⟨c2 _ _ _ _, fin _ _ (by simp; have := cl none (some at'); have := cl (some (at' + 1)) none; omega) (fun y hy => ?_) (by omega)⟩
        rcases List.mem_append.mp hy with hy | hy
        · exact cm _ _ y hy
        · exact cm _ _ y hy
      by_cases hw2 : way = 2
      · subst hw2
        simp
        refine wp_draw3 R (by decide) (lim 2 (by omega)) fun j j0 j1 => ?_
        simp
        split
        · exact h _ _ ⟨by omega, hx'⟩ (by omega)
        · simp [ev]
          have hk : k + (e + 1) + 1 = k + e + 2 := by omega
          rw [hk]
          refine ih (k := k) (hx v mv) (by omega) fun r n2 hr hn2 => ?_
          have := cl none (some at'); have := cl (some (at' + 1)) none
          simp
          refine ⟨by omega, by omega, fin _ _ (by simp; omega) (fun y hy => ?_) (by omega)⟩
          rcases List.mem_append.mp hy with hy | hy
          · exact cm _ _ y hy
          · rcases List.mem_cons.mp hy with rfl | hy
            · exact hr
            · exact cm _ _ y hy
      by_cases hw3 : way = 3
      · subst hw3
        simp [ev]
        have := cl none (some at'); have := cl (some at') none
        refine ⟨by omega, by omega, fin _ _ (by simp; omega) (fun y hy => ?_) (by omega)⟩
        rcases List.mem_append.mp hy with hy | hy
        · exact cm _ _ y hy
        · rcases List.mem_cons.mp hy with rfl | hy
          · exact hx' _ mv
          · exact cm _ _ y hy
      by_cases hw4 : way = 4
      · subst hw4
        by_cases hl1 : 1 < (xs.length : Int)
        · have ob := @fmod_bound (at' + 1) xs.length (by omega)
          simp [hl1, hxe]
          generalize (at' + 1).fmod (xs.length : Int) = o at *
          obtain ⟨vl, evl, ml⟩ := @atI_mem xs (if o < at' then o else at') (by split <;> omega) (by split <;> omega)
          obtain ⟨vh, evh, mh⟩ := @atI_mem xs (if at' < o then o else at') (by split <;> omega) (by split <;> omega)
          simp [evl, evh]
          generalize (if o < at' then o else at') = lo at *
          generalize (if at' < o then o else at') = hi at *
          have := cl none (some lo); have := cl (some (lo + 1)) (some hi); have := cl (some (hi + 1)) none
          refine ⟨by omega, by omega, by omega, by omega, fin _ _ (by simp; omega) (fun y hy => ?_) (by omega)⟩
          simp only [List.mem_append, List.mem_cons] at hy
          rcases hy with hy | rfl | hy | rfl | hy
          · exact cm _ _ y hy
          · exact hx' _ mh
          · exact cm _ _ y hy
          · exact hx' _ ml
          · exact cm _ _ y hy
        · simp [hl1, ev]
          have hk : k + (e + 1) + 1 = k + e + 2 := by omega
          rw [hk]
          refine ih (k := k) (hx v mv) (by omega) fun r n2 hr hn2 => ?_
          have := cl none (some at'); have := cl (some (at' + 1)) none
          simp
          refine ⟨by omega, by omega, fin _ _ (by simp; omega) (fun y hy => ?_) (by omega)⟩
          rcases List.mem_append.mp hy with hy | hy
          · exact cm _ _ y hy
          · rcases List.mem_cons.mp hy with rfl | hy
            · exact hr
            · exact cm _ _ y hy
      simp [hw1, hw2, hw3, hw4, ev]
      have hk : k + (e + 1) + 1 = k + e + 2 := by omega
      rw [hk]
      refine ih (k := k) (hx v mv) (by omega) fun r n2 hr hn2 => ?_
      have := cl none (some at'); have := cl (some (at' + 1)) none
      simp
      refine ⟨by omega, by omega, fin _ _ (by simp; omega) (fun y hy => ?_) (by omega)⟩
      rcases List.mem_append.mp hy with hy | hy
      · exact cm _ _ y hy
      · rcases List.mem_cons.mp hy with rfl | hy
        · exact hr
        · exact cm _ _ y hy
    | none => exact leaf (e := e + 1) (k := k) rfl hs hn h
    | bool _ => exact leaf (e := e + 1) (k := k) rfl hs hn h
    | int _ => exact leaf (e := e + 1) (k := k) rfl hs hn h
    | str _ => exact leaf (e := e + 1) (k := k) rfl hs hn h
    | lst _ => exact leaf (e := e + 1) (k := k) rfl hs hn h
    | pool => simp at hs
    | scr _ => simp at hs
    | dict _ _ => simp at hs
    | clo _ _ => simp at hs
    | obj _ _ _ => simp at hs
end

section
variable {rows : List Int} {k n : Nat} {Q : D → Nat → Prop} {d : D}
/-- _law_bends: small data -/
theorem f24 (R : Rw rows) {t e many c B : Nat} (ht : t ≤ 300) (hm : many ≤ 100) (hs : Sm t e d) (hc : 10 * e + 20 ≤ c) (hB : many * c ≤ B) (hn : n + B < LIM)
    (h : ∀ ds n', (∀ x ∈ ds, Sm (9 * t + 64) (e + 2) x) → ds.length ≤ many + 11 → n' ≤ n + B → Q (.lst ds) n') : wp (callF (tab rows) (k + e + 4) 24 [.pool, d, .int many]) n Q := by
  rw [wp_def tab_24 rfl]
  simp [d_24, b_24, n_24]
  rw [range1_eq (by omega)]
  simp
  have t1 : 3 * (3 * t + 16) + 16 ≤ 9 * t + 64 := by omega
  have t2 : 3 * t + 16 ≤ 9 * t + 64 := by omega
  have t3 : 3 * t + 16 ≤ 1000 := by omega
  have t4 : t ≤ 1000 := by omega
  have hs2 : Sm (9 * t + 64) (e + 2) d := hs.mono (by omega) (by omega)
  have small : ∀ ds : List D, ∀ i, i < many → ds.length = i + 1 → ds.length < 16777216 := fun ds i h1 h2 => by omega
  refine wp_for (I := fun i ρ n' => n' ≤ n + i * c ∧ ∃ (ds : List D) (x4 x5 : Sl), ρ = [.val .pool, .val d, .val (.int many), .own (.lst ds), x4, x5] ∧ ds.length = i + 1 ∧ ∀ x ∈ ds, Sm (9 * t + 64) (e + 2) x) ⟨by omega, [d], _, _, rfl, rfl, fun x hx => by simp at hx; subst hx; exact hs2⟩ ?_ ?_
  · rintro i d' ρ n' hd ⟨hn', ds, x4, x5, rfl, hlen, hds⟩
    obtain ⟨hi, rfl⟩ := range_get.mp hd
    have b1 : i * c + c = (i + 1) * c := (Nat.succ_mul _ _).symm
    have b2 : (i + 1) * c ≤ B := Nat.le_trans (Nat.mul_le_mul_right _ hi) hB
    have hds' := small ds i hi hlen
    rw [← b1] at b2
    have g1 : n' + 5 * (e + 1) < LIM := by clear h hs hs2 hds hd b1 hB; omega
    have g2 : ∀ n2, n2 ≤ n' + 5 * (e + 1) → n2 < LIM ∧ n2 + 1 ≤ n + (i * c + c) ∧ n2 + 1 + 5 * (e + 1 + 1) < LIM := by clear h hs hs2 hds hd b1 hB; omega
    have g3 : ∀ n2 n3, n2 ≤ n' + 5 * (e + 1) → n3 ≤ n2 + 1 + 5 * (e + 1 + 1) → n3 ≤ n + (i * c + c) := by clear h hs hs2 hds hd b1 hB; omega
    simp
    have hk : k + e + 3 = (k + 1) + e + 2 := by omega
    rw [hk]
    refine f23 (k := k + 1) R t4 e hs g1 fun r n2 hr hn2 => ?_
    simp
    obtain ⟨q1, q2, q3⟩ := g2 n2 hn2
    refine wp_draw3 R (by decide) q1 fun j j0 j1 => ?_
    simp
    split
    · have hk2 : k + 1 + e + 2 = k + (e + 1) + 2 := by omega
      rw [hk2]
      refine f23 (k := k) R t3 (e + 1) hr q3 fun r2 n3 hr2 hn3 => ?_
      simp [hds']
      refine ⟨by rw [← b1]; exact g3 n2 n3 hn2 hn3, hlen, fun x hx => ?_⟩
      rcases hx with hx | rfl
      · exact hds x hx
      · exact Sm.mono t1 (Nat.le_refl _) hr2
    · simp [hds']
      refine ⟨by rw [← b1]; exact q2, hlen, fun x hx => ?_⟩
      rcases hx with hx | rfl
      · exact hds x hx
      · exact Sm.mono t2 (Nat.le_succ _) hr
  · rintro ρ n' ⟨hn', ds, x4, x5, rfl, hlen, hds⟩
    simp at hlen hn'
    have : ds.length + 10 ≤ 16777216 := by omega
    simp [this]
    refine h _ _ (fun x hx => ?_) (by simp; omega) (Nat.le_trans hn' (Nat.add_le_add_left hB n))
    rcases List.mem_append.mp hx with hx | hx
    · exact hds x hx
    · simp at hx
      rcases hx with rfl | rfl | rfl | rfl | rfl | rfl | rfl | rfl | rfl | rfl
      all_goals first | exact hs2 | simp [lx, l0]
end

section
variable {rows : List Int} {k n : Nat} {Q : D → Nat → Prop} {d : D}
/-- _law_all_rows -/
theorem f42 {dd m : Nat} (hd : dd ≤ 4) (hm : m ≤ 4) : wp (callF (tab rows) (k + 1) 42 [.int dd, .int m]) n Q ↔ Q (lstN (foundL dd m)) n := by
  have pw : ∀ i, i ≤ 5 → dd ^ i ≤ 1024 := fun i hi => Nat.le_trans (Nat.pow_le_pow_left hd i) (Nat.le_trans (Nat.pow_le_pow_right (by decide) hi) (by decide))
  have fl : ∀ i, i ≤ 5 → (foundL dd i).length ≤ 1024 * (i + 1) := by
    intro i
    induction i with
    | zero => intro _; simp [foundL, rowsL]
    | succ i ih =>
      intro hi
      have := ih (by omega)
      have := pw (i + 1) hi
      rw [foundL_succ, List.length_append, rowsL_len]
      omega
  refine wp_eq (wp_out ?_)
  rw [wp_def tab_42 rfl]
  simp [d_42, b_42, n_42]
  rw [range1_eq (by omega)]
  simp
  refine wp_for (I := fun i ρ n' => n' = n ∧ ∃ (x4 x5 x6 x7 : Sl), ρ = [.val (.int dd), .val (.int m), .val (lstN (foundL dd i)), .val (lstN (rowsL dd i)), x4, x5, x6, x7]) ⟨rfl, .un, .un, .un, .un, ?_⟩ ?_ ?_
  · simp [lstN, foundL, rowsL, tupN]
  · rintro i d ρ n' hdd ⟨rfl, x4, x5, x6, x7, rfl⟩
    obtain ⟨hi, rfl⟩ := range_get.mp hdd
    simp [lstN]
    refine wp_for (I := fun j ρ n2 => n2 = n' ∧ ∃ (x6 x7 : Sl), ρ = [.val (.int dd), .val (.int m), .val (lstN (foundL dd i)), .val (lstN (rowsL dd i)), .val (.int i), .val (lstN (((rowsL dd i).take j).flatMap fun c => (List.range dd).map fun j => c ++ [j])), x6, x7]) ⟨rfl, x6, x7, ?_⟩ ?_ ?_
    · simp [lstN]
    · rintro j d ρ n2 hd2 ⟨rfl, x6, x7, rfl⟩
      rw [List.getElem?_map, Option.map_eq_some_iff] at hd2
      obtain ⟨c, hc, rfl⟩ := hd2
      have hcl := (rowsL_mem (List.mem_of_getElem? hc)).1
      have hjl : j < (rowsL dd i).length := (List.getElem?_eq_some_iff.mp hc).1
      have hp := pw i (by omega)
      rw [rowsL_len] at hjl
      simp
      rw [range1_eq (by omega)]
      simp
      refine ⟨by omega, wp_lc_range (fun j => tupN (c ++ [j])) (fun j hj => ?_) ?_⟩
      · have : (c.map fun i => D.int (i : Nat)).length + 1 ≤ 16777216 := by simp; omega
        simp [tupN]
        omega
      · have hlen : ((List.take j (rowsL dd i)).flatMap fun c => (List.range dd).map fun j => c ++ [j]).length ≤ 1024 * 4 := by
          simp only [List.length_flatMap, List.length_map, List.length_range]
          rw [List.map_const', List.sum_replicate_nat]
          have h1 : (List.take j (rowsL dd i)).length ≤ 1024 := by rw [List.length_take, rowsL_len]; omega
          exact Nat.mul_le_mul h1 hd
        rw [lstN, op_3, if_pos (by simp only [List.length_map, List.length_range]; omega), ex1_some]
        rw [ex1_some]
        refine wp_xNext.mpr ⟨rfl, .val (tupN c), x7, ?_⟩
        rw [List.take_add_one, hc]
        simp [lstN]
    · rintro ρ n2 ⟨rfl, x6, x7, rfl⟩
      have h1 := fl i (by omega)
      have h2 : (rowsL dd (i + 1)).length ≤ 1024 := by rw [rowsL_len]; exact pw (i + 1) (by omega)
      have e1 : ((rowsL dd i).take (List.map tupN (rowsL dd i)).length).flatMap (fun c => (List.range dd).map fun j => c ++ [j]) = rowsL dd (i + 1) := by
        rw [List.length_map, List.take_length]
        rfl
      rw [e1]
      simp [lstN, foundL_succ]
      omega
  · rintro ρ n' ⟨rfl, x4, x5, x6, x7, rfl⟩
    simp
end

section
variable {rows : List Int} {k n : Nat} {Q : D → Nat → Prop} {N1 N2 dd : Nat} {rs1 rs2 : List (List Int)} {es1 es2 : List Int}
/-- _law_both_goal -/
theorem f93 (h1 : IsPl N1 dd rs1 es1) (h2 : IsPl N2 dd rs2 es2) {p : Nat × Nat} (hp : p.1 < N1 ∧ p.2 < N2) {j : Nat} (hj : j < dd) : wp (callF (tab rows) (k + 1) 93 [plantD rs1 es1, plantD rs2 es2, pairD p, .int (j : Nat)]) n Q ↔ Q (optP (bothG rs1 rs2 p j)) n := by
  obtain ⟨r1, hr1, hl1⟩ : ∃ r, rowOf rs1 p.1 = r ∧ r.length = dd := ⟨_, rfl, h1.rowLen hp.1⟩
  obtain ⟨r2, hr2, hl2⟩ : ∃ r, rowOf rs2 p.2 = r ∧ r.length = dd := ⟨_, rfl, h2.rowLen hp.2⟩
  have e0 : ixD (tupII rs1) (.int (p.1 : Nat)) = some (tupI r1) := by rw [← hr1]; exact ix_tupII (by rw [h1.len]; exact hp.1)
  have e1 : ixD (tupI r1) (.int (j : Nat)) = some (.int (goal rs1 p.1 j)) := by unfold goal; rw [hr1]; exact ix_tupI (by omega) (-1)
  have e2 : ixD (tupII rs2) (.int (p.2 : Nat)) = some (tupI r2) := by rw [← hr2]; exact ix_tupII (by rw [h2.len]; exact hp.2)
  have e3 : ixD (tupI r2) (.int (j : Nat)) = some (.int (goal rs2 p.2 j)) := by unfold goal; rw [hr2]; exact ix_tupI (by omega) (-1)
  have g1 := h1.goalBd hp.1 hj
  have g2 := h2.goalBd hp.2 hj
  refine wp_eq (wp_out ?_)
  rw [wp_def tab_93 rfl]
  simp [d_93, b_93, n_93, plantD, pairD, e0, e1, e2, e3]
  unfold bothG
  by_cases z1 : goal rs1 p.1 j = -1
  · simp [z1, optP]
  · have y1 : ¬ goal rs1 p.1 j < 0 := by omega
    by_cases z2 : goal rs2 p.2 j = -1
    · simp [z1, z2, y1, optP]
    · have y2 : ¬ goal rs2 p.2 j < 0 := by omega
      simp [z1, z2, y1, y2, optP, pairD]
      omega
end

section
variable {rows : List Int} {k n : Nat} {Q : D → Nat → Prop} {N1 N2 dd : Nat} {rs1 rs2 : List (List Int)} {es1 es2 : List Int}
def outB (rs1 rs2 : List (List Int)) (p : Nat × Nat) (j : Nat) : Bool := decide (goal rs1 p.1 j ≠ -1) && decide (goal rs2 p.2 j = -1)
/-- _law_out -/
theorem f94 (h1 : IsPl N1 dd rs1 es1) (h2 : IsPl N2 dd rs2 es2) {p : Nat × Nat} (hp : p.1 < N1 ∧ p.2 < N2) {j : Nat} (hj : j < dd) : wp (callF (tab rows) (k + 1) 94 [plantD rs1 es1, plantD rs2 es2, pairD p, .int (j : Nat)]) n Q ↔ Q (.bool (outB rs1 rs2 p j)) n := by
  obtain ⟨r1, hr1, hl1⟩ : ∃ r, rowOf rs1 p.1 = r ∧ r.length = dd := ⟨_, rfl, h1.rowLen hp.1⟩
  obtain ⟨r2, hr2, hl2⟩ : ∃ r, rowOf rs2 p.2 = r ∧ r.length = dd := ⟨_, rfl, h2.rowLen hp.2⟩
  have e0 : ixD (tupII rs1) (.int (p.1 : Nat)) = some (tupI r1) := by rw [← hr1]; exact ix_tupII (by rw [h1.len]; exact hp.1)
  have e1 : ixD (tupI r1) (.int (j : Nat)) = some (.int (goal rs1 p.1 j)) := by unfold goal; rw [hr1]; exact ix_tupI (by omega) (-1)
  have e2 : ixD (tupII rs2) (.int (p.2 : Nat)) = some (tupI r2) := by rw [← hr2]; exact ix_tupII (by rw [h2.len]; exact hp.2)
  have e3 : ixD (tupI r2) (.int (j : Nat)) = some (.int (goal rs2 p.2 j)) := by unfold goal; rw [hr2]; exact ix_tupI (by omega) (-1)
  have g1 := h1.goalBd hp.1 hj
  have g2 := h2.goalBd hp.2 hj
  refine wp_eq (wp_out ?_)
  rw [wp_def tab_94 rfl]
  simp [d_94, b_94, n_94, plantD, pairD, e0, e1, e2, e3, -Bool.exists_bool]
  unfold outB
  by_cases z1 : goal rs1 p.1 j = -1
  · simp [z1, -Bool.exists_bool]
  · have y1 : 0 ≤ goal rs1 p.1 j := by omega
    by_cases z2 : goal rs2 p.2 j = -1
    · simp [z1, z2, y1, -Bool.exists_bool]
    · have y2 : ¬ goal rs2 p.2 j < 0 := by omega
      simp [z1, z2, y1, y2, -Bool.exists_bool]
theorem out_far (h1 : IsPl N1 dd rs1 es1) {p : Nat × Nat} (hp : p.1 < N1) : ((List.range dd).all fun j => !outB rs1 rs2 p j) = decide (farL rs1 rs2 p = []) := by
  have hl := h1.rowLen hp
  rw [Bool.eq_iff_iff, List.all_eq_true, decide_eq_true_eq]
  unfold farL outB
  rw [List.filter_eq_nil_iff]
  constructor
  · intro h j hj
    obtain ⟨q1, q2⟩ := mem_doR.mp hj
    have := h j (List.mem_range.mpr (by omega))
    have q2' : goal rs1 p.1 j ≠ -1 := q2
    simp at this ⊢
    exact this.resolve_left q2'
  · intro h j hj
    have hj := List.mem_range.mp hj
    simp
    by_cases q2 : goal rs1 p.1 j = -1
    · exact .inl q2
    · exact .inr (by simpa using h j (mem_doR.mpr ⟨by omega, q2⟩))
end

section
variable {rows : List Int} {k n : Nat} {Q : D → Nat → Prop} {N1 N2 dd : Nat} {rs1 rs2 : List (List Int)} {es1 es2 : List Int}
def clB (rs1 rs2 : List (List Int)) (dd : Nat) (ps : List (Nat × Nat)) (p : Nat × Nat) : Bool := (List.range dd).all fun j => match bothG rs1 rs2 p j with | some q => decide (q ∈ ps) | none => true
theorem clB_eq {ps : List (Nat × Nat)} {p : Nat × Nat} : clB rs1 rs2 dd ps p = (stepsB rs1 rs2 dd p).all fun q => decide (q.2 ∈ ps) := by
  unfold clB
  rw [Bool.eq_iff_iff, List.all_eq_true, List.all_eq_true]
  constructor
  · rintro h ⟨j, q⟩ hq
    obtain ⟨hj, e⟩ := mem_stepsB.mp hq
    have := h j (List.mem_range.mpr hj)
    rw [e] at this
    exact this
  · intro h j hj
    cases e : bothG rs1 rs2 p j with
    | none => rfl
    | some q => exact h (j, q) (mem_stepsB.mpr ⟨List.mem_range.mp hj, e⟩)
theorem len_row0 {N : Nat} {rs : List (List Int)} {es : List Int} (h : IsPl N dd rs es) (hN : 1 ≤ N) : ∃ r : List Int, ixD (plantD rs es) (.int 0) = some (tupII rs) ∧ ixD (tupII rs) (.int 0) = some (tupI r) ∧ Bi.op .len [tupI r] = some (.int dd) := by
  refine ⟨rowOf rs 0, rfl, ix_tupII (s := 0) (by rw [h.len]; omega), ?_⟩
  simp [tupI, h.rowLen (s := 0) (by omega)]
theorem isNot_optP {o : Option (Nat × Nat)} : cmpD .isNot (optP o) .none = some o.isSome := by cases o <;> rfl
theorem notMem_pairs {ps : List (Nat × Nat)} {p : Nat × Nat} : cmpD .notMem (pairD p) (.tup (ps.map pairD)) = some (!decide (p ∈ ps)) := by
  have h := @mem_pairs ps p
  simp only [cmpD] at h ⊢
  rw [h]
  rfl
/-- _law_pairs_closed -/
theorem f95 (h1 : IsPl N1 dd rs1 es1) (h2 : IsPl N2 dd rs2 es2) (hN1 : 1 ≤ N1) (hd : dd ≤ 40) {ps : List (Nat × Nat)} (hin : ∀ p ∈ ps, p.1 < N1 ∧ p.2 < N2) : wp (callF (tab rows) (k + 2) 95 [plantD rs1 es1, plantD rs2 es2, .tup (ps.map pairD)]) n Q ↔ Q (.bool (decide ((0, 0) ∈ ps) && ps.all (clB rs1 rs2 dd ps))) n := by
  obtain ⟨r0, e1, e2, e3⟩ := len_row0 h1 hN1
  have hm := @notMem_pairs ps (0, 0)
  rw [show pairD (0, 0) = .tup [.int 0, .int 0] from rfl] at hm
  refine wp_eq (wp_out ?_)
  rw [wp_def tab_95 rfl]
  simp [d_95, b_95, n_95, hm, -Bool.exists_bool]
  cases hz : decide ((0, 0) ∈ ps) with
  | false =>
    have hz' : (0, 0) ∉ ps := of_decide_eq_false hz
    simp [hz', -Bool.exists_bool]
  | true =>
    have hz' : (0, 0) ∈ ps := of_decide_eq_true hz
    simp [hz', -Bool.exists_bool]
    have hall : (ps.map pairD).all (fun x => clB rs1 rs2 dd ps (prX x)) = ps.all (clB rs1 rs2 dd ps) := by
      rw [List.all_map]
      exact congrArg (ps.all ·) (funext fun p => by simp)
    refine wp_for_all (p := fun x => clB rs1 rs2 dd ps (prX x)) (R := fun ρ => ∃ x3 x4 x5, ρ = [.val (plantD rs1 es1), .val (plantD rs2 es2), .val (.tup (ps.map pairD)), x3, x4, x5]) (.bool false) ⟨_, _, _, rfl⟩ ?_ ?_ ?_
    · rintro x ρ hx ⟨x3, x4, x5, rfl⟩
      obtain ⟨p, hpm, rfl⟩ := List.mem_map.mp hx
      have hpi := hin p hpm
      simp [e1, e2, e3, -Bool.exists_bool]
      rw [range1_eq (by omega)]
      simp [-Bool.exists_bool]
      refine wp_for_all_range (fun j => match bothG rs1 rs2 p j with | some q => decide (q ∈ ps) | none => true) (R := fun ρ => ∃ x4 x5, ρ = [.val (plantD rs1 es1), .val (plantD rs2 es2), .val (.tup (ps.map pairD)), .val (pairD p), x4, x5]) (.bool false) ⟨_, _, rfl⟩ ?_ ?_ ?_
      · rintro j ρ hj ⟨x4, x5, rfl⟩
        simp [-Bool.exists_bool]
        rw [f93 h1 h2 hpi hj]
        simp [isNot_optP, -Bool.exists_bool]
        cases hb : bothG rs1 rs2 p j with
        | none => simp [-Bool.exists_bool]
        | some q =>
          simp [optP, notMem_pairs, -Bool.exists_bool]
      · rintro ha ρ ⟨x4, x5, rfl⟩
        have hc : clB rs1 rs2 dd ps p = true := ha
        simp [hc, -Bool.exists_bool]
      · intro ha
        have hc : clB rs1 rs2 dd ps p = false := ha
        simp [hc, -Bool.exists_bool]
    · rintro ha ρ ⟨x3, x4, x5, rfl⟩
      rw [hall] at ha
      simp [ha, -Bool.exists_bool, -List.all_eq_true]
    · intro ha
      rw [hall] at ha
      simp [ha, -Bool.exists_bool, -List.all_eq_false]
end

section
variable {rows : List Int} {k n : Nat} {Q : D → Nat → Prop} {d : D} {N1 N2 dd : Nat} {rs1 rs2 : List (List Int)} {es1 es2 : List Int}
theorem ge_cast {a b : Nat} : decide ((b : Int) ≤ (a : Int)) = !decide (a < b) := by
  by_cases h : a < b
  · have : ¬ (b : Int) ≤ (a : Int) := by omega
    simp [h, this]
  · have : (b : Int) ≤ (a : Int) := by omega
    simp [h, this]
theorem prs_wide (hN1 : N1 ≤ 16) (hN2 : N2 ≤ 16) (h : 1 ≤ N1 ∨ 1 ≤ N2) : prsOk N1 N2 d = (rowsB d 2 0 15 && fitAll N1 N2 d) := by
  unfold prsOk
  cases d with
  | tup xs =>
    rw [Bool.eq_iff_iff]
    show ((xs.all (rowX 2 0 (((max N1 N2 : Nat) : Int) - 1)) && upR (xs.map intsX)) && _) = true ↔ ((xs.all (rowX 2 0 15) && upR (xs.map intsX)) && _) = true
    simp only [Bool.and_eq_true]
    constructor
    · rintro ⟨⟨h1, h2⟩, h3⟩
      refine ⟨⟨?_, h2⟩, h3⟩
      rw [List.all_eq_true] at h1 ⊢
      intro x hx
      obtain ⟨a, b, rfl, q1, q2, q3, q4⟩ := rowX_two (h1 x hx)
      simp [rowX, isTupN, tupAll, numIn]
      omega
    · rintro ⟨⟨h1, h2⟩, h3⟩
      refine ⟨⟨?_, h2⟩, h3⟩
      rw [List.all_eq_true] at h1 ⊢
      have h3 : xs.all (fitX N1 N2) = true := h3
      rw [List.all_eq_true] at h3
      intro x hx
      obtain ⟨a, b, rfl, q1, q2, q3, q4⟩ := rowX_two (h1 x hx)
      have := h3 _ hx
      simp [fitX] at this
      simp [rowX, isTupN, tupAll, numIn]
      omega
  | _ => rfl
/-- _law_pair_rows -/
theorem f96 (h1 : IsPl N1 dd rs1 es1) (h2 : IsPl N2 dd rs2 es2) (hN1 : 1 ≤ N1 ∧ N1 ≤ 16) (hN2 : 1 ≤ N2 ∧ N2 ≤ 16) {t e : Nat} (ht : t ≤ 1000000) (hs : Sm t e d) : wp (callF (tab rows) (k + 5) 96 [plantD rs1 es1, plantD rs2 es2, d]) n Q ↔ Q (.bool (prsOk N1 N2 d)) n := by
  have e1 : ixD (plantD rs1 es1) (.int 0) = some (tupII rs1) := rfl
  have e2 : ixD (plantD rs2 es2) (.int 0) = some (tupII rs2) := rfl
  have l1 : Bi.op .len [tupII rs1] = some (.int N1) := by simp [tupII, h1.len]
  have l2 : Bi.op .len [tupII rs2] = some (.int N2) := by simp [tupII, h2.len]
  rw [prs_wide hN1.2 hN2.2 (.inl hN1.1)]
  refine wp_eq (wp_out ?_)
  rw [wp_def tab_96 rfl]
  simp [d_96, b_96, n_96, -Bool.exists_bool]
  rw [show (2 : Int) = ((2 : Nat) : Int) from rfl, f92 ht hs]
  simp [-Bool.exists_bool]
  cases hr : rowsB d 2 0 15 with
  | false => simp [-Bool.exists_bool]
  | true =>
    simp [-Bool.exists_bool]
    cases d with
    | tup xs =>
      have hr : (xs.all (rowX 2 0 15) && upR (xs.map intsX)) = true := hr
      rw [Bool.and_eq_true] at hr
      obtain ⟨ps, rfl, hb⟩ := rows_two hr.1
      have hl : ps.length ≤ t := by
        cases e with
        | zero => exact hs.elim
        | succ e => have := hs.1; simpa using this
      simp [-Bool.exists_bool]
      refine ⟨by omega, wp_pick (fun p : Nat × Nat => !(decide (p.1 < N1) && decide (p.2 < N2))) (fun _ => .int 1) (fun p hp => ?_) ?_⟩
      · simp [pairD, e1, e2, l1, l2, -Bool.exists_bool]
        by_cases z : p.1 < N1
        · have z' : ¬ N1 ≤ p.1 := by omega
          by_cases y : p.2 < N2
          · have y' : ¬ N2 ≤ p.2 := by omega
            simp [z, z', y, y', -Bool.exists_bool]
          · have y' : N2 ≤ p.2 := by omega
            simp [z, z', y, y', -Bool.exists_bool]
        · have z' : N1 ≤ p.1 := by omega
          simp [z, z', -Bool.exists_bool]
      · rw [fitAll_ps]
        have e5 : (decide (((ps.filter fun p => !(decide (p.1 < N1) && decide (p.2 < N2))).length : Int) = 0)) = ps.all fun p => decide (p.1 < N1) && decide (p.2 < N2) := by
          rw [Bool.eq_iff_iff, decide_eq_true_eq, List.all_eq_true]
          constructor
          · intro h p hp
            have h : (ps.filter fun p => !(decide (p.1 < N1) && decide (p.2 < N2))) = [] := List.length_eq_zero_iff.mp (by omega)
            have := List.filter_eq_nil_iff.mp h p hp
            simpa using this
          · intro h
            have : (ps.filter fun p => !(decide (p.1 < N1) && decide (p.2 < N2))) = [] := List.filter_eq_nil_iff.mpr fun p hp => by rw [h p hp]; simp
            rw [this]
            rfl
        have e6 : cmpD .eq (.int (((ps.filter fun p => !(decide (p.1 < N1) && decide (p.2 < N2))).map fun _ => D.int 1).length : Int)) (.int 0) = some (ps.all fun p => decide (p.1 < N1) && decide (p.2 < N2)) := by
          rw [eq_int, List.length_map, e5]
        simp only [wp_nil, op_31, e6, ex1_some, wp_cst]
        simp
    | _ => cases hr
end

section
variable {rows : List Int} {k n : Nat} {Q : D → Nat → Prop} {d : D} {N1 N2 dd : Nat} {rs1 rs2 : List (List Int)} {es1 es2 : List Int}
/-- _law_within_right -/
theorem f97 (h1 : IsPl N1 dd rs1 es1) (h2 : IsPl N2 dd rs2 es2) (hN1 : 1 ≤ N1 ∧ N1 ≤ 16) (hN2 : 1 ≤ N2 ∧ N2 ≤ 16) (hd : 1 ≤ dd ∧ dd ≤ 40) {t e : Nat} (ht : t ≤ 100000) (hs : Sm t (e + 1) d) : wp (callF (tab rows) (k + 6) 97 [plantD rs1 es1, plantD rs2 es2, d]) n Q ↔ Q (.bool (wRight N1 N2 dd rs1 rs2 d)) n := by
  obtain ⟨r0, e1, e2, e3⟩ := len_row0 h1 hN1.1
  have hsec : ∀ w, isTag d w 2 = true → Sm t e (secD d) ∧ ixD d (.int 1) = some (secD d) := fun w h => by
    have e1 := tag_sec h
    rw [e1] at hs
    refine ⟨hs.2 _ (by simp), ?_⟩
    rw [e1]
    rfl
  refine wp_eq (wp_out ?_)
  rw [wp_def tab_97 rfl]
  simp [d_97, b_97, n_97, e1, e2, e3, -Bool.exists_bool]
  rw [show (2 : Int) = ((2 : Nat) : Int) from rfl, f65 (by omega) hs.data]
  unfold wRight
  rw [show Str.ofString "course" = strC from rfl, show Str.ofString "within" = strW from rfl]
  cases hC : isTag d strC 2 with
  | true =>
    obtain ⟨hsv, ei⟩ := hsec _ hC
    generalize secD d = v at hsv ei
    simp [ei, -Bool.exists_bool]
    rw [f19 hsv.data]
    unfold cOk
    cases hv : tupAll v (fun x => numIn x 0 ((dd : Int) - 1)) with
    | false => simp [-Bool.exists_bool]
    | true =>
      obtain ⟨ev, hb⟩ := nums_tupN hv
      simp [ei, -Bool.exists_bool]
      generalize natsOf v = c at ev hb
      subst ev
      rw [f36 h1 hN1.1 hb]
      cases ha : aft rs1 0 c with
      | none => simp [-Bool.exists_bool]
      | some s =>
        simp [ei, -Bool.exists_bool]
        rw [f36 h2 hN2.1 hb]
        cases ha2 : aft rs2 0 c with
        | none => simp
        | some s2 => simp
  | false =>
    simp [-Bool.exists_bool]
    rw [show (2 : Int) = ((2 : Nat) : Int) from rfl, f65 (by omega) hs.data]
    cases hW : isTag d strW 2 with
    | false => simp [-Bool.exists_bool]
    | true =>
      obtain ⟨hsv, ei⟩ := hsec _ hW
      generalize secD d = v at hsv ei
      simp [ei, -Bool.exists_bool]
      rw [f96 h1 h2 hN1 hN2 (by omega) hsv]
      cases hp : prsOk N1 N2 v with
      | false => simp [-Bool.exists_bool]
      | true =>
        obtain ⟨ps, rfl, epr, hin, _⟩ := prs_ps hp
        rw [epr]
        simp [ei, -Bool.exists_bool]
        have hall : (ps.map pairD).all (fun x => decide (farL rs1 rs2 (prX x) = [])) = ps.all fun p => decide (farL rs1 rs2 p = []) := by
          rw [List.all_map]
          exact congrArg (ps.all ·) (funext fun p => by simp)
        have hok : ps.all (okP rs1 rs2 dd ps) = ((ps.all fun p => decide (farL rs1 rs2 p = [])) && ps.all (clB rs1 rs2 dd ps)) := by
          rw [Bool.eq_iff_iff, Bool.and_eq_true]
          simp only [List.all_eq_true]
          constructor
          · intro h
            refine ⟨fun p hp => ?_, fun p hp => ?_⟩
            · have := h p hp
              unfold okP at this
              exact (Bool.and_eq_true_iff.mp this).1
            · have := h p hp
              unfold okP at this
              rw [clB_eq]
              exact (Bool.and_eq_true_iff.mp this).2
          · rintro ⟨ha, hb⟩ p hp
            unfold okP
            rw [ha p hp, ← clB_eq, hb p hp]
            rfl
        refine wp_for_all (p := fun x => decide (farL rs1 rs2 (prX x) = [])) (R := fun ρ => ∃ x4 x5, ρ = [.val (plantD rs1 es1), .val (plantD rs2 es2), .val d, .val (.int dd), x4, x5]) (.bool false) ⟨_, _, rfl⟩ ?_ ?_ ?_
        · rintro x ρ hx ⟨x4, x5, rfl⟩
          obtain ⟨p, hpm, rfl⟩ := List.mem_map.mp hx
          have hpi := hin p hpm
          simp [-Bool.exists_bool]
          rw [range1_eq (by omega)]
          simp [-Bool.exists_bool]
          have hof := out_far (rs2 := rs2) (p := p) h1 hpi.1
          refine wp_for_all_range (fun j => !outB rs1 rs2 p j) (R := fun ρ => ∃ x5, ρ = [.val (plantD rs1 es1), .val (plantD rs2 es2), .val d, .val (.int dd), .val (pairD p), x5]) (.bool false) ⟨_, rfl⟩ ?_ ?_ ?_
          · rintro j ρ hj ⟨x5, rfl⟩
            simp [-Bool.exists_bool]
            rw [f94 h1 h2 hpi hj]
            cases ho : outB rs1 rs2 p j <;> simp [ho, -Bool.exists_bool]
          · rintro ha ρ ⟨x5, rfl⟩
            rw [hof] at ha
            have hc : farL rs1 rs2 p = [] := of_decide_eq_true ha
            simp [hc, -Bool.exists_bool]
          · intro ha
            rw [hof] at ha
            have hc : ¬ farL rs1 rs2 p = [] := of_decide_eq_false ha
            simp [hc, -Bool.exists_bool]
        · rintro ha ρ ⟨x4, x5, rfl⟩
          rw [hall] at ha
          simp [ei, -Bool.exists_bool, -List.all_eq_true]
          rw [f95 h1 h2 hN1.1 hd.2 hin, hok, ha]
          simp
        · intro ha
          rw [hall] at ha
          rw [hok, ha]
          simp
end

section
variable {N1 N2 dd : Nat} {rs1 rs2 : List (List Int)} {es1 es2 : List Int}
theorem ways_aft : ∀ {c : List Nat} {p q : Nat × Nat}, Ways (stepsB rs1 rs2 dd) p c q → (∀ j ∈ c, j < dd) ∧ aft rs1 p.1 c = some q.1 ∧ aft rs2 p.2 c = some q.2
  | [], p, q, e => by
    have e : p = q := e
    subst e
    exact ⟨by simp, rfl, rfl⟩
  | j :: c, p, q, ⟨r, h1, h2⟩ => by
    obtain ⟨hj, e⟩ := mem_stepsB.mp h1
    obtain ⟨a, b1, b2⟩ := ways_aft h2
    unfold bothG at e
    split at e
    · cases e
    · rename_i hn
      cases e
      refine ⟨fun i hi => ?_, ?_, ?_⟩
      · rcases List.mem_cons.mp hi with rfl | hi
        · exact hj
        · exact a i hi
      · rw [aft, if_neg fun z => hn (.inl z)]
        exact b1
      · rw [aft, if_neg fun z => hn (.inr z)]
        exact b2
theorem aft_ways : ∀ {c : List Nat} {p q : Nat × Nat}, (∀ j ∈ c, j < dd) → aft rs1 p.1 c = some q.1 → aft rs2 p.2 c = some q.2 → Ways (stepsB rs1 rs2 dd) p c q
  | [], p, q, _, e1, e2 => by
    exact Prod.ext (Option.some.inj e1) (Option.some.inj e2)
  | j :: c, p, q, hc, e1, e2 => by
    unfold aft at e1 e2
    split at e1
    · cases e1
    · rename_i z1
      split at e2
      · cases e2
      · rename_i z2
        refine ⟨((goal rs1 p.1 j).toNat, (goal rs2 p.2 j).toNat), mem_stepsB.mpr ⟨hc j List.mem_cons_self, ?_⟩, aft_ways (fun i hi => hc i (List.mem_cons_of_mem _ hi)) e1 e2⟩
        unfold bothG
        rw [if_neg fun z => z.elim z1 z2]
theorem mem_farL {p : Nat × Nat} {j : Nat} : j ∈ farL rs1 rs2 p ↔ j ∈ doR (rowOf rs1 p.1) ∧ goal rs2 p.2 j = -1 := by
  unfold farL
  rw [List.mem_filter]
  simp
theorem natsOf_tupN {c : List Nat} : natsOf (tupN c) = c := by
  show (c.map fun i : Nat => D.int (i : Nat)).map (fun x => (intOf x).toNat) = c
  rw [List.map_map]
  conv => rhs; rw [← List.map_id c]
  exact List.map_congr_left fun i _ => by simp [intOf]
theorem tupAll_nats {c : List Nat} (h : ∀ j ∈ c, j < dd) : tupAll (tupN c) (fun x => numIn x 0 ((dd : Int) - 1)) = true := by
  show (c.map fun i : Nat => D.int (i : Nat)).all (fun x => numIn x 0 ((dd : Int) - 1)) = true
  rw [List.all_map, List.all_eq_true]
  intro j hj
  have := h j hj
  simp [numIn]
  omega
/-- the first pair with a further deed -/
structure FirstP (rs1 rs2 : List (List Int)) (dd : Nat) (dep : Nat → Nat) (p : Nat × Nat) (j : Nat) (i : Nat) : Prop where
  at_ : (bfsB rs1 rs2 dd).1[i]? = some p
  far : j ∈ farL rs1 rs2 p
  eq : withinP rs1 rs2 dd = .tup [.str strC, tupN (wayTo (bfsB rs1 rs2 dd) p ++ [j])]
  way : Ways (stepsB rs1 rs2 dd) (0, 0) (wayTo (bfsB rs1 rs2 dd) p) p
  len : (wayTo (bfsB rs1 rs2 dd) p).length = dep i
  no : ∀ b q, b < i → (bfsB rs1 rs2 dd).1[b]? = some q → farL rs1 rs2 q = []
theorem within_cases {dep : Nat → Nat} (hB : BfsOk (stepsB rs1 rs2 dd) (0, 0) (bfsB rs1 rs2 dd) dep) : (∃ p j i, FirstP rs1 rs2 dd dep p j i) ∨
    (withinP rs1 rs2 dd = .tup [.str strW, .tup ((sortR ((bfsB rs1 rs2 dd).1.map pairI)).map tupI)] ∧ ∀ p ∈ (bfsB rs1 rs2 dd).1, farL rs1 rs2 p = []) := by
  cases hf : (bfsB rs1 rs2 dd).1.find? fun p => decide (farL rs1 rs2 p ≠ []) with
  | none =>
    refine .inr ⟨by unfold withinP; rw [hf], fun p hp => ?_⟩
    have := List.find?_eq_none.mp hf p hp
    simpa using this
  | some p =>
    obtain ⟨h1, i, hi, h2, h3⟩ := List.find?_eq_some_iff_getElem.mp hf
    have hx : (bfsB rs1 rs2 dd).1[i]? = some p := by rw [List.getElem?_eq_getElem hi, h2]
    obtain ⟨w1, w2⟩ := hB.way hi hx
    cases hl : farL rs1 rs2 p with
    | nil => rw [hl] at h1; simp at h1
    | cons j r =>
      refine .inl ⟨p, j, i, hx, by rw [hl]; exact List.mem_cons_self, ?_, w1, by unfold wayTo; rw [List.length_reverse]; exact w2, fun b q hb hq => ?_⟩
      · unfold withinP
        rw [hf]
        simp only [hl]
        rfl
      · have hbl := (List.getElem?_eq_some_iff.mp hq).1
        have := h3 b hb
        rw [(List.getElem?_eq_some_iff.mp hq).2] at this
        simpa using this
theorem tag_cc {v : D} : isTag (.tup [.str strC, v]) strC 2 = true := by simp [isTag]
theorem tag_ww {v : D} : isTag (.tup [.str strW, v]) strW 2 = true := by simp [isTag]
theorem tag_wc {v : D} : isTag (.tup [.str strW, v]) strC 2 = false := by
  have : decide (strW = strC) = false := by decide +kernel
  simp only [isTag, this, Bool.and_false]
theorem tag_cw {v : D} : isTag (.tup [.str strC, v]) strW 2 = false := by
  have : decide (strC = strW) = false := by decide +kernel
  simp only [isTag, this, Bool.and_false]
theorem aft_snoc {rs : List (List Int)} {c : List Nat} {s s' j : Nat} (h : aft rs s c = some s') : aft rs s (c ++ [j]) = if goal rs s' j = -1 then none else some (goal rs s' j).toNat := by
  rw [aft_append, h]
  show aft rs s' [j] = _
  unfold aft
  split <;> rfl
theorem within_right (h1 : IsPl N1 dd rs1 es1) (h2 : IsPl N2 dd rs2 es2) (hN1 : 1 ≤ N1 ∧ N1 ≤ 40) (hN2 : 1 ≤ N2 ∧ N2 ≤ 40) : wRight N1 N2 dd rs1 rs2 (withinP rs1 rs2 dd) = true := by
  obtain ⟨⟨dep, hB⟩, hlen, hin⟩ := bfsB_ok h1 h2 hN1 hN2
  rcases within_cases hB with ⟨p, j, i, F⟩ | ⟨e, hno⟩
  · rw [F.eq]
    unfold wRight
    rw [tag_cc, if_pos rfl]
    show cOk rs1 rs2 dd (tupN _) = true
    obtain ⟨a1, a2, a3⟩ := ways_aft F.way
    have hp := hin p (List.mem_of_getElem? F.at_)
    obtain ⟨f1, f2⟩ := mem_farL.mp F.far
    obtain ⟨f3, f4⟩ := mem_doR.mp f1
    have hj : j < dd := by rw [h1.rowLen hp.1] at f3; exact f3
    unfold cOk
    rw [natsOf_tupN, tupAll_nats fun x hx => by
      rcases List.mem_append.mp hx with hx | hx
      · exact a1 x hx
      · simp at hx; subst hx; exact hj]
    rw [aft_snoc a2, aft_snoc a3]
    have f4' : ¬ goal rs1 p.1 j = -1 := f4
    simp [f2, f4']
  · rw [e]
    unfold wRight
    rw [tag_wc, tag_ww, if_neg (by simp)]
    simp only [Bool.true_and]
    show ((prsOk N1 N2 (.tup ((sortR ((bfsB rs1 rs2 dd).1.map pairI)).map tupI)) && _) && _) = true
    generalize bfsB rs1 rs2 dd = s at hB hlen hin hno
    have hnd : (s.1.map pairI).Nodup := by
      refine List.Pairwise.map pairI (fun a b h e => h ?_) hB.nd
      simp only [pairI, List.cons.injEq, and_true] at e
      exact Prod.ext (by omega) (by omega)
    have hup := upR_of (sortR_up hnd)
    have hmem : ∀ r, r ∈ sortR (s.1.map pairI) ↔ r ∈ s.1.map pairI := fun r => sortR_perm.mem_iff
    obtain ⟨ps, eps, hps⟩ : ∃ ps : List (Nat × Nat), sortR (s.1.map pairI) = ps.map pairI ∧ ∀ p, p ∈ ps ↔ p ∈ s.1 := by
      have back : ∀ p : Nat × Nat, (((pairI p).getD 0 0).toNat, ((pairI p).getD 1 0).toNat) = p := fun p => by simp [pairI]
      refine ⟨(sortR (s.1.map pairI)).map fun l => ((l.getD 0 0).toNat, (l.getD 1 0).toNat), ?_, fun p => ?_⟩
      · rw [List.map_map]
        conv => lhs; rw [← List.map_id (sortR (s.1.map pairI))]
        refine List.map_congr_left fun l hl => ?_
        obtain ⟨p, _, rfl⟩ := List.mem_map.mp ((hmem l).mp hl)
        exact congrArg pairI (back p).symm
      · rw [List.mem_map]
        constructor
        · rintro ⟨l, hl, e⟩
          obtain ⟨q, hq, rfl⟩ := List.mem_map.mp ((hmem l).mp hl)
          rw [back q] at e
          exact e ▸ hq
        · intro hp
          exact ⟨pairI p, (hmem _).mpr (List.mem_map.mpr ⟨p, hp, rfl⟩), back p⟩
    rw [eps] at hup ⊢
    have esec : secD (D.tup [D.str strW, D.tup (ps.map pairD)]) = .tup (ps.map pairD) := rfl
    rw [← map_pairD, esec, prsOf_ps]
    have hz : (0, 0) ∈ s.1 := List.mem_of_getElem? hB.h0
    have hfit : ∀ p ∈ ps, p.1 < N1 ∧ p.2 < N2 := fun p hp => hin p ((hps p).mp hp)
    simp only [Bool.and_eq_true]
    refine ⟨⟨?_, decide_eq_true ((hps _).mpr hz)⟩, ?_⟩
    · unfold prsOk
      rw [Bool.and_eq_true]
      refine ⟨?_, ?_⟩
      · show ((ps.map pairD).all (rowX 2 0 _) && upR ((ps.map pairD).map intsX)) = true
        rw [Bool.and_eq_true]
        refine ⟨?_, ?_⟩
        · rw [List.all_map, List.all_eq_true]
          intro p hp
          have := hfit p hp
          simp [rowX, isTupN, tupAll, numIn, pairD]
          omega
        · rw [List.map_map]
          exact hup
      · rw [fitAll_ps, List.all_eq_true]
        intro p hp
        have := hfit p hp
        simp [this]
    · rw [List.all_eq_true]
      intro p hp
      have hp' := (hps p).mp hp
      unfold okP
      rw [hno p hp']
      simp only [decide_true, Bool.true_and]
      rw [List.all_eq_true]
      rintro ⟨l, q⟩ hq
      obtain ⟨a, ha, e⟩ := List.getElem_of_mem hp'
      obtain ⟨b, hb, _⟩ := hB.cls a p l q (by rw [List.getElem?_eq_getElem ha, e]) hq
      exact decide_eq_true ((hps q).mpr (List.mem_of_getElem? hb))
/-- where the one goes on and the other does not -/
theorem aft_split : ∀ {c : List Nat} {a b s : Nat}, aft rs1 a c = some s → aft rs2 b c = none → ∃ c' j x y, (∀ i ∈ c', i ∈ c) ∧ j ∈ c ∧ c'.length < c.length ∧ aft rs1 a c' = some x ∧ aft rs2 b c' = some y ∧ goal rs1 x j ≠ -1 ∧ goal rs2 y j = -1
  | [], a, b, s, _, e2 => by cases e2
  | j :: c, a, b, s, e1, e2 => by
    unfold aft at e1 e2
    split at e1
    · cases e1
    · rename_i z1
      split at e2
      · rename_i z2
        exact ⟨[], j, a, b, by simp, List.mem_cons_self, by simp, rfl, rfl, z1, z2⟩
      · rename_i z2
        obtain ⟨c', j', x, y, h1, h2, h3, h4, h5, h6, h7⟩ := aft_split e1 e2
        refine ⟨j :: c', j', x, y, fun i hi => ?_, List.mem_cons_of_mem _ h2, by simp; omega, ?_, ?_, h6, h7⟩
        · rcases List.mem_cons.mp hi with rfl | hi
          · exact List.mem_cons_self
          · exact List.mem_cons_of_mem _ (h1 i hi)
        · rw [aft, if_neg z1]; exact h4
        · rw [aft, if_neg z2]; exact h5
theorem within_short {dep : Nat → Nat} (h1 : IsPl N1 dd rs1 es1) (hN1 : 1 ≤ N1) (hB : BfsOk (stepsB rs1 rs2 dd) (0, 0) (bfsB rs1 rs2 dd) dep) {p : Nat × Nat} {j i : Nat} (F : FirstP rs1 rs2 dd dep p j i) {c : List Nat} (hc : ∀ x ∈ c, x < dd) (hl : c.length ≤ dep i) : ¬ ((aft rs1 0 c).isSome = true ∧ aft rs2 0 c = none) := by
  rintro ⟨e1, e2⟩
  obtain ⟨s, e1⟩ := Option.isSome_iff_exists.mp e1
  obtain ⟨c', j', x, y, q1, q2, q3, q4, q5, q6, q7⟩ := aft_split e1 e2
  have hw : Ways (stepsB rs1 rs2 dd) (0, 0) c' (x, y) := aft_ways (fun i hi => hc i (q1 i hi)) q4 q5
  obtain ⟨b, hb, hd⟩ := hB.short hB.h0 hw
  rw [hB.d0] at hd
  have hx : x < N1 := aft_lt h1 (by omega) (fun i hi => hc i (q1 i hi)) q4
  have hf : j' ∈ farL rs1 rs2 (x, y) := mem_farL.mpr ⟨mem_doR.mpr ⟨by rw [h1.rowLen hx]; exact hc j' q2, q6⟩, q7⟩
  have hbi : i ≤ b := by
    refine Nat.le_of_not_lt fun z => ?_
    have := F.no b (x, y) z hb
    rw [this] at hf
    cases hf
  have := hB.mono i b hbi (List.getElem?_eq_some_iff.mp hb).1
  omega
end
def tlS : Ss → Ss
  | .cons _ r => r
  | _ => .nil
/-- the law behind its draws -/
def lawT : Ss := tlS (tlS (tlS (tlS (tlS (tlS (tlS lawB))))))
theorem lawB_eq : lawB = (Ss.cons (S.asg (Tgt.nm 2) (E.call 32 (Es.cons (E.var 1) Es.nil))) (Ss.cons (S.asg (Tgt.nm 3) (E.call 15 (Es.cons (E.var 1) (Es.cons (E.int 4) (Es.cons (E.var 2) Es.nil))))) (Ss.cons (S.asg (Tgt.nm 4) (E.call 15 (Es.cons (E.var 1) (Es.cons (E.int 4) (Es.cons (E.var 2) Es.nil))))) (Ss.cons (S.asg (Tgt.nm 5) (E.call 3 (Es.cons (E.var 1) (Es.cons (E.int 4) Es.nil)))) (Ss.cons (S.ite (E.cmp .eq (E.var 5) (E.int 0)) (Ss.cons (S.asg (Tgt.nm 4) (E.var 3)) Ss.nil) Ss.nil) (Ss.cons (S.ite (E.cmp .eq (E.var 5) (E.int 1)) (Ss.cons (S.asg (Tgt.nm 4) (E.call 91 (Es.cons (E.var 1) (Es.cons (E.var 3) Es.nil)))) Ss.nil) Ss.nil) (Ss.cons (S.ite (E.cmp .eq (E.var 5) (E.int 2)) (Ss.cons (S.asg (Tgt.nm 4) (E.var 3)) (Ss.cons (S.asg (Tgt.nm 3) (E.call 91 (Es.cons (E.var 1) (Es.cons (E.var 3) Es.nil)))) Ss.nil)) Ss.nil) lawT))))))) := rfl
section
variable {rows : List Int} {n : Nat} {N1 N2 dd : Nat} {rs1 rs2 : List (List Int)} {es1 es2 : List Int}
theorem mem_foundL {k : Nat} {c : List Nat} (h : c ∈ foundL dd k) : c.length ≤ k ∧ ∀ j ∈ c, j < dd := by
  unfold foundL at h
  obtain ⟨i, hi, hc⟩ := List.mem_flatMap.mp h
  have := List.mem_range.mp hi
  obtain ⟨h1, h2⟩ := rowsL_mem hc
  exact ⟨by omega, h2⟩
theorem foundL_len (hd : dd ≤ 4) : ∀ {k : Nat}, k ≤ 5 → (foundL dd k).length ≤ 1024 * (k + 1)
  | 0, _ => by simp [foundL, rowsL]
  | k + 1, hk => by
    have := foundL_len hd (k := k) (by omega)
    have pw : dd ^ (k + 1) ≤ 1024 := Nat.le_trans (Nat.pow_le_pow_left hd (k + 1)) (Nat.le_trans (Nat.pow_le_pow_right (by decide) hk) (by decide))
    rw [foundL_succ, List.length_append, rowsL_len]
    omega
theorem sm_nats {c : List Nat} (hl : c.length ≤ 200) (h : ∀ j ∈ c, j ≤ 200) : Sm 200 1 (tupN c) := by
  refine ⟨by simpa using hl, fun x hx => ?_⟩
  obtain ⟨j, hj, rfl⟩ := List.mem_map.mp hx
  have := h j hj
  simp
  omega
theorem sm_strs : strC.length ≤ 200 ∧ strW.length ≤ 200 := by decide +kernel
theorem within_sm (h1 : IsPl N1 dd rs1 es1) (h2 : IsPl N2 dd rs2 es2) (hN1 : 1 ≤ N1 ∧ N1 ≤ 4) (hN2 : 1 ≤ N2 ∧ N2 ≤ 4) (hd : dd ≤ 4) : Sm 200 3 (withinP rs1 rs2 dd) := by
  obtain ⟨⟨dep, hB⟩, hlen, hin⟩ := bfsB_ok h1 h2 ⟨hN1.1, by omega⟩ ⟨hN2.1, by omega⟩
  have hb : N1 * N2 ≤ 16 := Nat.mul_le_mul hN1.2 hN2.2
  rcases within_cases hB with ⟨p, j, i, F⟩ | ⟨e, hno⟩
  · rw [F.eq]
    obtain ⟨a1, _, _⟩ := ways_aft F.way
    have hp := hin p (List.mem_of_getElem? F.at_)
    obtain ⟨f3, f4⟩ := mem_doR.mp (mem_farL.mp F.far).1
    have hj : j < dd := by rw [h1.rowLen hp.1] at f3; exact f3
    have hl : (wayTo (bfsB rs1 rs2 dd) p).length ≤ 16 := by
      rw [F.len]
      have key : ∀ b, b < (bfsB rs1 rs2 dd).1.length → dep b ≤ b := by
        intro b
        induction b using Nat.strongRecOn with
        | ind b ih =>
          intro hb
          have hx : (bfsB rs1 rs2 dd).1[b]? = some (bfsB rs1 rs2 dd).1[b] := List.getElem?_eq_getElem hb
          have hpa := hB.parAt hx
          cases e : prnB (bfsB rs1 rs2 dd) (bfsB rs1 rs2 dd).1[b] with
          | none =>
            rw [e] at hpa
            rw [hB.root b hpa, hB.d0]
            exact Nat.le_refl _
          | some q =>
            obtain ⟨pp, l⟩ := q
            rw [e] at hpa
            obtain ⟨a, _, q1, q2, _, _, q5⟩ := hB.par b pp l hpa
            have := ih a q1 (by omega)
            omega
      have hi := (List.getElem?_eq_some_iff.mp F.at_).1
      have := key i hi
      omega
    refine ⟨by simp, fun x hx => ?_⟩
    simp only [List.mem_cons, List.not_mem_nil, or_false] at hx
    rcases hx with rfl | rfl
    · simpa using sm_strs.1
    · refine (sm_nats (by simp; omega) fun x hx => ?_).mono (Nat.le_refl _) (by decide)
      rcases List.mem_append.mp hx with hx | hx
      · have := a1 x hx; omega
      · simp at hx; omega
  · rw [e]
    refine ⟨by simp, fun x hx => ?_⟩
    simp only [List.mem_cons, List.not_mem_nil, or_false] at hx
    rcases hx with rfl | rfl
    · simpa using sm_strs.2
    · refine ⟨by rw [List.length_map, sortR_perm.length_eq, List.length_map]; omega, fun y hy => ?_⟩
      obtain ⟨r, hr, rfl⟩ := List.mem_map.mp hy
      obtain ⟨p, hp, rfl⟩ := List.mem_map.mp (sortR_perm.mem_iff.mp hr)
      have := hin p hp
      refine ⟨by simp [pairI], fun z hz => ?_⟩
      obtain ⟨i, hi, rfl⟩ := List.mem_map.mp hz
      simp [pairI] at hi
      simp
      omega
theorem law_rest (R : Rw rows) (h1 : IsPl N1 dd rs1 es1) (h2 : IsPl N2 dd rs2 es2) (hN1 : 1 ≤ N1 ∧ N1 ≤ 4) (hN2 : 1 ≤ N2 ∧ N2 ≤ 4) (hd : 1 ≤ dd ∧ dd ≤ 4) (hn : n ≤ 4000) {w : Int} :
    wp (xSs (callF (tab rows) 112) lawT [.un, .val .pool, .val (.int dd), .val (plantD rs1 es1), .val (plantD rs2 es2), .val (.int w), .un, .un, .un, .un, .un, .un, .un, .un, .un]) n fun o _ => o = .rt (.bool true) := by
  have m1 : 1 ≤ N1 ∧ N1 ≤ 40 := ⟨hN1.1, by omega⟩
  have m2 : 1 ≤ N2 ∧ N2 ≤ 40 := ⟨hN2.1, by omega⟩
  have w1 : 1 ≤ N1 ∧ N1 ≤ 16 := ⟨hN1.1, by omega⟩
  have w2 : 1 ≤ N2 ∧ N2 ≤ 16 := ⟨hN2.1, by omega⟩
  have hP := within_sm h1 h2 hN1 hN2 hd.2
  have hR := within_right h1 h2 m1 m2
  obtain ⟨⟨dep, hB⟩, hlen, hin⟩ := bfsB_ok h1 h2 m1 m2
  have e1 : ixD (plantD rs1 es1) (.int 0) = some (tupII rs1) := rfl
  have e2 : ixD (plantD rs2 es2) (.int 0) = some (tupII rs2) := rfl
  have l1 : Bi.op .len [tupII rs1] = some (.int N1) := by simp [tupII, h1.len]
  have l2 : Bi.op .len [tupII rs2] = some (.int N2) := by simp [tupII, h2.len]
  obtain ⟨sP, vP, eP⟩ : ∃ (s : Str) (v : D), withinP rs1 rs2 dd = .tup [.str s, v] := by
    rcases within_cases hB with ⟨p, j, i, F⟩ | ⟨e, _⟩
    · exact ⟨_, _, F.eq⟩
    · exact ⟨_, _, e⟩
  have e0 : ixD (withinP rs1 rs2 dd) (.int 0) = some (.str sP) := by rw [eP]; rfl
  have eT : isTag (withinP rs1 rs2 dd) strW 2 = decide (sP = strW) := by rw [eP]; simp [isTag]
  simp [lawT, lawB, tlS]
  rw [f724 h1 h2 m1 m2 (by omega)]
  simp
  rw [f97 (e := 2) h1 h2 w1 w2 ⟨hd.1, by omega⟩ (by decide : 200 ≤ 100000) hP, hR]
  simp
  rw [f725 h1 h2 m1 m2 (by omega)]
  simp [e0, eq_str]
  rw [f17, eT, show Str.ofString "within" = strW from rfl]
  simp [e1, l1]
  rw [range1_eq (by omega)]
  simp
  refine ⟨by omega, wp_lc_range (fun i => .tup [.int (i : Nat), .int 0]) (fun i hi => ?_) ?_⟩
  · simp
  simp
  refine f24 R (t := 200) (e := 3) (many := 14) (c := 50) (B := 700) (by omega) (by omega) hP (by omega) (by omega) (by unfold LIM; omega) fun ds n2 hds hdl hn2 => ?_
  simp
  refine f33 (most := 6) R h1 m1 ⟨hd.1, by omega⟩ (by decide : 6 ≤ 100) (by unfold LIM; omega) fun is1 n3 hl3 hb3 hn3 => ?_
  simp
  refine f34 (most := 3) R (by omega) (by decide : 3 ≤ 100) (by unfold LIM; omega) fun is2 n4 hl4 hb4 hn4 => ?_
  simp
  refine ⟨by omega, ?_⟩
  have hstr : strC.length ≤ 1900 ∧ strW.length ≤ 1900 := by decide +kernel
  have smp : ∀ (w : Str) (v : D), w.length ≤ 1900 → Sm 1900 4 v → Sm 1900 5 (.tup [.str w, v]) := fun w v hw hv => ⟨by simp, fun x hx => by
    simp only [List.mem_cons, List.not_mem_nil, or_false] at hx
    rcases hx with rfl | rfl
    · simpa using hw
    · exact hv⟩
  have smi : ∀ is : List Int, is.length ≤ 1900 → (∀ i ∈ is, 0 ≤ i ∧ i < (dd : Int)) → Sm 1900 4 (tupI is) := fun is hl hx => ⟨by simpa using hl, fun x hxm => by
    obtain ⟨i, hi, rfl⟩ := List.mem_map.mp hxm
    have := hx i hi
    simp
    omega⟩
  have hL : ∀ x ∈ ds ++ [D.tup [.str (Str.ofString "course"), tupI is1], .tup [.str (Str.ofString "course"), tupI is2], .tup [.str strW, .tup ((List.range N1).map fun i => D.tup [.int (i : Nat), .int 0])]], Sm 1900 5 x := by
    intro x hx
    rcases List.mem_append.mp hx with hx | hx
    · exact (hds x hx).mono (by omega) (by omega)
    · simp only [List.mem_cons, List.not_mem_nil, or_false] at hx
      rcases hx with rfl | rfl | rfl
      · exact smp _ _ hstr.1 (smi _ (by omega) hb3)
      · exact smp _ _ hstr.1 (smi _ (by omega) hb4)
      · refine smp _ _ hstr.2 ⟨by simp; omega, fun y hy => ?_⟩
        obtain ⟨i, hi, rfl⟩ := List.mem_map.mp hy
        have := List.mem_range.mp hi
        refine ⟨by simp, fun z hz => ?_⟩
        simp only [List.mem_cons, List.not_mem_nil, or_false] at hz
        rcases hz with rfl | rfl
        · simp; omega
        · simp
  have hLl : (ds ++ [D.tup [.str (Str.ofString "course"), tupI is1], .tup [.str (Str.ofString "course"), tupI is2], .tup [.str strW, .tup ((List.range N1).map fun i => D.tup [.int (i : Nat), .int 0])]]).length ≤ 40 := by simp; omega
  generalize (ds ++ [D.tup [.str (Str.ofString "course"), tupI is1], .tup [.str (Str.ofString "course"), tupI is2], .tup [.str strW, .tup ((List.range N1).map fun i => D.tup [.int (i : Nat), .int 0])]]) = L at hL hLl ⊢
  generalize (D.tup ((List.range N1).map fun i => D.tup [.int (i : Nat), .int 0])) = ev
  simp [e1, l1]
  rw [range1_eq (by omega)]
  simp
  refine wp_for (I := fun i ρ m => m = n4 ∧ ∃ (pl : List D) (x8 x11 : Sl), ρ = [.un, .val .pool, .val (.int dd), .val (plantD rs1 es1), .val (plantD rs2 es2), .val (.int w), .val (withinP rs1 rs2 dd), .val ev, x8, .own (.lst L), .val (.lst pl), x11, .un, .un, .un] ∧ pl.length = i * N2 ∧ ∀ x ∈ pl, Sm 1900 3 x) ⟨rfl, [], _, _, rfl, by simp, by simp⟩ ?_ ?_
  · rintro i d ρ m hd' ⟨rfl, pl, x8, x11, rfl, hpl, hps⟩
    obtain ⟨hi, rfl⟩ := range_get.mp hd'
    have b2 : (i + 1) * N2 ≤ 16 := Nat.mul_le_mul (by omega : i + 1 ≤ 4) hN2.2
    have b1 : i * N2 + N2 = (i + 1) * N2 := (Nat.succ_mul _ _).symm
    simp [e2, l2]
    rw [range1_eq (by omega)]
    simp
    refine ⟨by omega, wp_lc_range (fun b => .tup [.int ((0 : Int) + (i : Nat)), .int (b : Nat)]) (fun b hb => ?_) ?_⟩
    · simp
    have hc : pl.length + N2 ≤ 16777216 := by omega
    simp [hc]
    refine ⟨by omega, fun x hx => ?_⟩
    rcases hx with hx | ⟨b, hb, rfl⟩
    · exact hps x hx
    · refine ⟨by simp, fun z hz => ?_⟩
      simp only [List.mem_cons, List.not_mem_nil, or_false] at hz
      rcases hz with rfl | rfl
      · simp; omega
      · simp; omega
  · rintro ρ m ⟨rfl, pl, x8, x11, rfl, hpl, hps⟩
    have hpl' : pl.length ≤ 16 := by
      simp at hpl
      rw [hpl]
      exact Nat.mul_le_mul hN1.2 hN2.2
    have hl5 : L.length < 16777216 := by omega
    simp [hl5, frzR]
    have hL2 : ∀ x ∈ L ++ [D.tup [.str strW, .tup pl]], Sm 1900 5 x := by
      intro x hx
      rcases List.mem_append.mp hx with hx | hx
      · exact hL x hx
      · simp only [List.mem_cons, List.not_mem_nil, or_false] at hx
        subst hx
        exact smp _ _ hstr.2 ⟨by omega, fun y hy => hps y hy⟩
    generalize (L ++ [D.tup [.str strW, .tup pl]]) = L2 at hL2 ⊢
    refine wp_for (I := fun i ρ m' => m' = m ∧ ∃ x12 : Sl, ρ = [.un, .val .pool, .val (.int dd), .val (plantD rs1 es1), .val (plantD rs2 es2), .val (.int w), .val (withinP rs1 rs2 dd), .val ev, x8, .val (.lst L2), .val (.lst pl), x11, x12, .un, .un]) ⟨rfl, .un, rfl⟩ ?_ ?_
    · rintro i x ρ n' hx ⟨rfl, x12, rfl⟩
      have hxs := hL2 x (List.mem_of_getElem? hx)
      simp
      rw [f89 (e := 4) h1 h2 m1 m2 (by omega) (by decide : 1900 ≤ 100000) hxs]
      simp
      rw [f97 (e := 4) h1 h2 w1 w2 ⟨hd.1, by omega⟩ (by decide : 1900 ≤ 100000) hxs]
      simp
      rw [f17]
      simp
    · rintro ρ n' ⟨rfl, x12, rfl⟩
      simp [e0, eq_str]
      rw [show Str.ofString "course" = strC from rfl]
      by_cases hs : sP = strC
      · subst hs
        simp
        rcases within_cases hB with ⟨p, j, i, F⟩ | ⟨e, _⟩
        · have ev1 : ixD (withinP rs1 rs2 dd) (.int 1) = some (tupN (wayTo (bfsB rs1 rs2 dd) p ++ [j])) := by rw [F.eq]; rfl
          have el : Bi.op .len [tupN (wayTo (bfsB rs1 rs2 dd) p ++ [j])] = some (.int ((dep i : Int) + 1)) := by
            simp [tupN, F.len]
          simp [ev1, el]
          have em : (if (dep i : Int) < 3 then (dep i : Int) else 3) = ((min (dep i) 3 : Nat) : Int) := by split <;> omega
          rw [em, f42 hd.2 (by omega)]
          have eit : itemsD (lstN (foundL dd (min (dep i) 3))) = some ((foundL dd (min (dep i) 3)).map tupN) := rfl
          have hfl := foundL_len hd.2 (by omega : min (dep i) 3 ≤ 5)
          simp [eit]
          refine ⟨by omega, wp_pick (fun c => (aft rs1 0 c).isSome && (aft rs2 0 c).isNone) tupN (fun c hc => ?_) ?_⟩
          · obtain ⟨q1, q2⟩ := mem_foundL hc
            simp
            rw [f36 h1 hN1.1 q2]
            cases ha : aft rs1 0 c with
            | none => simp
            | some s =>
              simp
              rw [f36 h2 hN2.1 q2]
              cases ha2 : aft rs2 0 c with
              | none => simp
              | some s2 => simp
          · have hnil : (foundL dd (min (dep i) 3)).filter (fun c => (aft rs1 0 c).isSome && (aft rs2 0 c).isNone) = [] := by
              rw [List.filter_eq_nil_iff]
              intro c hc
              obtain ⟨q1, q2⟩ := mem_foundL hc
              have := within_short h1 hN1.1 hB F q2 (by omega)
              simpa using this
            rw [hnil]
            simp
        · rw [e] at eP
          cases eP
      · simp [hs]
end
theorem law_proof : ∀ rows : List Int, 24 ≤ rows.length → rows.length ≤ 144 → wp (xSs (callF (tab rows) (110 + 2)) lawB (lawR lawN)) 0 fun o _ => o = .rt (.bool true) := by
  intro rows hr1 hr2
  have R : Rw rows := ⟨by omega, by omega⟩
  rw [lawB_eq]
  simp [lawR, lawN]
  refine f32 R (by decide) fun dd hd1 hd2 => ?_
  simp
  refine f15p (M := 4) R (by decide) (by omega) (by unfold LIM; omega) fun N1 rs1 es1 n1 a1 a2 a3 a4 => ?_
  simp
  refine f15p (M := 4) R (by decide) (by omega) (by unfold LIM; omega) fun N2 rs2 es2 n2 b1 b2 b3 b4 => ?_
  simp
  refine wp_draw3 R (by decide) (by unfold LIM; omega) fun w w0 w1 => ?_
  simp
  by_cases hw0 : w = 0
  · subst hw0
    simp
    exact law_rest R a3 a3 ⟨a1, a2⟩ ⟨a1, a2⟩ ⟨hd1, hd2⟩ (by omega)
  · simp [hw0]
    by_cases hw1 : w = 1
    · subst hw1
      simp
      refine f91 R a3 ⟨a1, by omega⟩ ⟨hd1, by omega⟩ (by unfold LIM; omega) fun N3 rs3 es3 n3 c1 c2 c3 c4 => ?_
      simp
      exact law_rest R a3 c3 ⟨a1, a2⟩ ⟨c1, by omega⟩ ⟨hd1, hd2⟩ (by omega)
    · simp [hw1]
      by_cases hw2 : w = 2
      · subst hw2
        simp
        refine f91 R a3 ⟨a1, by omega⟩ ⟨hd1, by omega⟩ (by unfold LIM; omega) fun N3 rs3 es3 n3 c1 c2 c3 c4 => ?_
        simp
        exact law_rest R c3 a3 ⟨c1, by omega⟩ ⟨a1, a2⟩ ⟨hd1, hd2⟩ (by omega)
      · simp [hw2]
        exact law_rest R a3 b3 ⟨a1, a2⟩ ⟨b1, b2⟩ ⟨hd1, hd2⟩ (by omega)

def top (i : Nat) : Stmt := PySem.Challenge.pw_stewardsight_k07_within_papers_are_right.main.body.getD i (.Pass ⟨0, 0, 0, 0⟩)
def StL : Stt := ⟨[(4, (Str.ofString "is_integer")), (5, (Str.ofString "is_number")), (6, (Str.ofString "is_tuple")), (7, (Str.ofString "is_between")), (57, (Str.ofString "is_tagged")), (8, (Str.ofString "is_ascending")), (9, (Str.ofString "are_integers")), (83, (Str.ofString "are_rows")), (26, (Str.ofString "deeds_of")), (27, (Str.ofString "doable")), (28, (Str.ofString "after")), (705, (Str.ofString "Roads")), (68, (Str.ofString "step_both")), (84, (Str.ofString "both_steps")), (85, (Str.ofString "further_deeds")), (724, (Str.ofString "within_paper")), (87, (Str.ofString "are_pairs")), (88, (Str.ofString "is_row_of_deeds")), (89, (Str.ofString "check_within")), (725, (Str.ofString "is_within")), (3, (Str.ofString "_law_draw")), (32, (Str.ofString "_law_deeds")), (15, (Str.ofString "_law_plant")), (91, (Str.ofString "_law_wish")), (33, (Str.ofString "_law_course")), (34, (Str.ofString "_law_row")), (16, (Str.ofString "_law_kind")), (17, (Str.ofString "_law_is")), (18, (Str.ofString "_law_int")), (19, (Str.ofString "_law_ints")), (20, (Str.ofString "_law_up")), (92, (Str.ofString "_law_tuples")), (65, (Str.ofString "_law_tag")), (36, (Str.ofString "_law_after")), (23, (Str.ofString "_law_bent")), (24, (Str.ofString "_law_bends")), (42, (Str.ofString "_law_all_rows")), (93, (Str.ofString "_law_both_goal")), (94, (Str.ofString "_law_out")), (95, (Str.ofString "_law_pairs_closed")), (96, (Str.ofString "_law_pair_rows")), (97, (Str.ofString "_law_within_right"))], [((Str.ofString "NOWHERE"), (D.int (-1))), ((Str.ofString "COURSE"), (D.str (Str.ofString "course"))), ((Str.ofString "WITHIN"), (D.str (Str.ofString "within"))), ((Str.ofString "LONGEST"), (D.int 100000))], false, [(726, ⟨3, n_726, [(Str.ofString "pair")], e_726⟩)], [((Str.ofString "nodes"), [1]), ((Str.ofString "_before"), [1])], [((Str.ofString "way_to"), [(1, 711)]), ((Str.ofString "ascending"), [(1, 702)])]⟩
theorem di_4 : DefIs StL (Str.ofString "is_integer") (Str.ofString "is_integer") d_4 (top 1) := ⟨fun _ _ _ _ _ _ us hl => match us, hl with | [_], _ => rfl, ⟨rfl, rfl, rfl, by decide +kernel, rfl, by decide +kernel, by decide +kernel⟩, by decide, .inl ⟨rfl, by decide +kernel⟩⟩
theorem di_5 : DefIs StL (Str.ofString "is_number") (Str.ofString "is_number") d_5 (top 2) := ⟨fun _ _ _ _ _ _ us hl => match us, hl with | [_, _, _], _ => rfl, ⟨rfl, rfl, rfl, by decide +kernel, rfl, by decide +kernel, by decide +kernel⟩, by decide, .inl ⟨rfl, by decide +kernel⟩⟩
theorem di_6 : DefIs StL (Str.ofString "is_tuple") (Str.ofString "is_tuple") d_6 (top 3) := ⟨fun _ _ _ _ _ _ us hl => match us, hl with | [_, _], _ => rfl, ⟨rfl, rfl, rfl, by decide +kernel, rfl, by decide +kernel, by decide +kernel⟩, by decide, .inl ⟨rfl, by decide +kernel⟩⟩
theorem di_7 : DefIs StL (Str.ofString "is_between") (Str.ofString "is_between") d_7 (top 4) := ⟨fun _ _ _ _ _ _ us hl => match us, hl with | [_, _, _], _ => rfl, ⟨rfl, rfl, rfl, by decide +kernel, rfl, by decide +kernel, by decide +kernel⟩, by decide, .inl ⟨rfl, by decide +kernel⟩⟩
theorem di_57 : DefIs StL (Str.ofString "is_tagged") (Str.ofString "is_tagged") d_57 (top 5) := ⟨fun _ _ _ _ _ _ us hl => match us, hl with | [_, _, _], _ => rfl, ⟨rfl, rfl, rfl, by decide +kernel, rfl, by decide +kernel, by decide +kernel⟩, by decide, .inl ⟨rfl, by decide +kernel⟩⟩
theorem di_8 : DefIs StL (Str.ofString "is_ascending") (Str.ofString "is_ascending") d_8 (top 6) := ⟨fun _ _ _ _ _ _ us hl => match us, hl with | [_], _ => rfl, ⟨rfl, rfl, rfl, by decide +kernel, rfl, by decide +kernel, by decide +kernel⟩, by decide, .inl ⟨rfl, by decide +kernel⟩⟩
theorem di_9 : DefIs StL (Str.ofString "are_integers") (Str.ofString "are_integers") d_9 (top 7) := ⟨fun _ _ _ _ _ _ us hl => match us, hl with | [_, _, _], _ => rfl, ⟨rfl, rfl, rfl, by decide +kernel, rfl, by decide +kernel, by decide +kernel⟩, by decide, .inl ⟨rfl, by decide +kernel⟩⟩
theorem di_83 : DefIs StL (Str.ofString "are_rows") (Str.ofString "are_rows") d_83 (top 8) := ⟨fun _ _ _ _ _ _ us hl => match us, hl with | [_, _, _, _], _ => rfl, ⟨rfl, rfl, rfl, by decide +kernel, rfl, by decide +kernel, by decide +kernel⟩, by decide, .inl ⟨rfl, by decide +kernel⟩⟩
theorem di_26 : DefIs StL (Str.ofString "deeds_of") (Str.ofString "deeds_of") d_26 (top 12) := ⟨fun _ _ _ _ _ _ us hl => match us, hl with | [_], _ => rfl, ⟨rfl, rfl, rfl, by decide +kernel, rfl, by decide +kernel, by decide +kernel⟩, by decide, .inl ⟨rfl, by decide +kernel⟩⟩
theorem di_27 : DefIs StL (Str.ofString "doable") (Str.ofString "doable") d_27 (top 13) := ⟨fun _ _ _ _ _ _ us hl => match us, hl with | [_, _], _ => rfl, ⟨rfl, rfl, rfl, by decide +kernel, rfl, by decide +kernel, by decide +kernel⟩, by decide, .inl ⟨rfl, by decide +kernel⟩⟩
theorem di_28 : DefIs StL (Str.ofString "after") (Str.ofString "after") d_28 (top 14) := ⟨fun _ _ _ _ _ _ us hl => match us, hl with | [_, _], _ => rfl, ⟨rfl, rfl, rfl, by decide +kernel, rfl, by decide +kernel, by decide +kernel⟩, by decide, .inl ⟨rfl, by decide +kernel⟩⟩
theorem di_702 : DefIs StL (Str.ofString "ascending") (Str.ofString "Roads.ascending") d_702 (clsStmt (top 16) 3) := ⟨fun _ _ _ _ _ _ us hl => match us, hl with | [_], _ => rfl, ⟨rfl, rfl, rfl, by decide +kernel, rfl, by decide +kernel, by decide +kernel⟩, by decide, .inl ⟨rfl, by decide +kernel⟩⟩
theorem di_711 : DefIs StL (Str.ofString "way_to") (Str.ofString "Roads.way_to") d_711 (clsStmt (top 16) 2) := ⟨fun _ _ _ _ _ _ us hl => match us, hl with | [_, _], _ => rfl, ⟨rfl, rfl, rfl, by decide +kernel, rfl, by decide +kernel, by decide +kernel⟩, by decide, .inl ⟨rfl, by decide +kernel⟩⟩
theorem di_68 : DefIs StL (Str.ofString "step_both") (Str.ofString "step_both") d_68 (top 18) := ⟨fun _ _ _ _ _ _ us hl => match us, hl with | [_, _, _, _], _ => rfl, ⟨rfl, rfl, rfl, by decide +kernel, rfl, by decide +kernel, by decide +kernel⟩, by decide, .inl ⟨rfl, by decide +kernel⟩⟩
theorem di_84 : DefIs StL (Str.ofString "both_steps") (Str.ofString "both_steps") d_84 (top 22) := ⟨fun _ _ _ _ _ _ us hl => match us, hl with | [_, _], _ => rfl, ⟨rfl, rfl, rfl, by decide +kernel, rfl, by decide +kernel, by decide +kernel⟩, by decide, .inr (.inr ⟨rfl, by decide +kernel⟩)⟩
theorem di_85 : DefIs StL (Str.ofString "further_deeds") (Str.ofString "further_deeds") d_85 (top 23) := ⟨fun _ _ _ _ _ _ us hl => match us, hl with | [_, _, _], _ => rfl, ⟨rfl, rfl, rfl, by decide +kernel, rfl, by decide +kernel, by decide +kernel⟩, by decide, .inl ⟨rfl, by decide +kernel⟩⟩
theorem di_724 : DefIs StL (Str.ofString "within_paper") (Str.ofString "within_paper") d_724 (top 24) := ⟨fun _ _ _ _ _ _ us hl => match us, hl with | [_, _], _ => rfl, ⟨rfl, rfl, rfl, by decide +kernel, rfl, by decide +kernel, by decide +kernel⟩, by decide, .inl ⟨rfl, by decide +kernel⟩⟩
theorem di_87 : DefIs StL (Str.ofString "are_pairs") (Str.ofString "are_pairs") d_87 (top 25) := ⟨fun _ _ _ _ _ _ us hl => match us, hl with | [_, _, _], _ => rfl, ⟨rfl, rfl, rfl, by decide +kernel, rfl, by decide +kernel, by decide +kernel⟩, by decide, .inl ⟨rfl, by decide +kernel⟩⟩
theorem di_88 : DefIs StL (Str.ofString "is_row_of_deeds") (Str.ofString "is_row_of_deeds") d_88 (top 26) := ⟨fun _ _ _ _ _ _ us hl => match us, hl with | [_, _], _ => rfl, ⟨rfl, rfl, rfl, by decide +kernel, rfl, by decide +kernel, by decide +kernel⟩, by decide, .inl ⟨rfl, by decide +kernel⟩⟩
theorem di_89 : DefIs StL (Str.ofString "check_within") (Str.ofString "check_within") d_89 (top 27) := ⟨fun _ _ _ _ _ _ us hl => match us, hl with | [_, _, _], _ => rfl, ⟨rfl, rfl, rfl, by decide +kernel, rfl, by decide +kernel, by decide +kernel⟩, by decide, .inl ⟨rfl, by decide +kernel⟩⟩
theorem di_725 : DefIs StL (Str.ofString "is_within") (Str.ofString "is_within") d_725 (top 28) := ⟨fun _ _ _ _ _ _ us hl => match us, hl with | [_, _], _ => rfl, ⟨rfl, rfl, rfl, by decide +kernel, rfl, by decide +kernel, by decide +kernel⟩, by decide, .inl ⟨rfl, by decide +kernel⟩⟩
theorem di_32 : DefIs StL (Str.ofString "_law_deeds") (Str.ofString "_law_deeds") d_32 (top 34) := ⟨fun _ _ _ _ _ _ us hl => match us, hl with | [_], _ => rfl, ⟨rfl, rfl, rfl, by decide +kernel, rfl, by decide +kernel, by decide +kernel⟩, by decide, .inl ⟨rfl, by decide +kernel⟩⟩
theorem di_15 : DefIs StL (Str.ofString "_law_plant") (Str.ofString "_law_plant") d_15 (top 35) := ⟨fun _ _ _ _ _ _ us hl => match us, hl with | [_, _, _], _ => rfl, ⟨rfl, rfl, rfl, by decide +kernel, rfl, by decide +kernel, by decide +kernel⟩, by decide, .inl ⟨rfl, by decide +kernel⟩⟩
theorem di_91 : DefIs StL (Str.ofString "_law_wish") (Str.ofString "_law_wish") d_91 (top 36) := ⟨fun _ _ _ _ _ _ us hl => match us, hl with | [_, _], _ => rfl, ⟨rfl, rfl, rfl, by decide +kernel, rfl, by decide +kernel, by decide +kernel⟩, by decide, .inl ⟨rfl, by decide +kernel⟩⟩
theorem di_33 : DefIs StL (Str.ofString "_law_course") (Str.ofString "_law_course") d_33 (top 37) := ⟨fun _ _ _ _ _ _ us hl => match us, hl with | [_, _, _], _ => rfl, ⟨rfl, rfl, rfl, by decide +kernel, rfl, by decide +kernel, by decide +kernel⟩, by decide, .inl ⟨rfl, by decide +kernel⟩⟩
theorem di_34 : DefIs StL (Str.ofString "_law_row") (Str.ofString "_law_row") d_34 (top 38) := ⟨fun _ _ _ _ _ _ us hl => match us, hl with | [_, _, _], _ => rfl, ⟨rfl, rfl, rfl, by decide +kernel, rfl, by decide +kernel, by decide +kernel⟩, by decide, .inl ⟨rfl, by decide +kernel⟩⟩
theorem di_16 : DefIs StL (Str.ofString "_law_kind") (Str.ofString "_law_kind") d_16 (top 39) := ⟨fun _ _ _ _ _ _ us hl => match us, hl with | [_], _ => rfl, ⟨rfl, rfl, rfl, by decide +kernel, rfl, by decide +kernel, by decide +kernel⟩, by decide, .inl ⟨rfl, by decide +kernel⟩⟩
theorem di_17 : DefIs StL (Str.ofString "_law_is") (Str.ofString "_law_is") d_17 (top 40) := ⟨fun _ _ _ _ _ _ us hl => match us, hl with | [_, _], _ => rfl, ⟨rfl, rfl, rfl, by decide +kernel, rfl, by decide +kernel, by decide +kernel⟩, by decide, .inl ⟨rfl, by decide +kernel⟩⟩
theorem di_18 : DefIs StL (Str.ofString "_law_int") (Str.ofString "_law_int") d_18 (top 41) := ⟨fun _ _ _ _ _ _ us hl => match us, hl with | [_, _, _], _ => rfl, ⟨rfl, rfl, rfl, by decide +kernel, rfl, by decide +kernel, by decide +kernel⟩, by decide, .inl ⟨rfl, by decide +kernel⟩⟩
theorem di_19 : DefIs StL (Str.ofString "_law_ints") (Str.ofString "_law_ints") d_19 (top 42) := ⟨fun _ _ _ _ _ _ us hl => match us, hl with | [_, _, _], _ => rfl, ⟨rfl, rfl, rfl, by decide +kernel, rfl, by decide +kernel, by decide +kernel⟩, by decide, .inl ⟨rfl, by decide +kernel⟩⟩
theorem di_20 : DefIs StL (Str.ofString "_law_up") (Str.ofString "_law_up") d_20 (top 43) := ⟨fun _ _ _ _ _ _ us hl => match us, hl with | [_], _ => rfl, ⟨rfl, rfl, rfl, by decide +kernel, rfl, by decide +kernel, by decide +kernel⟩, by decide, .inl ⟨rfl, by decide +kernel⟩⟩
theorem di_92 : DefIs StL (Str.ofString "_law_tuples") (Str.ofString "_law_tuples") d_92 (top 44) := ⟨fun _ _ _ _ _ _ us hl => match us, hl with | [_, _, _, _], _ => rfl, ⟨rfl, rfl, rfl, by decide +kernel, rfl, by decide +kernel, by decide +kernel⟩, by decide, .inl ⟨rfl, by decide +kernel⟩⟩
theorem di_65 : DefIs StL (Str.ofString "_law_tag") (Str.ofString "_law_tag") d_65 (top 45) := ⟨fun _ _ _ _ _ _ us hl => match us, hl with | [_, _, _], _ => rfl, ⟨rfl, rfl, rfl, by decide +kernel, rfl, by decide +kernel, by decide +kernel⟩, by decide, .inl ⟨rfl, by decide +kernel⟩⟩
theorem di_36 : DefIs StL (Str.ofString "_law_after") (Str.ofString "_law_after") d_36 (top 46) := ⟨fun _ _ _ _ _ _ us hl => match us, hl with | [_, _], _ => rfl, ⟨rfl, rfl, rfl, by decide +kernel, rfl, by decide +kernel, by decide +kernel⟩, by decide, .inl ⟨rfl, by decide +kernel⟩⟩
theorem di_23 : DefIs StL (Str.ofString "_law_bent") (Str.ofString "_law_bent") d_23 (top 47) := ⟨fun _ _ _ _ _ _ us hl => match us, hl with | [_, _], _ => rfl, ⟨rfl, rfl, rfl, by decide +kernel, rfl, by decide +kernel, by decide +kernel⟩, by decide, .inl ⟨rfl, by decide +kernel⟩⟩
theorem di_24 : DefIs StL (Str.ofString "_law_bends") (Str.ofString "_law_bends") d_24 (top 48) := ⟨fun _ _ _ _ _ _ us hl => match us, hl with | [_, _, _], _ => rfl, ⟨rfl, rfl, rfl, by decide +kernel, rfl, by decide +kernel, by decide +kernel⟩, by decide, .inl ⟨rfl, by decide +kernel⟩⟩
theorem di_42 : DefIs StL (Str.ofString "_law_all_rows") (Str.ofString "_law_all_rows") d_42 (top 49) := ⟨fun _ _ _ _ _ _ us hl => match us, hl with | [_, _], _ => rfl, ⟨rfl, rfl, rfl, by decide +kernel, rfl, by decide +kernel, by decide +kernel⟩, by decide, .inl ⟨rfl, by decide +kernel⟩⟩
theorem di_93 : DefIs StL (Str.ofString "_law_both_goal") (Str.ofString "_law_both_goal") d_93 (top 50) := ⟨fun _ _ _ _ _ _ us hl => match us, hl with | [_, _, _, _], _ => rfl, ⟨rfl, rfl, rfl, by decide +kernel, rfl, by decide +kernel, by decide +kernel⟩, by decide, .inl ⟨rfl, by decide +kernel⟩⟩
theorem di_94 : DefIs StL (Str.ofString "_law_out") (Str.ofString "_law_out") d_94 (top 51) := ⟨fun _ _ _ _ _ _ us hl => match us, hl with | [_, _, _, _], _ => rfl, ⟨rfl, rfl, rfl, by decide +kernel, rfl, by decide +kernel, by decide +kernel⟩, by decide, .inl ⟨rfl, by decide +kernel⟩⟩
theorem di_95 : DefIs StL (Str.ofString "_law_pairs_closed") (Str.ofString "_law_pairs_closed") d_95 (top 52) := ⟨fun _ _ _ _ _ _ us hl => match us, hl with | [_, _, _], _ => rfl, ⟨rfl, rfl, rfl, by decide +kernel, rfl, by decide +kernel, by decide +kernel⟩, by decide, .inl ⟨rfl, by decide +kernel⟩⟩
theorem di_96 : DefIs StL (Str.ofString "_law_pair_rows") (Str.ofString "_law_pair_rows") d_96 (top 53) := ⟨fun _ _ _ _ _ _ us hl => match us, hl with | [_, _, _], _ => rfl, ⟨rfl, rfl, rfl, by decide +kernel, rfl, by decide +kernel, by decide +kernel⟩, by decide, .inl ⟨rfl, by decide +kernel⟩⟩
theorem di_97 : DefIs StL (Str.ofString "_law_within_right") (Str.ofString "_law_within_right") d_97 (top 54) := ⟨fun _ _ _ _ _ _ us hl => match us, hl with | [_, _, _], _ => rfl, ⟨rfl, rfl, rfl, by decide +kernel, rfl, by decide +kernel, by decide +kernel⟩, by decide, .inl ⟨rfl, by decide +kernel⟩⟩
theorem di_p0 : DefIs St0 (Str.ofString "_law_cell") (Str.ofString "_law_cell") cellD (top 30) := ⟨fun _ _ _ _ _ _ us hl => match us, hl with | [_, _], _ => rfl, ⟨rfl, rfl, rfl, by decide +kernel, rfl, by decide +kernel, by decide +kernel⟩, by decide, .inl ⟨rfl, by decide +kernel⟩⟩
theorem di_p1 : DefIs St0 (Str.ofString "_law_numbers") (Str.ofString "_law_numbers") numD (top 31) := ⟨fun _ _ _ _ _ _ us hl => match us, hl with | [_, _], _ => rfl, ⟨rfl, rfl, rfl, by decide +kernel, rfl, by decide +kernel, by decide +kernel⟩, by decide, .inl ⟨rfl, by decide +kernel⟩⟩
theorem di_p2 : DefIs St0 (Str.ofString "_law_pool") (Str.ofString "_law_pool") poolD (top 32) := ⟨fun _ _ _ _ _ _ us hl => match us, hl with | [_], _ => rfl, ⟨rfl, rfl, rfl, by decide +kernel, rfl, by decide +kernel, by decide +kernel⟩, by decide, .inl ⟨rfl, by decide +kernel⟩⟩
theorem draw_b : DrawBody (defBody (top 33)) := .mk _ _ _ _ _ _ _ _ _ _ _ _ _ _ _ _ _ _ _ _ _ _ _ _ _ _ _ _ _ _ _ _ _ _ _ _ _ _ _ _ _ _ _ _ _ _ _ _ _ _ _
theorem draw_d : BindQ "_law_draw" "_law_draw" (top 33) ["pool", "many"] := fun _ _ _ _ _ _ us hl => match us, hl with | [_, _], _ => rfl
theorem roads_b : RoadsBody (defBody (clsStmt (top 16) 0)) := .mk _ _ _ _ _ _ _ _ _ _ _ _ _ _ _ _ _ _ _ _ _ _ _ _ _ _ _ _ _ _ _ _ _ _ _ _ _ _ _ _ _ _ _ _ _ _ _ _ _ _ _ _ _ _ _ _ rfl
theorem roads_d : BindQ "__init__" "Roads.__init__" (clsStmt (top 16) 0) ["self", "start", "steps"] := fun _ _ _ _ _ _ us hl => match us, hl with | [_, _, _], _ => rfl
set_option maxHeartbeats 0 in
theorem all_mk {w : World} {K : PySem.W.Frag} {h : Heap} {mg : Str → Option Value} {fa : Addr} {ts : List Addr} {a2 a5 a8 a11 a14 a17 a20 a23 a26 a29 a32 a35 a38 a41 a44 a47 c48 T49 a51 a54 a57 a60 a63 a66 a69 a72 a75 a78 a81 a84 a87 a90 a93 a96 a99 a102 a105 a108 a111 a114 a117 a120 a123 a126 a129 a132 a135 A138 a139 a143 a146 : Addr} {d3 d6 d9 d12 d15 d18 d21 d24 d27 d30 d33 d36 d39 d42 d45 d52 d55 d58 d61 d64 d67 d70 d73 d76 d79 d82 d85 d88 d91 d94 d97 d100 d103 d106 d109 d112 d115 d118 d121 d124 d127 d130 d133 d136 d141 d144 d147 : Value} (X : K.In h) (G : h.Ns mainGlobals mg) (hfa : mg "law" = some (.ref fa))
    (e_f1 : PySem.W.nsIn K mainGlobals (Str.ofString "_law_cell") = some (some (.ref a2)))
    (q_f1 : FactQ K (Str.ofString "_law_cell") (Str.ofString "_law_cell") (top 30) a2 d3)
    (e_f4 : PySem.W.nsIn K mainGlobals (Str.ofString "_law_numbers") = some (some (.ref a5)))
    (q_f4 : FactQ K (Str.ofString "_law_numbers") (Str.ofString "_law_numbers") (top 31) a5 d6)
    (e_f7 : PySem.W.nsIn K mainGlobals (Str.ofString "_law_pool") = some (some (.ref a8)))
    (q_f7 : FactQ K (Str.ofString "_law_pool") (Str.ofString "_law_pool") (top 32) a8 d9)
    (e_f10 : PySem.W.nsIn K mainGlobals (Str.ofString "is_integer") = some (some (.ref a11)))
    (q_f10 : FactQ K (Str.ofString "is_integer") (Str.ofString "is_integer") (top 1) a11 d12)
    (e_f13 : PySem.W.nsIn K mainGlobals (Str.ofString "is_number") = some (some (.ref a14)))
    (q_f13 : FactQ K (Str.ofString "is_number") (Str.ofString "is_number") (top 2) a14 d15)
    (e_f16 : PySem.W.nsIn K mainGlobals (Str.ofString "is_tuple") = some (some (.ref a17)))
    (q_f16 : FactQ K (Str.ofString "is_tuple") (Str.ofString "is_tuple") (top 3) a17 d18)
    (e_f19 : PySem.W.nsIn K mainGlobals (Str.ofString "is_between") = some (some (.ref a20)))
    (q_f19 : FactQ K (Str.ofString "is_between") (Str.ofString "is_between") (top 4) a20 d21)
    (e_f22 : PySem.W.nsIn K mainGlobals (Str.ofString "is_tagged") = some (some (.ref a23)))
    (q_f22 : FactQ K (Str.ofString "is_tagged") (Str.ofString "is_tagged") (top 5) a23 d24)
    (e_f25 : PySem.W.nsIn K mainGlobals (Str.ofString "is_ascending") = some (some (.ref a26)))
    (q_f25 : FactQ K (Str.ofString "is_ascending") (Str.ofString "is_ascending") (top 6) a26 d27)
    (e_f28 : PySem.W.nsIn K mainGlobals (Str.ofString "are_integers") = some (some (.ref a29)))
    (q_f28 : FactQ K (Str.ofString "are_integers") (Str.ofString "are_integers") (top 7) a29 d30)
    (e_f31 : PySem.W.nsIn K mainGlobals (Str.ofString "are_rows") = some (some (.ref a32)))
    (q_f31 : FactQ K (Str.ofString "are_rows") (Str.ofString "are_rows") (top 8) a32 d33)
    (e_f34 : PySem.W.nsIn K mainGlobals (Str.ofString "deeds_of") = some (some (.ref a35)))
    (q_f34 : FactQ K (Str.ofString "deeds_of") (Str.ofString "deeds_of") (top 12) a35 d36)
    (e_f37 : PySem.W.nsIn K mainGlobals (Str.ofString "doable") = some (some (.ref a38)))
    (q_f37 : FactQ K (Str.ofString "doable") (Str.ofString "doable") (top 13) a38 d39)
    (e_f40 : PySem.W.nsIn K mainGlobals (Str.ofString "after") = some (some (.ref a41)))
    (q_f40 : FactQ K (Str.ofString "after") (Str.ofString "after") (top 14) a41 d42)
    (e_f43 : PySem.W.nsIn K mainGlobals (Str.ofString "step_both") = some (some (.ref a44)))
    (q_f43 : FactQ K (Str.ofString "step_both") (Str.ofString "step_both") (top 18) a44 d45)
    (e_f46 : PySem.W.nsIn K mainGlobals (Str.ofString "both_steps") = some (some (.ref a47)))
    (q_f46 : FactQ K (Str.ofString "both_steps") (Str.ofString "both_steps") (top 22) a47 (.ref c48))
    (h_f46 : PySem.W.codeHdIn K c48 T49 = true)
    (n_f46 : K.lookup T49 = none)
    (t_f46 : T49 ∈ ts)
    (e_f50 : PySem.W.nsIn K mainGlobals (Str.ofString "further_deeds") = some (some (.ref a51)))
    (q_f50 : FactQ K (Str.ofString "further_deeds") (Str.ofString "further_deeds") (top 23) a51 d52)
    (e_f53 : PySem.W.nsIn K mainGlobals (Str.ofString "within_paper") = some (some (.ref a54)))
    (q_f53 : FactQ K (Str.ofString "within_paper") (Str.ofString "within_paper") (top 24) a54 d55)
    (e_f56 : PySem.W.nsIn K mainGlobals (Str.ofString "are_pairs") = some (some (.ref a57)))
    (q_f56 : FactQ K (Str.ofString "are_pairs") (Str.ofString "are_pairs") (top 25) a57 d58)
    (e_f59 : PySem.W.nsIn K mainGlobals (Str.ofString "is_row_of_deeds") = some (some (.ref a60)))
    (q_f59 : FactQ K (Str.ofString "is_row_of_deeds") (Str.ofString "is_row_of_deeds") (top 26) a60 d61)
    (e_f62 : PySem.W.nsIn K mainGlobals (Str.ofString "check_within") = some (some (.ref a63)))
    (q_f62 : FactQ K (Str.ofString "check_within") (Str.ofString "check_within") (top 27) a63 d64)
    (e_f65 : PySem.W.nsIn K mainGlobals (Str.ofString "is_within") = some (some (.ref a66)))
    (q_f65 : FactQ K (Str.ofString "is_within") (Str.ofString "is_within") (top 28) a66 d67)
    (e_f68 : PySem.W.nsIn K mainGlobals (Str.ofString "_law_draw") = some (some (.ref a69)))
    (q_f68 : FactQ K (Str.ofString "_law_draw") (Str.ofString "_law_draw") (top 33) a69 d70)
    (e_f71 : PySem.W.nsIn K mainGlobals (Str.ofString "_law_deeds") = some (some (.ref a72)))
    (q_f71 : FactQ K (Str.ofString "_law_deeds") (Str.ofString "_law_deeds") (top 34) a72 d73)
    (e_f74 : PySem.W.nsIn K mainGlobals (Str.ofString "_law_plant") = some (some (.ref a75)))
    (q_f74 : FactQ K (Str.ofString "_law_plant") (Str.ofString "_law_plant") (top 35) a75 d76)
    (e_f77 : PySem.W.nsIn K mainGlobals (Str.ofString "_law_wish") = some (some (.ref a78)))
    (q_f77 : FactQ K (Str.ofString "_law_wish") (Str.ofString "_law_wish") (top 36) a78 d79)
    (e_f80 : PySem.W.nsIn K mainGlobals (Str.ofString "_law_course") = some (some (.ref a81)))
    (q_f80 : FactQ K (Str.ofString "_law_course") (Str.ofString "_law_course") (top 37) a81 d82)
    (e_f83 : PySem.W.nsIn K mainGlobals (Str.ofString "_law_row") = some (some (.ref a84)))
    (q_f83 : FactQ K (Str.ofString "_law_row") (Str.ofString "_law_row") (top 38) a84 d85)
    (e_f86 : PySem.W.nsIn K mainGlobals (Str.ofString "_law_kind") = some (some (.ref a87)))
    (q_f86 : FactQ K (Str.ofString "_law_kind") (Str.ofString "_law_kind") (top 39) a87 d88)
    (e_f89 : PySem.W.nsIn K mainGlobals (Str.ofString "_law_is") = some (some (.ref a90)))
    (q_f89 : FactQ K (Str.ofString "_law_is") (Str.ofString "_law_is") (top 40) a90 d91)
    (e_f92 : PySem.W.nsIn K mainGlobals (Str.ofString "_law_int") = some (some (.ref a93)))
    (q_f92 : FactQ K (Str.ofString "_law_int") (Str.ofString "_law_int") (top 41) a93 d94)
    (e_f95 : PySem.W.nsIn K mainGlobals (Str.ofString "_law_ints") = some (some (.ref a96)))
    (q_f95 : FactQ K (Str.ofString "_law_ints") (Str.ofString "_law_ints") (top 42) a96 d97)
    (e_f98 : PySem.W.nsIn K mainGlobals (Str.ofString "_law_up") = some (some (.ref a99)))
    (q_f98 : FactQ K (Str.ofString "_law_up") (Str.ofString "_law_up") (top 43) a99 d100)
    (e_f101 : PySem.W.nsIn K mainGlobals (Str.ofString "_law_tuples") = some (some (.ref a102)))
    (q_f101 : FactQ K (Str.ofString "_law_tuples") (Str.ofString "_law_tuples") (top 44) a102 d103)
    (e_f104 : PySem.W.nsIn K mainGlobals (Str.ofString "_law_tag") = some (some (.ref a105)))
    (q_f104 : FactQ K (Str.ofString "_law_tag") (Str.ofString "_law_tag") (top 45) a105 d106)
    (e_f107 : PySem.W.nsIn K mainGlobals (Str.ofString "_law_after") = some (some (.ref a108)))
    (q_f107 : FactQ K (Str.ofString "_law_after") (Str.ofString "_law_after") (top 46) a108 d109)
    (e_f110 : PySem.W.nsIn K mainGlobals (Str.ofString "_law_bent") = some (some (.ref a111)))
    (q_f110 : FactQ K (Str.ofString "_law_bent") (Str.ofString "_law_bent") (top 47) a111 d112)
    (e_f113 : PySem.W.nsIn K mainGlobals (Str.ofString "_law_bends") = some (some (.ref a114)))
    (q_f113 : FactQ K (Str.ofString "_law_bends") (Str.ofString "_law_bends") (top 48) a114 d115)
    (e_f116 : PySem.W.nsIn K mainGlobals (Str.ofString "_law_all_rows") = some (some (.ref a117)))
    (q_f116 : FactQ K (Str.ofString "_law_all_rows") (Str.ofString "_law_all_rows") (top 49) a117 d118)
    (e_f119 : PySem.W.nsIn K mainGlobals (Str.ofString "_law_both_goal") = some (some (.ref a120)))
    (q_f119 : FactQ K (Str.ofString "_law_both_goal") (Str.ofString "_law_both_goal") (top 50) a120 d121)
    (e_f122 : PySem.W.nsIn K mainGlobals (Str.ofString "_law_out") = some (some (.ref a123)))
    (q_f122 : FactQ K (Str.ofString "_law_out") (Str.ofString "_law_out") (top 51) a123 d124)
    (e_f125 : PySem.W.nsIn K mainGlobals (Str.ofString "_law_pairs_closed") = some (some (.ref a126)))
    (q_f125 : FactQ K (Str.ofString "_law_pairs_closed") (Str.ofString "_law_pairs_closed") (top 52) a126 d127)
    (e_f128 : PySem.W.nsIn K mainGlobals (Str.ofString "_law_pair_rows") = some (some (.ref a129)))
    (q_f128 : FactQ K (Str.ofString "_law_pair_rows") (Str.ofString "_law_pair_rows") (top 53) a129 d130)
    (e_f131 : PySem.W.nsIn K mainGlobals (Str.ofString "_law_within_right") = some (some (.ref a132)))
    (q_f131 : FactQ K (Str.ofString "_law_within_right") (Str.ofString "_law_within_right") (top 54) a132 d133)
    (e_f134 : PySem.W.nsIn K mainGlobals (Str.ofString "law") = some (some (.ref a135)))
    (q_f134 : FactQ K (Str.ofString "law") (Str.ofString "law") (top 55) a135 d136)
    (e_C137 : PySem.W.nsIn K mainGlobals (Str.ofString "Roads") = some (some (.ref A138)))
    (pg_C137 : PySem.W.plainGet K A138 Str.empty = true)
    (hd_C137 : PySem.W.hasDictIn K A138 = true)
    (po_C137 : PySem.W.plainOver K A138 = true)
    (sa_C137 : PySem.W.findIn K (.ref A138) "__setattr__" = some (some (.builtin "object.__setattr__")))
    (na_C137__before : PySem.W.findIn K (.ref A138) (Str.ofString "_before") = some none)
    (na_C137_nodes : PySem.W.findIn K (.ref A138) (Str.ofString "nodes") = some none)
    (mk_C137 : PySem.W.makesIn K A138 = true)
    (in_C137 : PySem.W.findIn K (.ref A138) "__init__" = some (some (.ref a139)))
    (if_C137 : PySem.W.isFn K (.ref a139) = true)
    (kp_C137 : PySem.W.keepIn K (.ref A138) = true)
    (q_f140 : FactQ K (Str.ofString "__init__") (Str.ofString "Roads.__init__") (clsStmt (top 16) 0) a139 d141)
    (at_f142 : PySem.W.findIn K (.ref A138) (Str.ofString "way_to") = some (some (.ref a143)))
    (fn_f142 : PySem.W.isFn K (.ref a143) = true)
    (kp_f142 : PySem.W.keepIn K (.ref a143) = true)
    (q_f142 : FactQ K (Str.ofString "way_to") (Str.ofString "Roads.way_to") (clsStmt (top 16) 2) a143 d144)
    (at_f145 : PySem.W.findIn K (.ref A138) (Str.ofString "ascending") = some (some (.ref a146)))
    (fn_f145 : PySem.W.isFn K (.ref a146) = true)
    (kp_f145 : PySem.W.keepIn K (.ref a146) = true)
    (q_f145 : FactQ K (Str.ofString "ascending") (Str.ofString "Roads.ascending") (clsStmt (top 16) 3) a146 d147)
    (co_0 : ConstIs K ((Str.ofString "NOWHERE"), (D.int (-1))))
    (co_1 : ConstIs K ((Str.ofString "COURSE"), (D.str (Str.ofString "course"))))
    (co_2 : ConstIs K ((Str.ofString "WITHIN"), (D.str (Str.ofString "within"))))
    (co_3 : ConstIs K ((Str.ofString "LONGEST"), (D.int 100000)))
    (z_0 : PySem.W.nsIn K mainGlobals (Str.ofString "len") = some none)
    (z_1 : PySem.W.nsIn K mainGlobals (Str.ofString "all") = some none)
    (z_2 : PySem.W.nsIn K mainGlobals (Str.ofString "any") = some none)
    (z_3 : PySem.W.nsIn K mainGlobals (Str.ofString "sum") = some none)
    (z_4 : PySem.W.nsIn K mainGlobals (Str.ofString "max") = some none)
    (z_5 : PySem.W.nsIn K mainGlobals (Str.ofString "min") = some none)
    (z_6 : PySem.W.nsIn K mainGlobals (Str.ofString "int") = some none)
    (z_7 : PySem.W.nsIn K mainGlobals (Str.ofString "str") = some none)
    (z_8 : PySem.W.nsIn K mainGlobals (Str.ofString "tuple") = some none)
    (z_9 : PySem.W.nsIn K mainGlobals (Str.ofString "list") = some none)
    (z_10 : PySem.W.nsIn K mainGlobals (Str.ofString "sorted") = some none)
    (z_11 : PySem.W.nsIn K mainGlobals (Str.ofString "bool") = some none)
    (z_12 : PySem.W.nsIn K mainGlobals (Str.ofString "isinstance") = some none)
    (z_13 : PySem.W.nsIn K mainGlobals (Str.ofString "range") = some none)
    (z_14 : PySem.W.nsIn K mainGlobals (Str.ofString "zip") = some none)
    (z_15 : PySem.W.nsIn K mainGlobals (Str.ofString "enumerate") = some none)
    (z_16 : PySem.W.nsIn K mainGlobals (Str.ofString "dict") = some none)
    (nd : [T49].Nodup)
    (lawP : ∀ rows : List Int, 24 ≤ rows.length → rows.length ≤ 144 → wp (xSs (callF (tab rows) (110 + 2)) lawB (lawR lawN)) 0 fun o _ => o = .rt (.bool true)) :
    ∃ (fd : FuncData) (ms : List Maker), (∀ m ∈ ms, m.2.1 ∈ ts) ∧ (∀ m ∈ ms, K.lookup m.2.1 = none) ∧ (∀ m ∈ ms, PySem.W.codeHdIn K m.1 m.2.1 = true) ∧ (∀ (s : Shared) (u : Value), BindsTo s fd ⟨[u], []⟩ [("script", u)]) ∧
      ∀ base : Heap, K.In base → base.Ns mainGlobals mg → (∀ m ∈ ms, LamX.TabB base mg m.1 m.2.1) → FnOk PySem.Challenge.pw_stewardsight_k07_within_papers_are_right w K mg base CX0 227 fa fd ["script"] (spLaw K (ms.map (·.2))) := by
  have bi : AllS (fun x => PySem.W.nsIn K mainGlobals x = some none) biNames := ⟨z_0, z_1, z_2, z_3, z_4, z_5, z_6, z_7, z_8, z_9, z_10, z_11, z_12, z_13, z_14, z_15, z_16, trivial⟩
  have bm : ∀ x ∈ biNames, mg x = none := fun x hx => PySem.W.mg_none_of X G (bi.get hx)
  have cn : AllC (ConstIs K) StL.cns := ⟨co_0, co_1, co_2, co_3, trivial⟩
  obtain ⟨kV, dc, pm, an, ct, F⟩ := q_f134
  have e := hfa.symm.trans (PySem.W.mg_of X G e_f134)
  cases e
  refine ⟨PySem.W.fnOf "law" "law" (defArgs (top 55)) (defBody (top 55)) (defScope (top 55)) .none kV dc pm an d136 ct, [(c48, T49, ((Str.ofString "both_steps" : Str) ++ ".<locals>.") ++ "<lambda>")], (List.forall_mem_cons.mpr ⟨t_f46, nofun⟩), (List.forall_mem_cons.mpr ⟨n_f46, nofun⟩), (List.forall_mem_cons.mpr ⟨h_f46, nofun⟩), fun s v => .of_eq rfl, fun base _ _ hT => ?_⟩
  refine law_ok (st := (top 55)) (T := tab) (N := lawN) (lawB := lawB) (St := StL) (k := 110) (lam := LamP StL.off) (lam0 := LamP St0.off) (cls := (fun n => ([(1, A138)] : List (Nat × Addr)).lookup n)) (cls0 := fun _ => none) (tabs := ([(c48, T49, ((Str.ofString "both_steps" : Str) ++ ".<locals>.") ++ "<lambda>")] : List Maker).map (·.2)) F ⟨rfl, rfl, rfl, by decide +kernel, rfl, by decide +kernel, by decide +kernel⟩ (by decide) rfl (by decide +kernel) (by decide +kernel) ?_ ?_ lawP
  · exact tab_mk X G rfl rfl bi trivial ⟨fi_mk X G e_f1 q_f1.kp (fv_def rfl di_p0 q_f1 (fun z => nomatch z)), fi_mk X G e_f4 q_f4.kp (fv_def rfl di_p1 q_f4 (fun z => nomatch z)), fi_mk X G e_f7 q_f7.kp (fv_def rfl di_p2 q_f7 (fun z => nomatch z)), trivial⟩ rfl trivial trivial trivial
  · intro g hl hg
    have ht : g.tabs = ([(c48, T49, ((Str.ofString "both_steps" : Str) ++ ".<locals>.") ++ "<lambda>")] : List Maker).map (·.2) := hg.tabs
    have hcl : ∀ n {A}, ([(1, A138)] : List (Nat × Addr)).lookup n = some A → g.cls n = some A := fun n A e => by rw [hg.cls]; exact e
    exact tab_mk X G hg.K hg.w bi cn ⟨fi_mk X G e_f10 q_f10.kp (fv_def tab_4 di_4 q_f10 (fun z => nomatch z)), fi_mk X G e_f13 q_f13.kp (fv_def tab_5 di_5 q_f13 (fun z => nomatch z)), fi_mk X G e_f16 q_f16.kp (fv_def tab_6 di_6 q_f16 (fun z => nomatch z)), fi_mk X G e_f19 q_f19.kp (fv_def tab_7 di_7 q_f19 (fun z => nomatch z)), fi_mk X G e_f22 q_f22.kp (fv_def tab_57 di_57 q_f22 (fun z => nomatch z)), fi_mk X G e_f25 q_f25.kp (fv_def tab_8 di_8 q_f25 (fun z => nomatch z)), fi_mk X G e_f28 q_f28.kp (fv_def tab_9 di_9 q_f28 (fun z => nomatch z)), fi_mk X G e_f31 q_f31.kp (fv_def tab_83 di_83 q_f31 (fun z => nomatch z)), fi_mk X G e_f34 q_f34.kp (fv_def tab_26 di_26 q_f34 (fun z => nomatch z)), fi_mk X G e_f37 q_f37.kp (fv_def tab_27 di_27 q_f37 (fun z => nomatch z)), fi_mk X G e_f40 q_f40.kp (fv_def tab_28 di_28 q_f40 (fun z => nomatch z)), fi_mk X G e_C137 kp_C137 (fv_roads tab_705 (hcl 1 rfl) ⟨mk_C137, in_C137, if_C137, kp_C137⟩ q_f140 rfl roads_b roads_d ⟨pg_C137, hd_C137, po_C137, sa_C137⟩ na_C137__before na_C137_nodes hg.K hg.w (bm "len" (by decide +kernel))), fi_mk X G e_f43 q_f43.kp (fv_def tab_68 di_68 q_f43 (fun z => nomatch z)), fi_mk X G e_f46 q_f46.kp (fv_def tab_84 di_84 q_f46 (fun _ => ⟨c48, T49, rfl, hT _ (List.mem_iff_getElem?.mpr ⟨0, rfl⟩), by rw [ht]; exact List.mem_iff_getElem?.mpr ⟨0, rfl⟩, by rw [ht]; exact tabs_one nd (List.mem_iff_getElem?.mpr ⟨0, rfl⟩)⟩)), fi_mk X G e_f50 q_f50.kp (fv_def tab_85 di_85 q_f50 (fun z => nomatch z)), fi_mk X G e_f53 q_f53.kp (fv_def tab_724 di_724 q_f53 (fun z => nomatch z)), fi_mk X G e_f56 q_f56.kp (fv_def tab_87 di_87 q_f56 (fun z => nomatch z)), fi_mk X G e_f59 q_f59.kp (fv_def tab_88 di_88 q_f59 (fun z => nomatch z)), fi_mk X G e_f62 q_f62.kp (fv_def tab_89 di_89 q_f62 (fun z => nomatch z)), fi_mk X G e_f65 q_f65.kp (fv_def tab_725 di_725 q_f65 (fun z => nomatch z)), fi_mk X G e_f68 q_f68.kp (fv_draw hl tab_3 rfl draw_b draw_d bm q_f68), fi_mk X G e_f71 q_f71.kp (fv_def tab_32 di_32 q_f71 (fun z => nomatch z)), fi_mk X G e_f74 q_f74.kp (fv_def tab_15 di_15 q_f74 (fun z => nomatch z)), fi_mk X G e_f77 q_f77.kp (fv_def tab_91 di_91 q_f77 (fun z => nomatch z)), fi_mk X G e_f80 q_f80.kp (fv_def tab_33 di_33 q_f80 (fun z => nomatch z)), fi_mk X G e_f83 q_f83.kp (fv_def tab_34 di_34 q_f83 (fun z => nomatch z)), fi_mk X G e_f86 q_f86.kp (fv_def tab_16 di_16 q_f86 (fun z => nomatch z)), fi_mk X G e_f89 q_f89.kp (fv_def tab_17 di_17 q_f89 (fun z => nomatch z)), fi_mk X G e_f92 q_f92.kp (fv_def tab_18 di_18 q_f92 (fun z => nomatch z)), fi_mk X G e_f95 q_f95.kp (fv_def tab_19 di_19 q_f95 (fun z => nomatch z)), fi_mk X G e_f98 q_f98.kp (fv_def tab_20 di_20 q_f98 (fun z => nomatch z)), fi_mk X G e_f101 q_f101.kp (fv_def tab_92 di_92 q_f101 (fun z => nomatch z)), fi_mk X G e_f104 q_f104.kp (fv_def tab_65 di_65 q_f104 (fun z => nomatch z)), fi_mk X G e_f107 q_f107.kp (fv_def tab_36 di_36 q_f107 (fun z => nomatch z)), fi_mk X G e_f110 q_f110.kp (fv_def tab_23 di_23 q_f110 (fun z => nomatch z)), fi_mk X G e_f113 q_f113.kp (fv_def tab_24 di_24 q_f113 (fun z => nomatch z)), fi_mk X G e_f116 q_f116.kp (fv_def tab_42 di_42 q_f116 (fun z => nomatch z)), fi_mk X G e_f119 q_f119.kp (fv_def tab_93 di_93 q_f119 (fun z => nomatch z)), fi_mk X G e_f122 q_f122.kp (fv_def tab_94 di_94 q_f122 (fun z => nomatch z)), fi_mk X G e_f125 q_f125.kp (fv_def tab_95 di_95 q_f125 (fun z => nomatch z)), fi_mk X G e_f128 q_f128.kp (fv_def tab_96 di_96 q_f128 (fun z => nomatch z)), fi_mk X G e_f131 q_f131.kp (fv_def tab_97 di_97 q_f131 (fun z => nomatch z)), trivial⟩ hg.lam ⟨⟨_, _, tab_726⟩, trivial⟩ ⟨(fld_cons (hcl 1 rfl) ⟨pg_C137, hd_C137, po_C137, sa_C137⟩ na_C137_nodes fld_nil), (fld_cons (hcl 1 rfl) ⟨pg_C137, hd_C137, po_C137, sa_C137⟩ na_C137__before fld_nil), trivial⟩ ⟨(tb_cons (mth_mk (hcl 1 rfl) ⟨pg_C137, hd_C137, po_C137, sa_C137⟩ ⟨at_f142, fn_f142, kp_f142⟩ (fv_def tab_711 di_711 q_f142 (fun z => nomatch z))) tb_nil), (tb_cons (mth_mk (hcl 1 rfl) ⟨pg_C137, hd_C137, po_C137, sa_C137⟩ ⟨at_f145, fn_f145, kp_f145⟩ (fv_def tab_702 di_702 q_f145 (fun z => nomatch z))) tb_nil), trivial⟩
end Ev
open PySem PySem.W PyProof.Rows
set_option maxRecDepth 100000 in
set_option maxHeartbeats 0 in
theorem PySem.Challenge.cw_stewardsight_k07_within_papers_are_right_holds : PySem.Challenge.rw_stewardsight_k07_within_papers_are_right.Holds := by
  w_on; o_law; k_head; (case hw => w_witness2)
  k_fill
  refine Ev.walk (l := PySem.Challenge.rw_stewardsight_k07_within_papers_are_right) (k := 227) (ts := _) rfl rfl Ev.room_227 (fun w h Y => ⟨PySem.W.km_in_of Y, PySem.W.km_tabs_of Y⟩) ?F
  case F =>
    intro w mg fa h KX G hmg
    refine' Ev.all_mk KX G hmg ?gq0 (Ev.factQ ?l1 ?c1 ?k1) ?gq2 (Ev.factQ ?l3 ?c3 ?k3) ?gq4 (Ev.factQ ?l5 ?c5 ?k5) ?gq6 (Ev.factQ ?l7 ?c7 ?k7) ?gq8 (Ev.factQ ?l9 ?c9 ?k9) ?gq10 (Ev.factQ ?l11 ?c11 ?k11) ?gq12 (Ev.factQ ?l13 ?c13 ?k13) ?gq14 (Ev.factQ ?l15 ?c15 ?k15) ?gq16 (Ev.factQ ?l17 ?c17 ?k17) ?gq18 (Ev.factQ ?l19 ?c19 ?k19) ?gq20 (Ev.factQ ?l21 ?c21 ?k21) ?gq22 (Ev.factQ ?l23 ?c23 ?k23) ?gq24 (Ev.factQ ?l25 ?c25 ?k25) ?gq26 (Ev.factQ ?l27 ?c27 ?k27) ?gq28 (Ev.factQ ?l29 ?c29 ?k29) ?gq30 (Ev.factQ ?l31 ?c31 ?k31) (Ev.maker_of ?l32 ?h32 ?e32) ?gq33 ?gq34 ?gq35 (Ev.factQ ?l36 ?c36 ?k36) ?gq37 (Ev.factQ ?l38 ?c38 ?k38) ?gq39 (Ev.factQ ?l40 ?c40 ?k40) ?gq41 (Ev.factQ ?l42 ?c42 ?k42) ?gq43 (Ev.factQ ?l44 ?c44 ?k44) ?gq45 (Ev.factQ ?l46 ?c46 ?k46) ?gq47 (Ev.factQ ?l48 ?c48 ?k48) ?gq49 (Ev.factQ ?l50 ?c50 ?k50) ?gq51 (Ev.factQ ?l52 ?c52 ?k52) ?gq53 (Ev.factQ ?l54 ?c54 ?k54) ?gq55 (Ev.factQ ?l56 ?c56 ?k56) ?gq57 (Ev.factQ ?l58 ?c58 ?k58) ?gq59 (Ev.factQ ?l60 ?c60 ?k60) ?gq61 (Ev.factQ ?l62 ?c62 ?k62) ?gq63 (Ev.factQ ?l64 ?c64 ?k64) ?gq65 (Ev.factQ ?l66 ?c66 ?k66) ?gq67 (Ev.factQ ?l68 ?c68 ?k68) ?gq69 (Ev.factQ ?l70 ?c70 ?k70) ?gq71 (Ev.factQ ?l72 ?c72 ?k72) ?gq73 (Ev.factQ ?l74 ?c74 ?k74) ?gq75 (Ev.factQ ?l76 ?c76 ?k76) ?gq77 (Ev.factQ ?l78 ?c78 ?k78) ?gq79 (Ev.factQ ?l80 ?c80 ?k80) ?gq81 (Ev.factQ ?l82 ?c82 ?k82) ?gq83 (Ev.factQ ?l84 ?c84 ?k84) ?gq85 (Ev.factQ ?l86 ?c86 ?k86) ?gq87 (Ev.factQ ?l88 ?c88 ?k88) ?gq89 (Ev.factQ ?l90 ?c90 ?k90) ?gq91 (Ev.factQ ?l92 ?c92 ?k92) ?gq93 ?gq94 ?gq95 ?gq96 ?gq97 ?gq98 ?gq99 ?gq100 ?gq101 ?gq102 ?gq103 (Ev.factQ ?l104 ?c104 ?k104) ?gq105 ?gq106 ?gq107 (Ev.factQ ?l108 ?c108 ?k108) ?gq109 ?gq110 ?gq111 (Ev.factQ ?l112 ?c112 ?k112) (Ev.const_int ?v113) (Ev.const_str ?v114) (Ev.const_str ?v115) (Ev.const_int ?v116) ?gq117 ?gq118 ?gq119 ?gq120 ?gq121 ?gq122 ?gq123 ?gq124 ?gq125 ?gq126 ?gq127 ?gq128 ?gq129 ?gq130 ?gq131 ?gq132 ?gq133 ?gq134 Ev.law_proof
    (case gq0 => k_is)
    (case l1 => k_is); (case c1 => k_is); (case k1 => k_is)
    (case gq2 => k_is)
    (case l3 => k_is); (case c3 => k_is); (case k3 => k_is)
    (case gq4 => k_is)
    (case l5 => k_is); (case c5 => k_is); (case k5 => k_is)
    (case gq6 => k_is)
    (case l7 => k_is); (case c7 => k_is); (case k7 => k_is)
    (case gq8 => k_is)
    (case l9 => k_is); (case c9 => k_is); (case k9 => k_is)
    (case gq10 => k_is)
    (case l11 => k_is); (case c11 => k_is); (case k11 => k_is)
    (case gq12 => k_is)
    (case l13 => k_is); (case c13 => k_is); (case k13 => k_is)
    (case gq14 => k_is)
    (case l15 => k_is); (case c15 => k_is); (case k15 => k_is)
    (case gq16 => k_is)
    (case l17 => k_is); (case c17 => k_is); (case k17 => k_is)
    (case gq18 => k_is)
    (case l19 => k_is); (case c19 => k_is); (case k19 => k_is)
    (case gq20 => k_is)
    (case l21 => k_is); (case c21 => k_is); (case k21 => k_is)
    (case gq22 => k_is)
    (case l23 => k_is); (case c23 => k_is); (case k23 => k_is)
    (case gq24 => k_is)
    (case l25 => k_is); (case c25 => k_is); (case k25 => k_is)
    (case gq26 => k_is)
    (case l27 => k_is); (case c27 => k_is); (case k27 => k_is)
    (case gq28 => k_is)
    (case l29 => k_is); (case c29 => k_is); (case k29 => k_is)
    (case gq30 => k_is)
    (case l31 => k_is); (case c31 => k_is); (case k31 => k_is)
    (case l32 => k_is); (case h32 => rfl); (case e32 => kernel_rfl)
    (case gq33 => kernel_rfl)
    (case gq34 => decide)
    (case gq35 => k_is)
    (case l36 => k_is); (case c36 => k_is); (case k36 => k_is)
    (case gq37 => k_is)
    (case l38 => k_is); (case c38 => k_is); (case k38 => k_is)
    (case gq39 => k_is)
    (case l40 => k_is); (case c40 => k_is); (case k40 => k_is)
    (case gq41 => k_is)
    (case l42 => k_is); (case c42 => k_is); (case k42 => k_is)
    (case gq43 => k_is)
    (case l44 => k_is); (case c44 => k_is); (case k44 => k_is)
    (case gq45 => k_is)
    (case l46 => k_is); (case c46 => k_is); (case k46 => k_is)
    (case gq47 => k_is)
    (case l48 => k_is); (case c48 => k_is); (case k48 => k_is)
    (case gq49 => k_is)
    (case l50 => k_is); (case c50 => k_is); (case k50 => k_is)
    (case gq51 => k_is)
    (case l52 => k_is); (case c52 => k_is); (case k52 => k_is)
    (case gq53 => k_is)
    (case l54 => k_is); (case c54 => k_is); (case k54 => k_is)
    (case gq55 => k_is)
    (case l56 => k_is); (case c56 => k_is); (case k56 => k_is)
    (case gq57 => k_is)
    (case l58 => k_is); (case c58 => k_is); (case k58 => k_is)
    (case gq59 => k_is)
    (case l60 => k_is); (case c60 => k_is); (case k60 => k_is)
    (case gq61 => k_is)
    (case l62 => k_is); (case c62 => k_is); (case k62 => k_is)
    (case gq63 => k_is)
    (case l64 => k_is); (case c64 => k_is); (case k64 => k_is)
    (case gq65 => k_is)
    (case l66 => k_is); (case c66 => k_is); (case k66 => k_is)
    (case gq67 => k_is)
    (case l68 => k_is); (case c68 => k_is); (case k68 => k_is)
    (case gq69 => k_is)
    (case l70 => k_is); (case c70 => k_is); (case k70 => k_is)
    (case gq71 => k_is)
    (case l72 => k_is); (case c72 => k_is); (case k72 => k_is)
    (case gq73 => k_is)
    (case l74 => k_is); (case c74 => k_is); (case k74 => k_is)
    (case gq75 => k_is)
    (case l76 => k_is); (case c76 => k_is); (case k76 => k_is)
    (case gq77 => k_is)
    (case l78 => k_is); (case c78 => k_is); (case k78 => k_is)
    (case gq79 => k_is)
    (case l80 => k_is); (case c80 => k_is); (case k80 => k_is)
    (case gq81 => k_is)
    (case l82 => k_is); (case c82 => k_is); (case k82 => k_is)
    (case gq83 => k_is)
    (case l84 => k_is); (case c84 => k_is); (case k84 => k_is)
    (case gq85 => k_is)
    (case l86 => k_is); (case c86 => k_is); (case k86 => k_is)
    (case gq87 => k_is)
    (case l88 => k_is); (case c88 => k_is); (case k88 => k_is)
    (case gq89 => k_is)
    (case l90 => k_is); (case c90 => k_is); (case k90 => k_is)
    (case gq91 => k_is)
    (case l92 => k_is); (case c92 => k_is); (case k92 => k_is)
    (case gq93 => k_is)
    (case gq94 => k_is)
    (case gq95 => k_is)
    (case gq96 => k_is)
    (case gq97 => k_is)
    (case gq98 => k_is)
    (case gq99 => k_is)
    (case gq100 => k_is)
    (case gq101 => k_is)
    (case gq102 => k_is)
    (case gq103 => k_is)
    (case l104 => k_is); (case c104 => k_is); (case k104 => k_is)
    (case gq105 => k_is)
    (case gq106 => k_is)
    (case gq107 => k_is)
    (case l108 => k_is); (case c108 => k_is); (case k108 => k_is)
    (case gq109 => k_is)
    (case gq110 => k_is)
    (case gq111 => k_is)
    (case l112 => k_is); (case c112 => k_is); (case k112 => k_is)
    (case v113 => k_is)
    (case v114 => k_is)
    (case v115 => k_is)
    (case v116 => k_is)
    (case gq117 => k_is)
    (case gq118 => k_is)
    (case gq119 => k_is)
    (case gq120 => k_is)
    (case gq121 => k_is)
    (case gq122 => k_is)
    (case gq123 => k_is)
    (case gq124 => k_is)
    (case gq125 => k_is)
    (case gq126 => k_is)
    (case gq127 => k_is)
    (case gq128 => k_is)
    (case gq129 => k_is)
    (case gq130 => k_is)
    (case gq131 => k_is)
    (case gq132 => k_is)
    (case gq133 => k_is)
    (case gq134 => decide)
