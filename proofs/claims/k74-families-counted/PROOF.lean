import PyProof.Rows.All
import Wide.All
import OpenK.AllK
import Wide.FinOn
import HandS.ForExc
import HandS.Comp
import HandS.Dict
import HandS.ExcInit
import HandS.IsInst
import HandS.Wide
import HandS.Gcd
import PyProof.ReprRoads
import HandS.TupAny
import HandS.SortInts
import HandS.ExcField
import HandS.ExcIs
import PyProof.StrLawsRepr
import HandS.More
import HandS.Iter
import HandS.SortRule
import PySem.Challenge.RW_asinrealtime_k74_families_counted
set_option Elab.async false
set_option linter.all false
set_option maxRecDepth 100000
set_option maxHeartbeats 4000000
/-! Fw1: pure readings. What a piece of Python does, as a plain Lean function over data, and what ties it to the machine. -/
namespace L2.AR
open PySem PySem.Spec PyProof.Rows

abbrev D := PyData
/-- the hand (a dict that the law's draws turn) as a datum: it never stands inside another datum -/
abbrev tok : D := .dict []
def isTok : D → Bool
  | .dict _ => true
  | _ => false

/-- the hand's state -/
structure HS where
  row : List Int
  pos : Nat

/-- how an expression ends -/
inductive Out (α : Type) where
  | ok (a : α) (h : HS)
  | err (c : Nat) (d : D) (h : HS)
  | stuck

abbrev M (α : Type) := HS → Out α
def ret {α : Type} (a : α) : M α := fun h => .ok a h
def bnd {α β : Type} (x : M α) (f : α → M β) : M β := fun h =>
  match x h with
  | .ok a h' => f a h'
  | .err c d h' => .err c d h'
  | .stuck => .stuck
def stk {α : Type} : M α := fun _ => .stuck
def fail {α : Type} (c : Nat) (d : D) : M α := fun h => .err c d h
def lift {α : Type} : Option α → M α
  | some a => ret a
  | none => stk
@[simp] theorem bnd_ret {α β : Type} (a : α) (f : α → M β) : bnd (ret a) f = f a := rfl
@[simp] theorem bnd_stk {α β : Type} (f : α → M β) : bnd stk f = stk := rfl
@[simp] theorem bnd_fail {α β : Type} (c : Nat) (d : D) (f : α → M β) : bnd (fail c d) f = fail c d := rfl
@[simp] theorem lift_some {α : Type} (a : α) : lift (some a) = ret a := rfl
@[simp] theorem lift_none {α : Type} : lift (none : Option α) = stk := rfl
theorem bnd_assoc {α β γ : Type} (x : M α) (f : α → M β) (g : β → M γ) : bnd (bnd x f) g = bnd x fun a => bnd (f a) g := by
  funext h
  unfold bnd
  cases x h <;> rfl

/-- a slot: nothing; a datum; a list that is this frame's own; a caught error -/
inductive Sl where
  | no
  | dat (d : D)
  | own (ds : List D)
  | owd (es : List (Int × D))
  | exc (c : Nat) (d : D)
abbrev Rho := List Sl

/-- what does not change within a def's run -/
structure Gh where
  K : PySem.W.Frag
  ha : Option Addr
  H0 : Hp
  F0 : Hp
  cl : Nat → Addr
  fld : Nat → Str
  W : WX
  ea : Addr
  dx : Option Addr
  ecls : Value

/-! ### data and heaps -/
mutual
/-- a value is a datum; a list is tracked as one -/
inductive Dq (K : PySem.W.Frag) (F : Hp) : V → D → Prop
  | non : Dq K F .non .none
  | bl (b : Bool) : Dq K F (.bl b) (.bool b)
  | int (i : Int) : Dq K F (.int i) (.int i)
  | str (x : Str) : Dq K F (.str x) (.str x)
  | lst {a : Addr} {xs : List V} {ds : List D} : F a = some (.lst xs) → DqAll K F xs ds → Dq K F (.ref a) (.list ds)
  | tup {a : Addr} {xs : List V} {ds : List D} : SqT K F a xs → DqAll K F xs ds → Dq K F (.ref a) (.tuple ds)
inductive DqAll (K : PySem.W.Frag) (F : Hp) : List V → List D → Prop
  | nil : DqAll K F [] []
  | cons {v : V} {vs : List V} {d : D} {ds : List D} : Dq K F v d → DqAll K F vs ds → DqAll K F (v :: vs) (d :: ds)
end
mutual
theorem dq_dp {K : PySem.W.Frag} {F : Hp} : ∀ (d : D) (v : V), Dq K F v d → Dp K F v d
  | .none, _, h => by cases h; exact .non
  | .bool b, _, h => by cases h; exact .bl b
  | .int i, _, h => by cases h; exact .int i
  | .str x, _, h => by cases h; exact .str x
  | .list ds, _, h => by
    cases h with
    | lst hs ha => exact .lst (SqL.of hs) (dqAll_dp ds _ ha)
  | .tuple ds, _, h => by
    cases h with
    | tup hs ha => exact .tup hs (dqAll_dp ds _ ha)
  | .dict _, _, h => by cases h
theorem dqAll_dp {K : PySem.W.Frag} {F : Hp} : ∀ (ds : List D) (vs : List V), DqAll K F vs ds → DpAll K F vs ds
  | [], _, h => by cases h; exact .nil
  | d :: ds, _, h => by
    cases h with
    | cons h1 h2 => exact .cons (dq_dp d _ h1) (dqAll_dp ds _ h2)
end
mutual
theorem dp_same {K : PySem.W.Frag} {H H' : Hp} (s : Same H H') : ∀ (d : D) (v : V), Dq K H v d → Dq K H' v d
  | .none, _, h => by cases h; exact .non
  | .bool b, _, h => by cases h; exact .bl b
  | .int i, _, h => by cases h; exact .int i
  | .str x, _, h => by cases h; exact .str x
  | .list ds, _, h => by
    cases h with
    | lst hs ha => exact .lst (s _ _ hs) (dpAll_same s ds _ ha)
  | .tuple ds, _, h => by
    cases h with
    | tup hs ha =>
      refine .tup ?_ (dpAll_same s ds _ ha)
      rcases hs with (z | ⟨o, z⟩) | z
      · exact .inl (.inl (s _ _ z))
      · exact .inl (.inr ⟨o, s _ _ z⟩)
      · exact .inr z
  | .dict _, _, h => by cases h
theorem dpAll_same {K : PySem.W.Frag} {H H' : Hp} (s : Same H H') : ∀ (ds : List D) (vs : List V), DqAll K H vs ds → DqAll K H' vs ds
  | [], _, h => by cases h; exact .nil
  | d :: ds, _, h => by
    cases h with
    | cons h1 h2 => exact .cons (dp_same s d _ h1) (dpAll_same s ds _ h2)
end
theorem dpAll_len {K : PySem.W.Frag} {H : Hp} : ∀ {vs : List V} {ds : List D}, DqAll K H vs ds → vs.length = ds.length
  | _, _, .nil => rfl
  | _, _, .cons _ r => congrArg (· + 1) (dpAll_len r)
theorem dpAll_get {K : PySem.W.Frag} {H : Hp} : ∀ {vs : List V} {ds : List D} {i : Nat} {v : V}, DqAll K H vs ds → vs[i]? = some v → ∃ d, ds[i]? = some d ∧ Dq K H v d
  | _, _, i, v, .nil, e => by simp at e
  | _, _, 0, v, .cons r _, e => by simp at e; subst e; exact ⟨_, rfl, r⟩
  | _, _, i + 1, v, .cons _ t, e => by
    obtain ⟨d, h1, h2⟩ := dpAll_get (i := i) t (by simpa using e)
    exact ⟨d, by simpa using h1, h2⟩
theorem dpAll_get' {K : PySem.W.Frag} {H : Hp} : ∀ {vs : List V} {ds : List D} {i : Nat} {d : D}, DqAll K H vs ds → ds[i]? = some d → ∃ v, vs[i]? = some v ∧ Dq K H v d
  | _, _, i, v, .nil, e => by simp at e
  | _, _, 0, v, .cons r _, e => by simp at e; subst e; exact ⟨_, rfl, r⟩
  | _, _, i + 1, v, .cons _ t, e => by
    obtain ⟨d, h1, h2⟩ := dpAll_get' (i := i) t (by simpa using e)
    exact ⟨d, by simpa using h1, h2⟩
theorem dpAll_append {K : PySem.W.Frag} {H : Hp} : ∀ {vs ws : List V} {ds es : List D}, DqAll K H vs ds → DqAll K H ws es → DqAll K H (vs ++ ws) (ds ++ es)
  | _, _, _, _, .nil, s => s
  | _, _, _, _, .cons r t, s => .cons r (dpAll_append t s)
theorem dpAll_take {K : PySem.W.Frag} {H : Hp} : ∀ {vs : List V} {ds : List D} (n : Nat), DqAll K H vs ds → DqAll K H (vs.take n) (ds.take n)
  | _, _, 0, _ => .nil
  | _, _, _ + 1, .nil => .nil
  | _, _, n + 1, .cons r t => .cons r (dpAll_take n t)
theorem dpAll_drop {K : PySem.W.Frag} {H : Hp} : ∀ {vs : List V} {ds : List D} (n : Nat), DqAll K H vs ds → DqAll K H (vs.drop n) (ds.drop n)
  | _, _, 0, r => r
  | _, _, _ + 1, .nil => .nil
  | _, _, n + 1, .cons _ t => dpAll_drop n t
theorem dpAll_set {K : PySem.W.Frag} {H : Hp} {v : V} {d : D} (r : Dq K H v d) : ∀ {vs : List V} {ds : List D} (i : Nat), DqAll K H vs ds → DqAll K H (vs.set i v) (ds.set i d)
  | _, _, _, .nil => .nil
  | _, _, 0, .cons _ t => .cons r t
  | _, _, i + 1, .cons q t => .cons q (dpAll_set r i t)

/-- a value is a datum, or the hand -/
def Rp (K : PySem.W.Frag) (F : Hp) (ha : Option Addr) (v : V) (d : D) : Prop := Dq K F v d ∨ (d = tok ∧ ∃ a, ha = some a ∧ v = .ref a)
theorem Rp.dp {K : PySem.W.Frag} {F : Hp} {ha : Option Addr} {v : V} {d : D} (h : Rp K F ha v d) (n : isTok d = false) : Dq K F v d := by
  rcases h with h | ⟨e, _⟩
  · exact h
  · subst e; cases n
theorem Rp.same {K : PySem.W.Frag} {F F' : Hp} {ha : Option Addr} {v : V} {d : D} (h : Rp K F ha v d) (s : Same F F') : Rp K F' ha v d := by
  rcases h with h | h
  · exact .inl (dp_same s _ _ h)
  · exact .inr h
inductive RpAll (K : PySem.W.Frag) (F : Hp) (ha : Option Addr) : List V → List D → Prop
  | nil : RpAll K F ha [] []
  | cons {v : V} {vs : List V} {d : D} {ds : List D} : Rp K F ha v d → RpAll K F ha vs ds → RpAll K F ha (v :: vs) (d :: ds)
theorem RpAll.same {K : PySem.W.Frag} {F F' : Hp} {ha : Option Addr} (s : Same F F') : ∀ {vs : List V} {ds : List D}, RpAll K F ha vs ds → RpAll K F' ha vs ds
  | _, _, .nil => .nil
  | _, _, .cons r t => .cons (r.same s) (RpAll.same s t)
theorem RpAll.len {K : PySem.W.Frag} {F : Hp} {ha : Option Addr} : ∀ {vs : List V} {ds : List D}, RpAll K F ha vs ds → vs.length = ds.length
  | _, _, .nil => rfl
  | _, _, .cons _ r => congrArg (· + 1) (RpAll.len r)
theorem RpAll.dp {K : PySem.W.Frag} {F : Hp} {ha : Option Addr} : ∀ {vs : List V} {ds : List D}, RpAll K F ha vs ds → ds.any isTok = false → DqAll K F vs ds
  | _, _, .nil, _ => .nil
  | _, _, .cons (d := d) (ds := ds) r t, n => by
    rw [List.any_cons, Bool.or_eq_false_iff] at n
    exact .cons (r.dp n.1) (RpAll.dp t n.2)

/-- the hand stands at a: its row frozen, its place -/
def HandOK (ha : Option Addr) (F H : Hp) (hs : HS) : Prop := ∀ a, ha = some a → F a = none ∧ ∃ r, r ≠ a ∧ H a = some (.dK [(.inr "row", .ref r), (.inr "at", .int hs.pos)]) ∧ F r = some (.lst (hs.row.map V.int))

/-- what stood stands; the frozen part has grown by new objects alone -/
structure PStep (F H F' H' : Hp) : Prop where
  ff : Same F F'
  fh : Same F' H'
  keep : Same H H'
  new : ∀ b, F' b ≠ none → F b ≠ none ∨ H b = none
/-- the same, but the hand may have turned -/
structure Step (ha : Option Addr) (F H F' H' : Hp) : Prop where
  ff : Same F F'
  fh : Same F' H'
  keep : ∀ b o, H b = some o → ha ≠ some b → H' b = some o
  new : ∀ b, F' b ≠ none → F b ≠ none ∨ H b = none
theorem PStep.step {ha : Option Addr} {F H F' H' : Hp} (s : PStep F H F' H') : Step ha F H F' H' := ⟨s.ff, s.fh, fun b o e _ => s.keep b o e, s.new⟩
theorem PStep.refl {F H : Hp} (s : Same F H) : PStep F H F H := ⟨Same.refl F, s, Same.refl H, fun _ h => .inl h⟩
theorem Step.refl {ha : Option Addr} {F H : Hp} (s : Same F H) : Step ha F H F H := (PStep.refl s).step
theorem none_of_keep {H H' : Hp} (k : Same H H') {b : Addr} (h : H' b = none) : H b = none := k.free h
theorem PStep.trans {F H F1 H1 F2 H2 : Hp} (a : PStep F H F1 H1) (b : PStep F1 H1 F2 H2) : PStep F H F2 H2 :=
  ⟨a.ff.trans b.ff, b.fh, a.keep.trans b.keep, fun x h => by
    rcases b.new x h with z | z
    · exact a.new x z
    · exact .inr (a.keep.free z)⟩
theorem Step.trans {ha : Option Addr} {F H F1 H1 F2 H2 : Hp} (a : Step ha F H F1 H1) (b : Step ha F1 H1 F2 H2) (hh : ∀ x, ha = some x → F2 x = none) : Step ha F H F2 H2 :=
  ⟨a.ff.trans b.ff, b.fh, fun x o e n => b.keep x o (a.keep x o e n) n, fun x h => by
    rcases b.new x h with z | z
    · exact a.new x z
    · cases q : H x with
      | none => exact .inr rfl
      | some o =>
        by_cases hx : ha = some x
        · exact absurd (hh x hx) h
        · rw [a.keep x o q hx] at z; cases z⟩
theorem HandOK.pstep {ha : Option Addr} {F H F' H' : Hp} {hs : HS} (h : HandOK ha F H hs) (s : PStep F H F' H') : HandOK ha F' H' hs := fun a e => by
  obtain ⟨h1, r, n, h2, h3⟩ := h a e
  refine ⟨?_, r, n, s.keep _ _ h2, s.ff _ _ h3⟩
  cases q : F' a with
  | none => rfl
  | some o =>
    rcases s.new a (by rw [q]; simp) with z | z
    · exact absurd h1 z
    · rw [h2] at z; cases z
/-- a new frozen object -/
theorem PStep.alloc {F H : Hp} (s : Same F H) {p : Addr} {o : HO} (n : H p = none) : PStep F H (upd F p o) (upd H p o) :=
  ⟨fun b u e => by rw [upd_ne (ne_of_none e (s.free n))]; exact e,
   fun b u e => by
    by_cases hb : b = p
    · subst hb; rw [upd_same] at e ⊢; exact e
    · rw [upd_ne hb] at e ⊢; exact s b u e,
   fun b u e => by rw [upd_ne (ne_of_none e n)]; exact e,
   fun b h => by
    by_cases hb : b = p
    · subst hb; exact .inr n
    · rw [upd_ne hb] at h; exact .inl h⟩
/-- a new object that is not frozen (garbage, or to be this frame's own) -/
theorem PStep.garb {F H : Hp} (s : Same F H) {p : Addr} {o : HO} (n : H p = none) : PStep F H F (upd H p o) :=
  ⟨Same.refl F, fun b u e => by rw [upd_ne (ne_of_none (s b u e) n)]; exact s b u e, fun b u e => by rw [upd_ne (ne_of_none e n)]; exact e, fun _ h => .inl h⟩

/-- a dict of whole numbers and data -/
inductive KvR (K : PySem.W.Frag) (F : Hp) : List (Key × V) → List (Int × D) → Prop
  | nil : KvR K F [] []
  | cons {k : Int} {v : V} {d : D} {r : List (Key × V)} {es : List (Int × D)} : Dq K F v d → KvR K F r es → KvR K F ((.inl k, v) :: r) ((k, d) :: es)
theorem KvR.same {K : PySem.W.Frag} {F F' : Hp} (s : Same F F') {r : List (Key × V)} {es : List (Int × D)} (h : KvR K F r es) : KvR K F' r es := by
  induction h with
  | nil => exact .nil
  | cons a _ ih => exact .cons (dp_same s _ _ a) ih
/-- the state of a def's frame -/
def SlR (G : Gh) (F H : Hp) (s : Sl) (x : Option (Option V)) : Prop :=
  match s with
  | .no => True
  | .dat d => ∃ v, x = some (some v) ∧ Rp G.K F G.ha v d
  | .own ds => ∃ a vs, x = some (some (.ref a)) ∧ H a = some (.lst vs) ∧ F a = none ∧ G.H0 a = none ∧ G.ha ≠ some a ∧ DqAll G.K F vs ds
  | .owd es => ∃ a kvs, x = some (some (.ref a)) ∧ H a = some (.dK kvs) ∧ F a = none ∧ G.H0 a = none ∧ G.ha ≠ some a ∧ KvR G.K F kvs es
  | .exc c d => x = some (some (.ref G.ea)) ∧ G.ecls = .ref (G.cl c) ∧ ∃ dx v, G.dx = some dx ∧ H dx = some (.xd [(G.fld c, v)]) ∧ G.ha ≠ some dx ∧ Dq G.K F v d
def isOwn : Sl → Bool
  | .own _ => true
  | .owd _ => true
  | _ => false
theorem SlR.at {G : Gh} {F H : Hp} {x : Sl} {y : Option (Option V)} (h : SlR G F H x y) (o : isOwn x = true) : ∃ a ob, y = some (some (.ref a)) ∧ H a = some ob ∧ F a = none ∧ G.H0 a = none ∧ G.ha ≠ some a := by
  cases x with
  | own ds =>
    obtain ⟨a, vs, e, h1, h2, h3, h4, _⟩ := h
    exact ⟨a, _, e, h1, h2, h3, h4⟩
  | owd es =>
    obtain ⟨a, vs, e, h1, h2, h3, h4, _⟩ := h
    exact ⟨a, _, e, h1, h2, h3, h4⟩
  | _ => cases o
structure Rel (G : Gh) (F H : Hp) (hs : HS) (ρ : Rho) (σ : St) : Prop where
  sub : Same F H
  hand : HandOK G.ha F H hs
  base : ∀ b o, G.H0 b = some o → G.ha ≠ some b → H b = some o
  f0 : Same G.F0 F
  new0 : ∀ b, F b ≠ none → G.F0 b ≠ none ∨ G.H0 b = none
  len : σ.length = ρ.length
  slots : ∀ (i : Nat) (s : Sl), ρ[i]? = some s → SlR G F H s σ[i]?
  apart : ∀ (i j : Nat) (x y : Sl) (a : Addr), i ≠ j → ρ[i]? = some x → ρ[j]? = some y → isOwn x = true → isOwn y = true → σ[i]? = some (some (.ref a)) → σ[j]? ≠ some (some (.ref a))
theorem SlR.step {G : Gh} {F H F' H' : Hp} (s : Step G.ha F H F' H') {x : Sl} {y : Option (Option V)} (h : SlR G F H x y) : SlR G F' H' x y := by
  cases x with
  | no => trivial
  | dat d =>
    obtain ⟨v, e, r⟩ := h
    exact ⟨v, e, r.same s.ff⟩
  | own ds =>
    obtain ⟨a, vs, e, h1, h2, h3, h4, h5⟩ := h
    refine ⟨a, vs, e, s.keep _ _ h1 h4, ?_, h3, h4, dpAll_same s.ff _ _ h5⟩
    cases q : F' a with
    | none => rfl
    | some o =>
      rcases s.new a (by rw [q]; simp) with z | z
      · exact absurd h2 z
      · rw [h1] at z; cases z
  | owd es =>
    obtain ⟨a, vs, e, h1, h2, h3, h4, h5⟩ := h
    refine ⟨a, vs, e, s.keep _ _ h1 h4, ?_, h3, h4, h5.same s.ff⟩
    cases q : F' a with
    | none => rfl
    | some o =>
      rcases s.new a (by rw [q]; simp) with z | z
      · exact absurd h2 z
      · rw [h1] at z; cases z
  | exc c d =>
    obtain ⟨e, e2, dx, v, h0, h1, h2, h3⟩ := h
    exact ⟨e, e2, dx, v, h0, s.keep _ _ h1 h2, h2, dp_same s.ff _ _ h3⟩
theorem Rel.step {G : Gh} {F H F' H' : Hp} {hs hs' : HS} {ρ : Rho} {σ : St} (R : Rel G F H hs ρ σ) (s : Step G.ha F H F' H') (hh : HandOK G.ha F' H' hs') : Rel G F' H' hs' ρ σ where
  sub := s.fh
  hand := hh
  base := fun b o e n => s.keep b o (R.base b o e n) n
  f0 := R.f0.trans s.ff
  new0 := fun b h => by
    rcases s.new b h with z | z
    · exact R.new0 b z
    · cases q : G.H0 b with
      | none => exact .inr rfl
      | some o =>
        by_cases hb : G.ha = some b
        · exact absurd (hh b hb).1 h
        · rw [R.base b o q hb] at z; cases z
  len := R.len
  slots := fun i x e => (R.slots i x e).step s
  apart := R.apart
theorem Rel.pstep {G : Gh} {F H F' H' : Hp} {hs : HS} {ρ : Rho} {σ : St} (R : Rel G F H hs ρ σ) (s : PStep F H F' H') : Rel G F' H' hs ρ σ := R.step s.step (R.hand.pstep s)
/-- from the entry until now -/
theorem Rel.entry {G : Gh} {F H : Hp} {hs : HS} {ρ : Rho} {σ : St} (R : Rel G F H hs ρ σ) : Step G.ha G.F0 G.H0 F H := ⟨R.f0, R.sub, R.base, R.new0⟩
end L2.AR
set_option Elab.async false
set_option linter.all false
set_option maxRecDepth 100000
set_option maxHeartbeats 4000000
/-! Fw2: defs called where no repr is under way (guards known), the law's own call, repr of data. -/
namespace L2.AR
open PySem PySem.Spec PyProof.Rows

/-- no repr is under way -/
def Quiet (A : Around) : Prop := A.guards = some []
/-- a def's promise, kept wherever no repr is under way -/
structure FnG (P : Program) (w : World) (K : PySem.W.Frag) (mg : Str → Option Value) (base : Heap) (CX : CXT) (k : Nat) (f : Addr) (fd : FuncData) (ps : List Str) (sp : Sp) : Prop where
  len : ∀ vs H Q E, sp vs H Q E → vs.length = ps.length
  run : ∀ (A : Around) (outer : List Env) (s : Shared) (H : Hp) (args : Args) (us : List Value) (vs : List V) (Q : VK) (E : XK), Quiet A → Room k A → Env0 P w K mg base A outer s H → BindsTo s fd args (ps.zip us) → Vals vs us → sp vs H Q E →
    codeAny (model P w) A (.call (.ref f) args) (CR CX outer P w H s Q E) s
section
variable {P : Program} {w : World} {K : PySem.W.Frag} {mg : Str → Option Value} {base : Heap} {CX : CXT} {k : Nat} {f : Addr} {fd : FuncData} {ps : List Str} {sp : Sp}
theorem FnG.of (F : FnOk P w K mg base CX k f fd ps sp) : FnG P w K mg base CX k f fd ps sp := ⟨F.len, fun A outer s H args us vs Q E _ => F.run A outer s H args us vs Q E⟩
theorem FnG.up {j : Nat} (F : FnG P w K mg base CX j f fd ps sp) (h : j ≤ k) : FnG P w K mg base CX k f fd ps sp :=
  ⟨F.len, fun A outer s H args us vs Q E g r => F.run A outer s H args us vs Q E g (r.mono h)⟩
end
theorem quiet_deeper {A : Around} {env : Env} (h : Quiet A) : Quiet (A.deeper env) := h
section
variable {P : Program} {w : World} {K : PySem.W.Frag} {mg : Str → Option Value} {base : Heap}
/-- a def of the text, by its body -/
theorem okG {x qual : Str} {st : Stmt} {f : Addr} {fd : FuncData} {N ps : List Str} {k : Nat} {sp : Sp} (F : Fun K x qual st f fd) (S : FnScope N ps (defScope st)) (len : ∀ vs H Q E, sp vs H Q E → vs.length = ps.length)
    (hbody : ∀ (cdv : Value) (A : Around) (outer : List Env) (s : Shared) (H : Hp) (vs : List V) (Q : VK) (E : XK), Quiet (A.deeper (envOfC qual (defScope st) s.heap.objs.size f cdv)) → Room k (A.deeper (envOfC qual (defScope st) s.heap.objs.size f cdv)) → sp vs H Q E →
      ∃ t, PSs (cxOf (L2.CX P w) P w K mg base N qual (defScope st) f cdv A outer s H E) (defBody st) t ∧ t { nx := fun _ H' => Q .non H', rt := Q } (start N vs) H) : FnG P w K mg base (L2.CX P w) (k + 1) f fd ps sp := by
  obtain ⟨oc, od, kV, doc, pm, an, cdv, ct, osl, rfl, lk, hcd⟩ := F.ex
  constructor
  · exact len
  intro A outer s H args us vs Q E quiet room e0 bound rel want
  have inHeap : K.In s.heap := e0.mod.kin.keeps fun b o e => (e0.bs b o e).1
  have noLim : s.heap.NoLimit := e0.mod.nolimit.keeps fun b o e => (e0.bs b o e).1
  have kinds : ∀ y ∈ ps.zip us, (defScope st).names.lookup y.1 = some .local ∨ ((defScope st).names.lookup y.1 = some .cell ∧ ((cellsFrom (s.heap.objs.size + 1) (defScope st).names []).lookup y.1).isSome = true) := by
    intro y hy
    have hm : y.1 ∈ ps := (List.of_mem_zip (a := y.1) (b := y.2) hy).1
    exact (S.par _ hm).imp id fun q => ⟨q, PySem.W.cellsFrom_some _ _ _ (.inl q)⟩
  apply codeAny_call_function room.depth (inHeap _ _ lk) rfl S.co S.gen rfl (PySem.W.codeRec_of inHeap hcd) (bound _ _ _ _ _)
  apply wpAny_newFunctionEnv_cells S.kind kinds
  intro env he s1 x
  subst he
  refine ⟨noLim.keeps x.toInCall.keep, codeAny_func ?_⟩
  obtain ⟨t, ht, hq⟩ := hbody cdv A outer s H vs Q E (quiet_deeper quiet) (room.deeper _) want
  have I := inv_start (CX := L2.CX P w) (E := E) S room.hd e0 (len _ _ _ _ want) rel x
  apply wpAny_mono (ht.run [] s1 (start N vs) H _ I hq) _ fun _ _ z => z
  intro fl s' hs
  cases fl with
  | ret u =>
    obtain ⟨v, σ', H', J, rv, q⟩ := hs
    exact ⟨v, H', J.os, J.bare, J.base, J.hok, rv, q⟩
  | next =>
    obtain ⟨σ', H', J, q⟩ := hs
    exact ⟨V.non, H', J.os, J.bare, J.base, J.hok, rfl, q⟩
  | brk => exact hs.elim fun _ z => z.elim fun _ y => y.2.elim
  | cont => exact hs.elim fun _ z => z.elim fun _ y => y.2.elim
end
section
variable {X : Cx} {CX : CXT} {k : Nat} {f : Addr} {fd : FuncData} {ps : List Str} {sp : Sp} {E : St → XK} {x : Str} {p pos : Pos} {e : Expr} {es : List Expr} {t : TA}
theorem runG {pins : List (Addr × Obj)} {σ : St} {H : Hp} {s : Shared} {Q : VK} {us : List Value} {vs : List V} (g : Quiet X.A) (F : FnG X.prog X.w X.K X.mg X.base CX k f fd ps sp) (hr : Room k X.A) (hb : Binds X.K fd ps []) (hx : PassesAt CX X σ (E σ))
    (I : Inv X pins σ H s) (r : Vals vs us) (h : sp vs H Q (E σ)) : wpAny (model X.prog X.w) X.A (call (.ref f) us) (EP X pins σ Q) X.xe s := by
  have same : us.length = ps.length := by
    have z := F.len _ _ _ _ h
    rw [r.length] at z
    exact z
  have bs : BindsTo s fd ⟨us, []⟩ (ps.zip us) := by
    have z := hb s us I.kIn (by simpa using same)
    simpa using z
  apply wpAny_call
  apply codeAny_mono (F.run X.A X.stack s H ⟨us, []⟩ us vs Q (E σ) g hr I.env0 bs r h)
  intro o s' hq
  match o, hq with
  | .error e, hq => exact hx pins H s e s' I hq
  | .ok (.ret u), hq => exact I.after hq
/-- f(e, ..), f a def of the text -/
theorem pe_callG (g : Quiet X.A) (F : FnG X.prog X.w X.K X.mg X.base CX k f fd ps sp) (hr : Room k X.A) (hg : Gl X x) (hm : X.mg x = some (.ref f)) (hk : PySem.W.keepIn X.K (.ref f) = true) (hb : Binds X.K fd ps []) (hx : ∀ σ, PassesAt CX X σ (E σ))
    (ha : PA X (e :: es) t) (hdb : (x == ("__debug__" : Str)) = false := by decide) (he : starEach (e :: es) X.env = (false, eval e X.env) :: starEach es X.env := by rfl) (hpl : (backTo pos (starEach es X.env)).any (·.1) = false := by rfl) :
    PE X (.Call (.Name x p) (e :: es) [] pos) (tCallS sp E t) := by
  constructor
  intro pins s σ H Q I h
  apply wpAny_Call_Name_kw (ld_glob I hg hm _ hdb)
  apply PySem.W.callWith_K (h₀ := X.base) I.ok.mod.kin hk _ he hpl
  apply thn (ha.run pos pins s σ H _ I h)
  rintro us s1 ⟨vs, H1, I1, r, q⟩
  exact ⟨I1.kIn, runG g F hr hb (hx σ) I1 r q⟩
/-- f(), f a def of the text -/
theorem pe_callG0 (g : Quiet X.A) (F : FnG X.prog X.w X.K X.mg X.base CX k f fd ps sp) (hr : Room k X.A) (hg : Gl X x) (hm : X.mg x = some (.ref f)) (hk : PySem.W.keepIn X.K (.ref f) = true) (hb : Binds X.K fd ps []) (hx : ∀ σ, PassesAt CX X σ (E σ))
    (hdb : (x == ("__debug__" : Str)) = false := by decide) :
    PE X (.Call (.Name x p) [] [] pos) (tCallS sp E tNil) := by
  constructor
  intro pins s σ H Q I h
  apply wpAny_Call_Name_kw (ld_glob I hg hm _ hdb)
  exact PySem.W.callWith_K0 I.kIn hk (runG (us := []) g F hr hb (hx σ) I .nil h)
end
/-! ### repr of data -/
/-- what may be shown -/
def shows (d : D) : Bool := !isTok d && d.showable && !d.hasDict && decide (d.depth ≤ 40) && decide (d.shown.length ≤ 16777216)
theorem call_reprD {X : Cx} (g : Quiet X.A) (hu : X.A.units + 64 < cLine) : CallR X (.builtin "repr") (fun xs H Q => ∃ v d, xs = [v] ∧ Dq X.K H v d ∧ shows d = true ∧ Q (.str d.shown) H) := by
  intro pins s σ H xs us Q I r h
  obtain ⟨v, d, rfl, hd, hs, q⟩ := h
  cases r with
  | cons r0 rn =>
    rename_i u us'
    cases rn
    unfold shows at hs
    simp only [Bool.and_eq_true, Bool.not_eq_true', decide_eq_true_eq] at hs
    obtain ⟨⟨⟨⟨_, h1⟩, h2⟩, h3⟩, h4⟩ := hs
    have hz : d.shown.length ≤ sizeLine := by rw [sizeLine_eq]; exact h4
    obtain ⟨as, rd⟩ := Dp.reads I d v u (dq_dp d v hd) r0
    have big : ∀ a, u = .ref a → wpAny (model X.prog X.w) X.A (call (.builtin "repr") [u]) (EP X pins σ Q) X.xe s := by
      rintro a rfl
      exact repr_of_reads' rd h1 (fun z => by rw [h2] at z; cases z) g (by omega) (fun _ _ z => z) (fun h' t tk k => ⟨.str d.shown, H, I.kept k, ⟨_, rfl⟩, q⟩) hz
    cases hd with
    | non =>
      cases r0
      exact PySem.P.repr_of_none ⟨.str _, H, I.tok _, ⟨_, rfl⟩, q⟩
    | bl b =>
      cases r0
      exact PySem.P.repr_of_bool ⟨.str _, H, I.tok _, ⟨_, rfl⟩, q⟩
    | int i =>
      obtain ⟨t, rfl⟩ := r0
      exact PySem.P.repr_of_int (by simpa [PyData.showable] using h1) ⟨.str _, H, I.tok _, ⟨_, rfl⟩, q⟩
    | str x =>
      obtain ⟨t, rfl⟩ := r0
      exact PySem.P.repr_of_str ⟨.str _, H, I.tok _, ⟨_, rfl⟩, q⟩ (by simpa [PyData.shown] using hz)
    | lst _ _ => exact big _ r0
    | tup _ _ => exact big _ r0
/-! ### the law's own call -/
/-- the law's def is called at a heap in which the script at a may be tracked -/
theorem law_runG {P : Program} {w : World} {K : PySem.W.Frag} {mg mb : Str → Option Value} {CX : CXT} {k : Nat} {fa a : Addr} {fd : FuncData} {x : Str} {sp : Sp} {s₁ : Shared} {vs : List Value} {ns : List Int} {H : Hp}
    (inK : K.In s₁.heap) (globs : s₁.heap.Ns mainGlobals mg) (blts : s₁.heap.Ns builtinsNs mb) (boot : ∀ x : Str, x ≠ "__name__" → mb x = bootBuiltins x) (lim : s₁.heap.NoLimit) (gens : s₁.gens = #[])
    (script : s₁.heap.get? a = some { cls := .type "list", data := .seq vs.toArray }) (room : Room k callerA)
    (F : ∀ base : Heap, K.In base → base.Ns mainGlobals mg → FnG P w K mg base CX k fa fd [x] sp) (bind : ∀ (s : Shared) (u : Value), BindsTo s fd ⟨[u], []⟩ [(x, u)])
    (CXno : ∀ H e s', CX [] H s₁ (fun _ _ _ => False) e s' → False)
    (only : Only H) (hok : HOk P w H s₁.heap) (atA : ∀ b, H b ≠ none → b = a) (freeK : H a ≠ none → K.lookup a = none)
    (want : sp [.ref a] H (fun v _ => v = .bl true) fun _ _ _ => False) :
    codeAny (model P w) callerA (.call (.ref fa) ⟨[.ref a], []⟩) (fun r s' => r = .ok (.ret (.bool true)) ∧ OldK s₁.heap s'.heap ∧ s'.os = s₁.os ∧ AllBare s'.gens) s₁ := by
  have notDict : ∀ {b : Addr} {o : Obj} {es : Array DictEntry} {ep : Nat}, s₁.heap.get? b = some o → o.data = .dict es ep → H b = none := by
    intro b o es ep e d
    match q : H b with
    | none => rfl
    | some u =>
      have eb : b = a := atA b (by simp [q])
      rw [eb, script] at e
      cases e
      cases d
  have keepNs : ∀ {b : Addr} {m : Str → Option Value}, s₁.heap.Ns b m → (hidT s₁.heap H).Ns b m := by
    rintro b m ⟨o, es, ep, e, d, r⟩
    exact ⟨o, es, ep, hidT_get e (notDict e d), d, r⟩
  have inB : K.In (hidT s₁.heap H) := by
    intro b o e
    apply hidT_get (inK b o e)
    match q : H b with
    | none => rfl
    | some u =>
      have eb : b = a := atA b (by simp [q])
      rw [eb, freeK (by rw [← eb, q]; simp)] at e
      cases e
  have md : Mod K mg (hidT s₁.heap H) := by
    obtain ⟨mc, h1, h2⟩ := lim
    exact ⟨inB, keepNs globs, ⟨mb, keepNs blts, boot⟩, mc, keepNs h1, h2⟩
  have e0 : Env0 P w K mg (hidT s₁.heap H) callerA [] s₁ H :=
    ⟨rfl, md, fun b o e => of_hidT e, Nat.le_of_eq (hidT_size _ _), trivial, fun b hb => absurd (show b ∈ ([] : List Addr) from hb) (by simp), hok, .of_eq gens⟩
  apply codeAny_mono ((F _ inB (keepNs globs)).run callerA [] s₁ H ⟨[.ref a], []⟩ [.ref a] [.ref a] _ _ rfl room e0 (bind s₁ (.ref a)) (.cons rfl .nil) want)
  intro r s' h
  match r, h with
  | .error e, h => exact (CXno H e s' h).elim
  | .ok (.ret u), h =>
    obtain ⟨v, H', os, bare, un, hok', r', q⟩ := h
    subst q
    obtain rfl : u = Value.bool true := r'
    refine ⟨rfl, OldK.of_keep fun b o e => ?_, os, bare⟩
    match q : H b with
    | none => exact un.keep b o e q (by intro z; exact absurd (show b ∈ ([] : List Addr) from z) (by simp)) (by simp)
    | some u =>
      rcases only b with z | ⟨ob, xs, z⟩
      · rw [q] at z; cases z
      · have e1 := (hok b _ z).1
        have e2 := (hok' b _ (un.frzs b ob _ z)).1
        rw [e] at e1
        cases e1
        exact e2
theorem law_callG {P : Program} {w : World} {K : PySem.W.Frag} {mg mb : Str → Option Value} {CX : CXT} {k : Nat} {fa a : Addr} {fd : FuncData} {x : Str} {sp : Sp} {s₁ : Shared} {vs : List Value} {ns : List Int}
    (inK : K.In s₁.heap) (globs : s₁.heap.Ns mainGlobals mg) (blts : s₁.heap.Ns builtinsNs mb) (boot : ∀ x : Str, x ≠ "__name__" → mb x = bootBuiltins x) (lim : s₁.heap.NoLimit) (gens : s₁.gens = #[])
    (script : s₁.heap.get? a = some { cls := .type "list", data := .seq vs.toArray }) (whole : IntsAre vs ns) (few : ns.length ≤ sizeLine) (room : Room k callerA)
    (F : ∀ base : Heap, K.In base → base.Ns mainGlobals mg → FnG P w K mg base CX k fa fd [x] sp) (bind : ∀ (s : Shared) (u : Value), BindsTo s fd ⟨[u], []⟩ [(x, u)])
    (want : ∀ H : Hp, Only H → SqL K H a (ns.map V.int) → sp [.ref a] H (fun v _ => v = .bl true) fun _ _ _ => False)
    (CXno : ∀ H e s', CX [] H s₁ (fun _ _ _ => False) e s' → False) :
    codeAny (model P w) callerA (.call (.ref fa) ⟨[.ref a], []⟩) (fun r s' => r = .ok (.ret (.bool true)) ∧ OldK s₁.heap s'.heap ∧ s'.os = s₁.os ∧ AllBare s'.gens) s₁ := by
  have rv := vals_ints whole
  have lenV := whole.length
  by_cases hk : ∃ o, K.lookup a = some o
  · obtain ⟨o, hk⟩ := hk
    have e := inK a o hk
    rw [script] at e
    cases e
    have nothing : ∀ b, (fun _ => none : Hp) b = none := fun _ => rfl
    exact law_runG (ns := ns) (H := fun _ => none) inK globs blts boot lim gens script room F bind CXno (fun b => .inl rfl) (fun b u z => by cases (nothing b).symm.trans z) (fun b z => absurd rfl z) (fun z => absurd rfl z)
      (want _ (fun b => .inl rfl) (.inr ⟨_, vs.toArray, _, hk, rfl, rfl, rfl, by rw [List.size_toArray, lenV]; exact few, by simpa using rv⟩))
  · have noK : K.lookup a = none := by
      cases q : K.lookup a with
      | none => rfl
      | some o => exact absurd ⟨o, q⟩ hk
    obtain ⟨H, hA, hN⟩ : ∃ H : Hp, H a = some (.frz { cls := .type "list", data := .seq vs.toArray } (.lst (ns.map V.int))) ∧ ∀ b, b ≠ a → H b = none :=
      ⟨upd (fun _ => none) a _, upd_same, fun b hb => upd_ne hb⟩
    have only : Only H := fun b => by
      by_cases hb : b = a
      · subst hb; exact .inr ⟨_, _, hA⟩
      · exact .inl (hN b hb)
    refine law_runG (ns := ns) (H := H) inK globs blts boot lim gens script room F bind CXno only (fun b u z => ?_) (fun b z => ?_) (fun _ => noK) (want H only (.inl (.inr ⟨_, hA⟩)))
    · by_cases hb : b = a
      · subst hb
        rw [hA] at z
        cases z
        exact ⟨script, by rw [List.length_map]; exact few, vs, _, rv, script⟩
      · rw [hN b hb] at z; cases z
    · exact Classical.byContradiction fun hb => z (hN b hb)
/-- the goal that k_head leaves, from the law's promise -/
theorem walk_ofG {l : PySem.W.OpenLaw} {n k : Nat} {q : Program} {loose : List Str} {XP : (Str → Option Value) → Heap → Prop} {YP : World → Heap → Prop} {d : DefRec} {K : Params → PySem.W.Frag} {CX : World → CXT} {sp : World → Sp} {x : Str}
    (hn : l.most = some n) (hn2 : n ≤ sizeLine) (hdf : d.params.defaults = []) (room : Room k callerA)
    (hY : ∀ (w : World) (h : Heap), YP w h → (K w.params).In h)
    (F : ∀ (w : World) (mg : Str → Option Value) (fa : Addr) (h : Heap), (K w.params).In h → h.Ns mainGlobals mg → mg d.name = some (.ref fa) →
      ∃ fd : FuncData, (∀ (s : Shared) (u : Value), BindsTo s fd ⟨[u], []⟩ [(x, u)]) ∧
        ∀ base : Heap, (K w.params).In base → base.Ns mainGlobals mg → FnG l.prog w (K w.params) mg base (CX w) k fa fd [x] (sp w))
    (want : ∀ (w : World) (H : Hp) (a : Addr) (ns : List Int), ns.length ≤ n → Only H → SqL (K w.params) H a (ns.map V.int) → sp w [.ref a] H (fun v _ => v = .bl true) fun _ _ _ => False)
    (CXno : ∀ (w : World) (H : Hp) (s : Shared) (e : Value) (s' : Shared), CX w [] H s (fun _ _ _ => False) e s' → False) :
    PySem.W.WalkO q loose XP YP l.row.toRowW d [] (fun f vs => PySem.call f vs) := by
  apply Att.attach_call hn hdf
  intro w s₀ s₁ mg mb fa o pm cd doc a vs ns G Y ho hd hcd hmg hobj hints hlen hg
  obtain ⟨fd, hb, hF⟩ := F w mg fa _ (hY w _ Y) G.T.g hmg
  exact law_callG (hY w _ Y) G.T.g G.T.b G.T.builtins G.T.nolimit hg hobj hints (Nat.le_trans hlen hn2) room hF hb (fun H hO hS => want w H a ns hlen hO hS) fun H e s' => CXno w H s₁ e s'
end L2.AR
set_option Elab.async false
set_option linter.all false
set_option maxRecDepth 100000
set_option maxHeartbeats 4000000
/-! Fw3: readings by plain functions: expressions, tests, argument lists. -/
namespace L2.AR
open PySem PySem.Spec PyProof.Rows

def post {α β : Type} (G : Gh) (σ : St) (F H : Hp) (rel : Hp → β → α → Prop) (Q : β → Hp → Prop) : Out α → Prop
  | .ok a hs => ∀ F' H' v, Step G.ha F H F' H' → HandOK G.ha F' H' hs → rel F' v a → Q v H'
  | .err c d hs => ∀ F' H' dx v, Step G.ha F H F' H' → HandOK G.ha F' H' hs → H' dx = some (.xd [(G.fld c, v)]) → G.ha ≠ some dx → Dq G.K F' v d → G.W (.ref (G.cl c)) (some dx) σ H'
  | .stuck => False
def rd {α β : Type} (G : Gh) (rel : Hp → β → α → Prop) (g : Rho → M α) : St → Hp → (β → Hp → Prop) → Prop :=
  fun σ H Q => ∃ F hs ρ, Rel G F H hs ρ σ ∧ post G σ F H rel Q (g ρ hs)
def relE (G : Gh) : Hp → V → D → Prop := fun F v d => Rp G.K F G.ha v d
def relB : Hp → Bool → Bool → Prop := fun _ b c => b = c
def relA (G : Gh) : Hp → List V → List D → Prop := fun F vs ds => RpAll G.K F G.ha vs ds
abbrev tE (G : Gh) (g : Rho → M D) : TE := rd G (relE G) g
abbrev tT (G : Gh) (g : Rho → M Bool) : TT := rd G relB g
abbrev tA (G : Gh) (g : Rho → M (List D)) : TA := rd G (relA G) g
section
variable {α β γ δ : Type} {G : Gh} {σ : St} {F H F1 H1 : Hp} {hs : HS} {ρ : Rho} {rel : Hp → β → α → Prop} {rel2 : Hp → δ → γ → Prop}
theorem post.mono {Q Q' : β → Hp → Prop} (i : ∀ v H, Q v H → Q' v H) : ∀ {o : Out α}, post G σ F H rel Q o → post G σ F H rel Q' o
  | .ok _ _, p => fun F' H' v s h r => i _ _ (p F' H' v s h r)
  | .err _ _ _, p => p
  | .stuck, p => p
theorem post.after {Q : β → Hp → Prop} (s : Step G.ha F H F1 H1) : ∀ {o : Out α}, post G σ F H rel Q o → post G σ F1 H1 rel Q o
  | .ok _ _, p => fun F' H' v s' h r => p F' H' v (s.trans s' fun x e => (h x e).1) h r
  | .err _ _ _, p => fun F' H' dx v s' h => p F' H' dx v (s.trans s' fun x e => (h x e).1) h
  | .stuck, p => p
theorem rd.mono {g : Rho → M α} {Q Q' : β → Hp → Prop} (h : rd G rel g σ H Q) (i : ∀ v H, Q v H → Q' v H) : rd G rel g σ H Q' := by
  obtain ⟨F, hs, ρ, R, p⟩ := h
  exact ⟨F, hs, ρ, R, p.mono i⟩
/-- a first part, then what hangs on it -/
theorem rd_bind {g : Rho → M α} {f : α → M γ} {Q : δ → Hp → Prop} (R : Rel G F H hs ρ σ) (p : post G σ F H rel2 Q (bnd (g ρ) f hs)) :
    rd G rel g σ H fun v H1 => ∃ F1 hs1 a, Rel G F1 H1 hs1 ρ σ ∧ Step G.ha F H F1 H1 ∧ rel F1 v a ∧ post G σ F1 H1 rel2 Q (f a hs1) := by
  refine ⟨F, hs, ρ, R, ?_⟩
  unfold bnd at p
  cases e : g ρ hs with
  | ok a hs' =>
    rw [e] at p
    exact fun F' H' v s h r => ⟨F', hs', a, R.step s h, s, r, p.after s⟩
  | err c d hs' =>
    rw [e] at p
    exact p
  | stuck =>
    rw [e] at p
    exact p
/-- an end -/
theorem post_ret {Q : β → Hp → Prop} {a : α} {v : β} (R : Rel G F H hs ρ σ) (p : post G σ F H rel Q (ret a hs)) (r : rel F v a) : Q v H := p F H v (Step.refl R.sub) R.hand r
theorem post_ret' {Q : β → Hp → Prop} {a : α} {v : β} (R : Rel G F H hs ρ σ) (p : post G σ F H rel Q (ret a hs)) (s : PStep F H F1 H1) (r : rel F1 v a) : Q v H1 := p F1 H1 v s.step (R.hand.pstep s) r
end
section
variable {X : Cx} {e : Expr}
theorem peI {t t' : TE} (h : PE X e t) (i : ∀ σ H Q, t' σ H Q → t σ H Q) : PE X e t' := ⟨fun pins s σ H Q I q => h.run pins s σ H Q I (i _ _ _ q)⟩
theorem ptI {t t' : TT} (h : PT X e t) (i : ∀ σ H Q, t' σ H Q → t σ H Q) : PT X e t' := ⟨fun pins s σ H Q I q => h.run pins s σ H Q I (i _ _ _ q)⟩
theorem pwI {t t' : TT} (h : PW X e t) (i : ∀ σ H Q, t' σ H Q → t σ H Q) : PW X e t' := ⟨fun wh pins s σ H Q I q => h.run wh pins s σ H Q I (i _ _ _ q)⟩
theorem paI {es : List Expr} {t t' : TA} (h : PA X es t) (i : ∀ σ H Q, t' σ H Q → t σ H Q) : PA X es t' := ⟨fun pos pins s σ H Q I q => h.run pos pins s σ H Q I (i _ _ _ q)⟩
end

/-! ### names, constants -/
def gVar (i : Nat) (ρ : Rho) : M D :=
  match ρ[i]? with
  | some (.dat d) => ret d
  | _ => stk
section
variable {X : Cx} {G : Gh} {pos : Pos}
theorem e_var (i : Nat) {x : Str} (hN : X.N[i]? = some x := by rfl) (hv : Vis X.env.scope x := by first | exact Or.inl rfl | exact Or.inr (Or.inl rfl) | exact Or.inr (Or.inr rfl)) (hd : (x == ("__debug__" : Str)) = false := by decide)
    (hcd : (x == ("__classdict__" : Str)) = false := by decide) : PE X (.Name x pos) (tE G (gVar i)) := by
  refine peI (pe_var hN hv hd hcd) ?_
  rintro σ H Q ⟨F, hs, ρ, R, p⟩
  unfold gVar at p
  cases e : ρ[i]? with
  | none => rw [e] at p; exact p.elim
  | some s =>
    rw [e] at p
    cases s with
    | dat d =>
      obtain ⟨v, ev, r⟩ := R.slots i _ e
      exact ⟨v, ev, post_ret R p r⟩
    | _ => exact p.elim
theorem e_con {e : Expr} {v : V} {d : D} (h : PE X e (tC v)) (r : ∀ F, Dq G.K F v d) : PE X e (tE G fun _ => ret d) := by
  refine peI h ?_
  rintro σ H Q ⟨F, hs, ρ, R, p⟩
  exact post_ret R p (.inl (r F))
theorem e_int {i j} : PE X (.Constant (.int i) j pos) (tE G fun _ => ret (.int i)) := e_con pe_int fun _ => .int i
theorem e_bl {b j} : PE X (.Constant (.bool b) j pos) (tE G fun _ => ret (.bool b)) := e_con pe_bl fun _ => .bl b
theorem e_non {j} : PE X (.Constant .none j pos) (tE G fun _ => ret .none) := e_con pe_non fun _ => .non
theorem e_str {x j} : PE X (.Constant (.str x) j pos) (tE G fun _ => ret (.str x)) := e_con pe_str fun _ => .str x
/-- a module's constant that is an int -/
theorem e_glob {x : Str} {i : Int} {u : Value} (hg : Gl X x) (hm : X.mg x = some u) (r : RelV (.int i) u) (hd : (x == ("__debug__" : Str)) = false := by decide) : PE X (.Name x pos) (tE G fun _ => ret (.int i)) := e_con (pe_glob hg hm r hd) fun _ => .int i
end

/-! ### two values, one -/
def op2 (f : D → D → Option D) (x y : D) : M D := if isTok x || isTok y then stk else lift (f x y)
def R2ok (K : PySem.W.Frag) (r : R2) (f : D → D → Option D) : Prop :=
  ∀ (F H : Hp) (v w : V) (x y z : D) (Q : VK), Same F H → Dq K F v x → Dq K F w y → f x y = some z → (∀ F' H' u, PStep F H F' H' → Dq K F' u z → Q u H') → r v w H Q
section
variable {X : Cx} {G : Gh} {pos : Pos} {a b c : Expr} {ga gb gc : Rho → M D} {r r' : R2} {f f' : D → D → Option D}
theorem op2_post {σ : St} {F H : Hp} {hs : HS} {ρ : Rho} {v w : V} {x y : D} {Q : VK} (R : Rel G F H hs ρ σ) (hv : Rp G.K F G.ha v x) (hw : Rp G.K F G.ha w y) (p : post G σ F H (relE G) Q (op2 f x y hs)) (hf : R2ok G.K r f) : r v w H Q := by
  unfold op2 at p
  split at p
  · exact p.elim
  · rename_i ht
    simp only [Bool.or_eq_true, not_or, Bool.not_eq_true] at ht
    cases e : f x y with
    | none => rw [e] at p; exact p.elim
    | some z =>
      rw [e] at p
      exact hf F H v w x y z Q R.sub (hv.dp ht.1) (hw.dp ht.2) e fun F' H' u s d => post_ret' R p s (.inl d)
theorem two_vals {σ : St} {H : Hp} {Q : VK} {k : D → D → M D} (h : tE G (fun ρ => bnd (ga ρ) fun x => bnd (gb ρ) fun y => k x y) σ H Q) :
    tE G ga σ H fun v H1 => tE G gb σ H1 fun w H2 => ∃ F hs ρ x y, Rel G F H2 hs ρ σ ∧ Rp G.K F G.ha v x ∧ Rp G.K F G.ha w y ∧ post G σ F H2 (relE G) Q (k x y hs) := by
  obtain ⟨F, hs, ρ, R, p⟩ := h
  refine (rd_bind R p).mono ?_
  rintro v H1 ⟨F1, hs1, x, R1, s1, r1, p1⟩
  refine (rd_bind R1 p1).mono ?_
  rintro w H2 ⟨F2, hs2, y, R2, s2, r2, p2⟩
  exact ⟨F2, hs2, ρ, x, y, R2, r1.same s2.ff, r2, p2⟩
theorem e_op {op : Operator} (ho : OpR X (binaryOp op) r) (hf : R2ok G.K r f) (ha : PE X a (tE G ga)) (hb : PE X b (tE G gb)) :
    PE X (.BinOp a op b pos) (tE G fun ρ => bnd (ga ρ) fun x => bnd (gb ρ) fun y => op2 f x y) := by
  refine peI (pe_op ho ha hb) fun σ H Q h => ?_
  refine (two_vals h).mono fun v H1 h1 => h1.mono ?_
  rintro w H2 ⟨F, hs, ρ, x, y, R, r1, r2, p⟩
  exact op2_post R r1 r2 p hf
theorem e_cmp {op : CmpOp} (ho : OpR X (compareOp op) r) (hf : R2ok G.K r f) (ha : PE X a (tE G ga)) (hb : PE X b (tE G gb)) (hm : behindInMarks op b = false := by first | exact nomark _ | rfl) :
    PE X (.Compare a [op] [b] pos) (tE G fun ρ => bnd (ga ρ) fun x => bnd (gb ρ) fun y => op2 f x y) := by
  refine peI (pe_cmpR ho ha hb hm) fun σ H Q h => ?_
  refine (two_vals h).mono fun v H1 h1 => h1.mono ?_
  rintro w H2 ⟨F, hs, ρ, x, y, R, r1, r2, p⟩
  exact op2_post R r1 r2 p hf
theorem e_ix (ho : IxR X r) (hf : R2ok G.K r f) (ha : PE X a (tE G ga)) (hb : PE X b (tE G gb)) (hs : PlainIx b := by intro _ _; rfl) :
    PE X (.Subscript a b pos) (tE G fun ρ => bnd (ga ρ) fun x => bnd (gb ρ) fun y => op2 f x y) := by
  refine peI (pe_ix ho ha hb hs) fun σ H Q h => ?_
  refine (two_vals h).mono fun v H1 h1 => h1.mono ?_
  rintro w H2 ⟨F, hs, ρ, x, y, R, r1, r2, p⟩
  exact op2_post R r1 r2 p hf
theorem OpR.or {F : Value → Value → Sem Value} (h : OpR X F r) (h' : OpR X F r') : OpR X F (fun x y H Q => r x y H Q ∨ r' x y H Q) :=
  fun pins s σ H x y u v Q I rx ry q => q.elim (h pins s σ H x y u v Q I rx ry) (h' pins s σ H x y u v Q I rx ry)
end

/-! ### argument lists, displays, built-in calls -/
section
variable {X : Cx} {G : Gh} {pos : Pos} {e : Expr} {es : List Expr} {g : Rho → M D} {gs : Rho → M (List D)}
theorem a_nil : PA X [] (tA G fun _ => ret []) := by
  refine paI pa_nil ?_
  rintro σ H Q ⟨F, hs, ρ, R, p⟩
  exact post_ret R p .nil
theorem a_cons (he : PE X e (tE G g)) (hr : PA X es (tA G gs)) (hs : starEach (e :: es) X.env = (false, eval e X.env) :: starEach es X.env := by rfl) :
    PA X (e :: es) (tA G fun ρ => bnd (g ρ) fun d => bnd (gs ρ) fun ds => ret (d :: ds)) := by
  refine paI (pa_cons he hr hs) ?_
  rintro σ H Q ⟨F, hs, ρ, R, p⟩
  refine (rd_bind R p).mono ?_
  rintro v H1 ⟨F1, hs1, x, R1, s1, r1, p1⟩
  refine (rd_bind R1 p1).mono ?_
  rintro vs H2 ⟨F2, hs2, ds, R2, s2, r2, p2⟩
  exact post_ret R2 p2 (.cons (r1.same s2.ff) r2)
def opA (f : List D → Option D) (ds : List D) : M D := if ds.any isTok then stk else lift (f ds)
def RAok (K : PySem.W.Frag) (r : List V → Hp → VK → Prop) (f : List D → Option D) : Prop :=
  ∀ (F H : Hp) (vs : List V) (ds : List D) (z : D) (Q : VK), Same F H → DqAll K F vs ds → f ds = some z → (∀ F' H' u, PStep F H F' H' → Dq K F' u z → Q u H') → r vs H Q
theorem opA_post {f : List D → Option D} {r : List V → Hp → VK → Prop} {σ : St} {F H : Hp} {hs : HS} {ρ : Rho} {vs : List V} {ds : List D} {Q : VK} (R : Rel G F H hs ρ σ) (hv : RpAll G.K F G.ha vs ds) (p : post G σ F H (relE G) Q (opA f ds hs)) (hf : RAok G.K r f) : r vs H Q := by
  unfold opA at p
  split at p
  · exact p.elim
  · rename_i ht
    rw [Bool.not_eq_true] at ht
    cases q : f ds with
    | none => rw [q] at p; exact p.elim
    | some z =>
      rw [q] at p
      exact hf F H vs ds z Q R.sub (hv.dp ht) q fun F' H' u s d => post_ret' R p s (.inl d)
theorem args_then {t : TA} {σ : St} {H : Hp} {Q : VK} {k : List D → M D} (h : tE G (fun ρ => bnd (gs ρ) fun ds => k ds) σ H Q) :
    tA G gs σ H fun vs H1 => ∃ F hs ρ ds, Rel G F H1 hs ρ σ ∧ RpAll G.K F G.ha vs ds ∧ post G σ F H1 (relE G) Q (k ds hs) := by
  obtain ⟨F, hs, ρ, R, p⟩ := h
  refine (rd_bind R p).mono ?_
  rintro vs H1 ⟨F1, hs1, ds, R1, s1, r1, p1⟩
  exact ⟨F1, hs1, ρ, ds, R1, r1, p1⟩
def mkTup (ds : List D) : Option D := if ds.length ≤ 1000000 then some (.tuple ds) else none
def mkLst (ds : List D) : Option D := if ds.length ≤ 1000000 then some (.list ds) else none
theorem line_of {n : Nat} (h : n ≤ 1000000) : n < sizeLine := Nat.lt_of_le_of_lt h (by rw [sizeLine_eq]; decide)
theorem mkTup_ok {K : PySem.W.Frag} : RAok K (fun xs H Q => xs.length ≤ sizeLine ∧ ∀ p, H p = none → Q (.ref p) (upd H p (.tup xs))) mkTup := by
  intro F H vs ds z Q sb hd e q
  unfold mkTup at e
  split at e
  · rename_i hl
    cases e
    refine ⟨by rw [dpAll_len hd]; exact Nat.le_of_lt (line_of hl), fun p np => q _ _ _ (PStep.alloc sb np) ?_⟩
    exact .tup (SqT.of upd_same) (dpAll_same (PStep.alloc sb np (o := .tup vs)).ff _ _ hd)
  · cases e
theorem mkLst_ok {K : PySem.W.Frag} : RAok K (fun xs H Q => xs.length ≤ sizeLine ∧ ∀ p, H p = none → Q (.ref p) (upd H p (.lst xs))) mkLst := by
  intro F H vs ds z Q sb hd e q
  unfold mkLst at e
  split at e
  · rename_i hl
    cases e
    refine ⟨by rw [dpAll_len hd]; exact Nat.le_of_lt (line_of hl), fun p np => q _ _ _ (PStep.alloc sb np) ?_⟩
    exact .lst (upd_same) (dpAll_same (PStep.alloc sb np (o := .lst vs)).ff _ _ hd)
  · cases e
theorem e_tup {x1} (h : PA X es (tA G gs)) : PE X (.Tuple es x1 pos) (tE G fun ρ => bnd (gs ρ) (opA mkTup)) := by
  refine peI (pe_tup h) fun σ H Q w => ?_
  refine (args_then (t := tA G gs) w).mono ?_
  rintro vs H1 ⟨F, hs, ρ, ds, R, r, p⟩
  exact opA_post R r p mkTup_ok
theorem e_lst (h : PA X es (tA G gs)) : PE X (.List es pos) (tE G fun ρ => bnd (gs ρ) (opA mkLst)) := by
  refine peI (pe_lst h) fun σ H Q w => ?_
  refine (args_then (t := tA G gs) w).mono ?_
  rintro vs H1 ⟨F, hs, ρ, ds, R, r, p⟩
  exact opA_post R r p mkLst_ok
theorem e_callB {x : Str} {id : String} {p : Pos} {r : List V → Hp → VK → Prop} {f : List D → Option D} (hc : CallR X (.builtin id) r) (hf : RAok G.K r f) (hg : Gl X x) (hm : X.mg x = none) (hv : bootBuiltins x = some (.builtin id)) (ha : PA X (e :: es) (tA G gs)) (hn : x ≠ "__name__" := by decide) (hdb : (x == ("__debug__" : Str)) = false := by decide)
    (he : starEach (e :: es) X.env = (false, eval e X.env) :: starEach es X.env := by rfl) (hpl : (backTo pos (starEach es X.env)).any (·.1) = false := by rfl) : PE X (.Call (.Name x p) (e :: es) [] pos) (tE G fun ρ => bnd (gs ρ) (opA f)) := by
  refine peI (pe_callB hc hg hm hv ha hn hdb he hpl) fun σ H Q w => ?_
  refine (args_then (t := tA G gs) w).mono ?_
  rintro vs H1 ⟨F, hs, ρ, ds, R, r, p⟩
  exact opA_post R r p hf
theorem e_callTy {x : Str} {T : String} {p : Pos} {r : List V → Hp → VK → Prop} {f : List D → Option D} (hc : CallR X (.type T) r) (hf : RAok G.K r f) (hg : Gl X x) (hm : X.mg x = none) (hv : bootBuiltins x = some (.type T)) (ha : PA X (e :: es) (tA G gs)) (hn : x ≠ "__name__" := by decide) (hdb : (x == ("__debug__" : Str)) = false := by decide)
    (he : starEach (e :: es) X.env = (false, eval e X.env) :: starEach es X.env := by rfl) (hpl : (backTo pos (starEach es X.env)).any (·.1) = false := by rfl) : PE X (.Call (.Name x p) (e :: es) [] pos) (tE G fun ρ => bnd (gs ρ) (opA f)) := by
  refine peI (pe_callTy hc hg hm hv ha hn hdb he hpl) fun σ H Q w => ?_
  refine (args_then (t := tA G gs) w).mono ?_
  rintro vs H1 ⟨F, hs, ρ, ds, R, r, p⟩
  exact opA_post R r p hf
end

/-! ### a def of the text -/
/-- a def that does as m says: args are data (or the hand), what stood stands but for the hand -/
def spM (K : PySem.W.Frag) (cl : Nat → Addr) (fld : Nat → Str) (m : List D → M D) : Sp := fun vs H Q E => ∃ ha F hs ds, Same F H ∧ HandOK ha F H hs ∧ RpAll K F ha vs ds ∧
  match m ds hs with
  | .ok d hs' => ∀ F' H' v, Step ha F H F' H' → HandOK ha F' H' hs' → Rp K F' ha v d → Q v H'
  | .err c d hs' => ∀ F' H' dx v, Step ha F H F' H' → HandOK ha F' H' hs' → H' dx = some (.xd [(fld c, v)]) → ha ≠ some dx → Dq K F' v d → E (.ref (cl c)) (some dx) H'
  | .stuck => False
section
variable {X : Cx} {G : Gh} {pos p : Pos} {x : Str} {e : Expr} {es : List Expr} {gs : Rho → M (List D)} {m : List D → M D} {k : Nat} {f : Addr} {fd : FuncData} {ps : List Str}
theorem call_post {σ : St} {F H : Hp} {hs : HS} {ρ : Rho} {vs : List V} {ds : List D} {Q : VK} (R : Rel G F H hs ρ σ) (r : RpAll G.K F G.ha vs ds) (q : post G σ F H (relE G) Q (m ds hs)) : spM G.K G.cl G.fld m vs H Q (WE G.W σ) := by
  refine ⟨G.ha, F, hs, ds, R.sub, R.hand, r, ?_⟩
  cases z : m ds hs with
  | ok d hs' => rw [z] at q; exact q
  | err c d hs' => rw [z] at q; exact q
  | stuck => rw [z] at q; exact q
theorem e_call (g : Quiet X.A) (tk : Takes X G.W) (F : FnG X.prog X.w X.K X.mg X.base (L2.CX X.prog X.w) k f fd ps (spM G.K G.cl G.fld m)) (hr : Room k X.A) (hg : Gl X x) (hm : X.mg x = some (.ref f)) (hk : PySem.W.keepIn X.K (.ref f) = true) (hb : Binds X.K fd ps [])
    (ha : PA X (e :: es) (tA G gs)) (hdb : (x == ("__debug__" : Str)) = false := by decide) (he : starEach (e :: es) X.env = (false, eval e X.env) :: starEach es X.env := by rfl) (hpl : (backTo pos (starEach es X.env)).any (·.1) = false := by rfl) :
    PE X (.Call (.Name x p) (e :: es) [] pos) (tE G fun ρ => bnd (gs ρ) m) := by
  refine peI (pe_callG g F hr hg hm hk hb (fun σ => passAt tk σ) ha hdb he hpl) fun σ H Q w => ?_
  refine (args_then (t := tA G gs) w).mono ?_
  rintro vs H1 ⟨F, hs, ρ, ds, R, r, q⟩
  exact call_post R r q
theorem e_call0 (g : Quiet X.A) (tk : Takes X G.W) (F : FnG X.prog X.w X.K X.mg X.base (L2.CX X.prog X.w) k f fd ps (spM G.K G.cl G.fld m)) (hr : Room k X.A) (hg : Gl X x) (hm : X.mg x = some (.ref f)) (hk : PySem.W.keepIn X.K (.ref f) = true) (hb : Binds X.K fd ps [])
    (hdb : (x == ("__debug__" : Str)) = false := by decide) :
    PE X (.Call (.Name x p) [] [] pos) (tE G fun ρ => m []) := by
  refine peI (pe_callG0 g F hr hg hm hk hb (fun σ => passAt tk σ) hdb) fun σ H Q w => ?_
  obtain ⟨F, hs, ρ, R, q⟩ := w
  exact call_post R .nil q
end

/-! ### tests, and, or, not -/
def asB : D → M Bool
  | .bool b => ret b
  | _ => stk
section
variable {X : Cx} {G : Gh} {pos : Pos} {e a b : Expr} {rest : List Expr} {g ga gb : Rho → M D} {u v : Rho → M Bool}
theorem bool_of {F : Hp} {x : V} {c : Bool} (h : Rp G.K F G.ha x (.bool c)) : x = .bl c := by
  cases h.dp rfl
  rfl
theorem asB_post {α β : Type} {rel : Hp → β → α → Prop} {Q : β → Hp → Prop} {σ : St} {F H : Hp} {hs : HS} {ρ : Rho} {x : V} {d : D} {k : Bool → M α} (R : Rel G F H hs ρ σ) (hv : Rp G.K F G.ha x d) (p : post G σ F H rel Q (bnd (asB d) k hs)) : ∃ c, x = .bl c ∧ post G σ F H rel Q (k c hs) := by
  cases d with
  | bool c => exact ⟨c, bool_of hv, p⟩
  | _ => exact p.elim
theorem bnd_ret_right {α : Type} (x : M α) : bnd x ret = x := by
  funext h
  unfold bnd
  cases x h <;> rfl
theorem t_val (h : PE X e (tE G g)) (he : ∀ whole, isTrue e X.env whole = (do let v ← whole; standAt e.pos; holding [v] (truthy v)) := by intro _; rfl) : PT X e (tT G fun ρ => bnd (g ρ) asB) := by
  refine ptI (pt_val h he) ?_
  rintro σ H Q ⟨F, hs, ρ, R, p⟩
  refine (rd_bind R p).mono ?_
  rintro x H1 ⟨F1, hs1, d, R1, s1, r1, p1⟩
  rw [show asB d = bnd (asB d) ret from (bnd_ret_right _).symm] at p1
  obtain ⟨c, ex, p2⟩ := asB_post R1 r1 p1
  exact ⟨c, ex, post_ret R1 p2 rfl⟩
theorem t_not (h : PT X e (tT G u)) : PT X (.UnaryOp .Not e pos) (tT G fun ρ => bnd (u ρ) fun c => ret (!c)) := by
  refine ptI (pt_not h) ?_
  rintro σ H Q ⟨F, hs, ρ, R, p⟩
  refine (rd_bind R p).mono ?_
  rintro x H1 ⟨F1, hs1, c, R1, s1, rfl, p1⟩
  exact post_ret R1 p1 rfl
theorem w_and1 (h : PT X a (tT G u)) : PW X (.BoolOp .And [a] pos) (tT G u) := pw_and1 h
theorem w_or1 (h : PT X a (tT G u)) : PW X (.BoolOp .Or [a] pos) (tT G u) := pw_or1 h
theorem w_and (h : PT X a (tT G u)) (h2 : PW X (.BoolOp .And (b :: rest) pos) (tT G v)) : PW X (.BoolOp .And (a :: b :: rest) pos) (tT G fun ρ => bnd (u ρ) fun c => if c = true then v ρ else ret false) := by
  refine pwI (pw_and h h2) ?_
  rintro σ H Q ⟨F, hs, ρ, R, p⟩
  refine (rd_bind R p).mono ?_
  rintro x H1 ⟨F1, hs1, c, R1, s1, rfl, p1⟩
  cases x with
  | true => exact iteT ⟨F1, hs1, ρ, R1, p1⟩
  | false => exact iteF (post_ret R1 p1 rfl)
theorem w_or (h : PT X a (tT G u)) (h2 : PW X (.BoolOp .Or (b :: rest) pos) (tT G v)) : PW X (.BoolOp .Or (a :: b :: rest) pos) (tT G fun ρ => bnd (u ρ) fun c => if c = true then ret true else v ρ) := by
  refine pwI (pw_or h h2) ?_
  rintro σ H Q ⟨F, hs, ρ, R, p⟩
  refine (rd_bind R p).mono ?_
  rintro x H1 ⟨F1, hs1, c, R1, s1, rfl, p1⟩
  cases x with
  | true => exact iteT (post_ret R1 p1 rfl)
  | false => exact iteF ⟨F1, hs1, ρ, R1, p1⟩
/-- as values -/
theorem e_one {op} (h : PE X a (tE G ga)) : PE X (.BoolOp op [a] pos) (tE G ga) := pe_one h
theorem e_and (h : PE X a (tE G ga)) (h2 : PE X (.BoolOp .And (b :: rest) pos) (tE G gb)) : PE X (.BoolOp .And (a :: b :: rest) pos) (tE G fun ρ => bnd (ga ρ) fun x => bnd (asB x) fun c => if c = true then gb ρ else ret (.bool false)) := by
  refine peI (pe_and h h2) ?_
  rintro σ H Q ⟨F, hs, ρ, R, p⟩
  refine (rd_bind R p).mono ?_
  rintro x H1 ⟨F1, hs1, d, R1, s1, r1, p1⟩
  obtain ⟨c, ex, p2⟩ := asB_post R1 r1 p1
  refine ⟨c, ex, ?_⟩
  cases c with
  | true => exact iteT ⟨F1, hs1, ρ, R1, p2⟩
  | false => exact iteF (post_ret R1 p2 (.inl (.bl false)))
theorem e_or (h : PE X a (tE G ga)) (h2 : PE X (.BoolOp .Or (b :: rest) pos) (tE G gb)) : PE X (.BoolOp .Or (a :: b :: rest) pos) (tE G fun ρ => bnd (ga ρ) fun x => bnd (asB x) fun c => if c = true then ret (.bool true) else gb ρ) := by
  refine peI (pe_or h h2) ?_
  rintro σ H Q ⟨F, hs, ρ, R, p⟩
  refine (rd_bind R p).mono ?_
  rintro x H1 ⟨F1, hs1, d, R1, s1, r1, p1⟩
  obtain ⟨c, ex, p2⟩ := asB_post R1 r1 p1
  refine ⟨c, ex, ?_⟩
  cases c with
  | true => exact iteT (post_ret R1 p2 (.inl (.bl true)))
  | false => exact iteF ⟨F1, hs1, ρ, R1, p2⟩
theorem e_not (h : PE X a (tE G ga)) : PE X (.UnaryOp .Not a pos) (tE G fun ρ => bnd (ga ρ) fun x => bnd (asB x) fun c => ret (.bool (!c))) := by
  refine peI (pe_not h) ?_
  rintro σ H Q ⟨F, hs, ρ, R, p⟩
  refine (rd_bind R p).mono ?_
  rintro x H1 ⟨F1, hs1, d, R1, s1, r1, p1⟩
  obtain ⟨c, ex, p2⟩ := asB_post R1 r1 p1
  exact ⟨c, ex, post_ret R1 p2 (.inl (.bl _))⟩
/-- -e -/
theorem e_neg (h : PE X a (tE G ga)) : PE X (.UnaryOp .USub a pos) (tE G fun ρ => bnd (ga ρ) fun x => match x with | .int i => ret (.int (-i)) | _ => stk) := by
  refine peI (pe_un un_neg h) ?_
  rintro σ H Q ⟨F, hs, ρ, R, p⟩
  refine (rd_bind R p).mono ?_
  rintro x H1 ⟨F1, hs1, d, R1, s1, r1, p1⟩
  cases d with
  | int i =>
    cases r1.dp rfl
    exact ⟨i, rfl, post_ret R1 p1 (.inl (.int _))⟩
  | _ => exact p1.elim
theorem e_ifx {c : Expr} (hc : PT X c (tT G u)) (ha : PE X a (tE G ga)) (hb : PE X b (tE G gb)) : PE X (.IfExp c a b pos) (tE G fun ρ => bnd (u ρ) fun z => if z = true then ga ρ else gb ρ) := by
  refine peI (pe_ifExp hc ha hb) ?_
  rintro σ H Q ⟨F, hs, ρ, R, p⟩
  refine (rd_bind R p).mono ?_
  rintro x H1 ⟨F1, hs1, z, R1, s1, rfl, p1⟩
  cases x with
  | true => exact iteT ⟨F1, hs1, ρ, R1, p1⟩
  | false => exact iteF ⟨F1, hs1, ρ, R1, p1⟩
end
end L2.AR
set_option Elab.async false
set_option linter.all false
set_option maxRecDepth 100000
set_option maxHeartbeats 4000000
/-! Fw4: readings of statements, loops and comprehensions by plain functions. -/
namespace L2.AR
open PySem PySem.Spec PyProof.Rows

inductive Fl where
  | nx
  | rt (d : D)
  | bk
  | ct
inductive OutS where
  | ok (f : Fl) (ρ : Rho) (h : HS)
  | err (c : Nat) (d : D) (ρ : Rho) (h : HS)
  | stuck
abbrev MS := Rho → HS → OutS
def postS (G : Gh) (F₀ : Hp) (E : Ends) : OutS → Prop
  | .ok .nx ρ hs => ∀ F H σ, Same F₀ F → Rel G F H hs ρ σ → E.nx σ H
  | .ok (.rt d) ρ hs => ∀ F H σ v, Same F₀ F → Rel G F H hs ρ σ → Rp G.K F G.ha v d → E.rt v H
  | .ok .bk ρ hs => ∀ F H σ, Same F₀ F → Rel G F H hs ρ σ → E.bk σ H
  | .ok .ct ρ hs => ∀ F H σ, Same F₀ F → Rel G F H hs ρ σ → E.ct σ H
  | .err c d ρ hs => ∀ F H σ dx v, Same F₀ F → Rel G F H hs ρ σ → H dx = some (.xd [(G.fld c, v)]) → G.ha ≠ some dx → Dq G.K F v d → G.W (.ref (G.cl c)) (some dx) σ H
  | .stuck => False
def tS (G : Gh) (s : MS) : TS := fun E σ H => ∃ F hs ρ, Rel G F H hs ρ σ ∧ postS G F E (s ρ hs)
theorem postS.after {G : Gh} {F F1 : Hp} {E : Ends} (s : Same F F1) : ∀ {o : OutS}, postS G F E o → postS G F1 E o
  | .ok .nx _ _, p => fun F' H σ s' => p F' H σ (s.trans s')
  | .ok (.rt _) _ _, p => fun F' H σ v s' => p F' H σ v (s.trans s')
  | .ok .bk _ _, p => fun F' H σ s' => p F' H σ (s.trans s')
  | .ok .ct _ _, p => fun F' H σ s' => p F' H σ (s.trans s')
  | .err _ _ _ _, p => fun F' H σ dx v s' => p F' H σ dx v (s.trans s')
  | .stuck, p => p

/-! ### the parts -/
def sSkip : MS := fun ρ h => .ok .nx ρ h
def sBrk : MS := fun ρ h => .ok .bk ρ h
def sCnt : MS := fun ρ h => .ok .ct ρ h
def sSeq (s t : MS) : MS := fun ρ h =>
  match s ρ h with
  | .ok .nx ρ' h' => t ρ' h'
  | o => o
def sExp {α : Type} (g : Rho → M α) (k : α → MS) : MS := fun ρ h =>
  match g ρ h with
  | .ok a h' => k a ρ h'
  | .err c d h' => .err c d ρ h'
  | .stuck => .stuck
def sPut (i : Nat) (d : D) : MS := fun ρ h => .ok .nx (ρ.set i (.dat d)) h
def sSet (i : Nat) (g : Rho → M D) : MS := sExp g (sPut i)
def sRet (g : Rho → M D) : MS := sExp g fun d ρ h => .ok (.rt d) ρ h
def sDo (g : Rho → M D) : MS := sExp g fun _ => sSkip
def sIf (c : Rho → M Bool) (s t : MS) : MS := sExp c fun b => if b = true then s else t
/-- a target -/
abbrev Tgt := D → Rho → Option Rho
def tgN (i : Nat) : Tgt := fun d ρ => some (ρ.set i (.dat d))
def tgAll : List Tgt → List D → Rho → Option Rho
  | [], [], ρ => some ρ
  | t :: ts, d :: ds, ρ => (t d ρ).bind (tgAll ts ds)
  | _, _, _ => none
def tgT (ts : List Tgt) : Tgt := fun d ρ =>
  match d with
  | .tuple ds => tgAll ts ds ρ
  | _ => none
def sTo (t : Tgt) (d : D) : MS := fun ρ h =>
  match t d ρ with
  | some ρ' => .ok .nx ρ' h
  | none => .stuck
def sAsg (g : Rho → M D) (t : Tgt) : MS := sExp g (sTo t)
/-- x, y = e1, e2 -/
def sPar (i j : Nat) (gs : Rho → M (List D)) : MS := sExp gs fun ds ρ h =>
  match ds with
  | [x, y] => .ok .nx ((ρ.set i (.dat x)).set j (.dat y)) h
  | _ => .stuck
/-- x = [] -/
def sNew (i : Nat) : MS := fun ρ h => .ok .nx (ρ.set i (.own [])) h
/-- x.append(e) -/
def sApp (i : Nat) (g : Rho → M D) : MS := fun ρ h =>
  match ρ[i]? with
  | some (.own ds) => sExp g (fun d ρ h => if isTok d = false ∧ ds.length < 1000000 then .ok .nx (ρ.set i (.own (ds ++ [d]))) h else .stuck) ρ h
  | _ => .stuck
/-- from here on the list in slot i is changed no more -/
def sFrz (i : Nat) : MS := fun ρ h =>
  match ρ[i]? with
  | some (.own ds) => .ok .nx (ρ.set i (.dat (.list ds))) h
  | some (.dat _) => .ok .nx ρ h
  | _ => .stuck
def itemsOf : D → Option (List D)
  | .list ds => some ds
  | .tuple ds => some ds
  | _ => none
def loopL (t : Tgt) (body : MS) : List D → MS
  | [] => sSkip
  | d :: ds => fun ρ h =>
    match t d ρ with
    | none => .stuck
    | some ρ1 =>
      match body ρ1 h with
      | .ok .nx ρ2 h2 => loopL t body ds ρ2 h2
      | .ok .ct ρ2 h2 => loopL t body ds ρ2 h2
      | .ok .bk ρ2 h2 => .ok .nx ρ2 h2
      | o => o
def orStuck {α : Type} (k : α → MS) : Option α → MS
  | some a => k a
  | none => fun _ _ => .stuck
def sFor (g : Rho → M D) (t : Tgt) (body : MS) : MS := sExp g fun d => orStuck (loopL t body) (itemsOf d)
def upTo (lo : Int) (n : Nat) : List D := (List.range n).map fun (k : Nat) => .int (lo + k)
def rangeOf : List D → Option (List D)
  | [.int j] => if -(2 ^ 62) ≤ j ∧ j < 2 ^ 62 then some (upTo 0 j.toNat) else none
  | [.int i, .int j] => if -(2 ^ 62) ≤ i ∧ i < 2 ^ 62 ∧ -(2 ^ 62) ≤ j ∧ j < 2 ^ 62 then some (upTo i (j - i).toNat) else none
  | _ => none
def sForR (gs : Rho → M (List D)) (t : Tgt) (body : MS) : MS := sExp gs fun ds => orStuck (loopL t body) (rangeOf ds)
/-- while, at most n turns -/
def loopW (c : Rho → M Bool) (body : MS) : Nat → MS
  | 0 => fun _ _ => .stuck
  | n + 1 => sExp c fun b ρ h => if b = true then
      (match body ρ h with
      | .ok .nx ρ2 h2 => loopW c body n ρ2 h2
      | .ok .ct ρ2 h2 => loopW c body n ρ2 h2
      | .ok .bk ρ2 h2 => .ok .nx ρ2 h2
      | o => o) else .ok .nx ρ h
/-! comprehensions -/
def nerr {α : Type} (x : M α) : M α := fun h =>
  match x h with
  | .err _ _ _ => .stuck
  | o => o
def wipeR (ρ : Rho) : List Nat → Rho
  | [] => ρ
  | v :: vs => (wipeR ρ vs).set v .no
def comp1 (t : Tgt) (c : Rho → M Bool) (g : Rho → M D) (ρ : Rho) : List D → List D → M D
  | [], acc => ret (.list acc)
  | d :: ds, acc =>
    match t d ρ with
    | none => stk
    | some ρ1 => bnd (nerr (c ρ1)) fun b => if b = true then
        bnd (nerr (g ρ1)) fun y => if isTok y = false ∧ acc.length < 1000000 then comp1 t c g ρ ds (acc ++ [y]) else stk
      else comp1 t c g ρ ds acc
def orStk {α β : Type} (k : α → M β) : Option α → M β
  | some a => k a
  | none => stk
def gComp (vs : List Nat) (gi : Rho → M D) (t : Tgt) (c : Rho → M Bool) (g : Rho → M D) (ρ : Rho) : M D := bnd (gi ρ) fun d => orStk (fun ds => comp1 t c g (wipeR ρ vs) ds []) (itemsOf d)
def gCompR (vs : List Nat) (gi : Rho → M (List D)) (t : Tgt) (c : Rho → M Bool) (g : Rho → M D) (ρ : Rho) : M D := bnd (gi ρ) fun d => orStk (fun ds => comp1 t c g (wipeR ρ vs) ds []) (rangeOf d)
def sRaise (c : Nat) (g : Rho → M D) : MS := sExp g fun d ρ h => .err c d ρ h

/-! ### what keeps the relation -/
section
variable {G : Gh} {F H : Hp} {hs : HS} {ρ : Rho} {σ : St}
theorem Rel.put (R : Rel G F H hs ρ σ) {v : V} {d : D} (i : Nat) (r : Rp G.K F G.ha v d) : Rel G F H hs (ρ.set i (.dat d)) (σ.set i (some v)) := by
  refine ⟨R.sub, R.hand, R.base, R.f0, R.new0, by simpa using R.len, fun j s e => ?_, fun j k x y a hjk e1 e2 o1 o2 e3 => ?_⟩
  · rw [List.getElem?_set] at e ⊢
    by_cases hij : i = j
    · subst hij
      rw [if_pos rfl] at e ⊢
      split at e
      · rename_i hl
        cases e
        rw [if_pos (by rw [R.len]; exact hl)]
        exact ⟨v, rfl, r⟩
      · cases e
    · rw [if_neg hij] at e ⊢
      exact R.slots j s e
  · rw [List.getElem?_set] at e1 e2 e3 ⊢
    by_cases hj : i = j
    · rw [if_pos hj] at e1
      split at e1 <;> cases e1 <;> cases o1
    · by_cases hk : i = k
      · rw [if_pos hk] at e2
        split at e2 <;> cases e2 <;> cases o2
      · rw [if_neg hj] at e1 e3
        rw [if_neg hk] at e2 ⊢
        exact R.apart j k x y a hjk e1 e2 o1 o2 e3
/-- a slot is forgotten -/
theorem Rel.gone (R : Rel G F H hs ρ σ) (i : Nat) : Rel G F H hs (ρ.set i .no) (σ.set i none) := by
  refine ⟨R.sub, R.hand, R.base, R.f0, R.new0, by simpa using R.len, fun j s e => ?_, fun j k x y a hjk e1 e2 o1 o2 e3 => ?_⟩
  · rw [List.getElem?_set] at e ⊢
    by_cases hij : i = j
    · subst hij
      rw [if_pos rfl] at e
      split at e
      · cases e
        trivial
      · cases e
    · rw [if_neg hij] at e ⊢
      exact R.slots j s e
  · rw [List.getElem?_set] at e1 e2 e3 ⊢
    by_cases hj : i = j
    · rw [if_pos hj] at e1
      split at e1 <;> cases e1 <;> cases o1
    · by_cases hk : i = k
      · rw [if_pos hk] at e2
        split at e2 <;> cases e2 <;> cases o2
      · rw [if_neg hj] at e1 e3
        rw [if_neg hk] at e2 ⊢
        exact R.apart j k x y a hjk e1 e2 o1 o2 e3
/-- a fresh list that is to be this frame's own -/
theorem Rel.fresh (R : Rel G F H hs ρ σ) {p : Addr} (np : H p = none) (i : Nat) : Rel G F (upd H p (.lst [])) hs (ρ.set i (.own [])) (σ.set i (some (.ref p))) := by
  have R' := R.pstep (PStep.garb R.sub np (o := .lst []))
  have fp : F p = none := R.sub.free np
  have hp : G.ha ≠ some p := fun e => by
    obtain ⟨_, r, _, h2, _⟩ := R.hand p e
    rw [np] at h2; cases h2
  have h0 : G.H0 p = none := by
    cases q : G.H0 p with
    | none => rfl
    | some o =>
      have := R.base p o q hp
      rw [np] at this; cases this
  refine ⟨R'.sub, R'.hand, R'.base, R'.f0, R'.new0, by simpa using R.len, fun j s e => ?_, fun j k x y a hjk e1 e2 o1 o2 e3 => ?_⟩
  · rw [List.getElem?_set] at e ⊢
    by_cases hij : i = j
    · subst hij
      rw [if_pos rfl] at e ⊢
      split at e
      · rename_i hl
        cases e
        rw [if_pos (by rw [R.len]; exact hl)]
        exact ⟨p, [], rfl, upd_same, fp, h0, hp, .nil⟩
      · cases e
    · rw [if_neg hij] at e ⊢
      exact R'.slots j s e
  · have old : ∀ (j : Nat) (x : Sl) (a : Addr), ρ[j]? = some x → isOwn x = true → σ[j]? = some (some (.ref a)) → a ≠ p := by
      rintro j x a e o e' rfl
      obtain ⟨b, vs, eb, hb, _⟩ := (R.slots j _ e).at o
      rw [e'] at eb
      cases eb
      rw [np] at hb; cases hb
    rw [List.getElem?_set] at e1 e2 e3 ⊢
    by_cases hj : i = j
    · rw [if_pos hj] at e1 e3
      have hk : ¬ i = k := fun z => hjk (hj.symm.trans z)
      rw [if_neg hk] at e2 ⊢
      split at e3
      · cases e3
        exact fun z => old k y p e2 o2 z rfl
      · cases e3
    · rw [if_neg hj] at e1 e3
      by_cases hk : i = k
      · rw [if_pos hk] at e2 ⊢
        split
        · intro z
          cases z
          exact old j x _ e1 o1 e3 rfl
        · intro z; cases z
      · rw [if_neg hk] at e2 ⊢
        exact R.apart j k x y a hjk e1 e2 o1 o2 e3
/-- an own list grows -/
theorem Rel.app (R : Rel G F H hs ρ σ) {i : Nat} {a : Addr} {ds : List D} {vs : List V} {v : V} {d : D} (e : ρ[i]? = some (.own ds)) (es : σ[i]? = some (some (.ref a))) (ha : H a = some (.lst vs)) (r : Dq G.K F v d) :
    Rel G F (upd H a (.lst (vs ++ [v]))) hs (ρ.set i (.own (ds ++ [d]))) σ := by
  obtain ⟨b, ws, eb, h1, h2, h3, h4, h5⟩ := R.slots i _ e
  rw [es] at eb
  cases eb
  rw [ha] at h1
  cases h1
  have ne : ∀ {b : Addr} {o : HO}, F b = some o → b ≠ a := fun z => ne_of_none z h2
  refine ⟨fun b o z => by rw [upd_ne (ne z)]; exact R.sub b o z, fun b z => ?_, fun b o z n => ?_, R.f0, R.new0, by simpa using R.len, fun j s z => ?_, fun j k x y c hjk z1 z2 o1 o2 z3 => ?_⟩
  · obtain ⟨q1, q, q2, q3, q4⟩ := R.hand b z
    have hb : b ≠ a := fun w => h4 (by rw [z, w])
    exact ⟨q1, q, q2, by rw [upd_ne hb]; exact q3, q4⟩
  · rw [upd_ne (ne_of_none z h3)]
    exact R.base b o z n
  · rw [List.getElem?_set] at z
    by_cases hij : i = j
    · subst hij
      rw [if_pos rfl] at z
      split at z
      · cases z
        exact ⟨a, vs ++ [v], es, upd_same, h2, h3, h4, dpAll_append h5 (.cons r .nil)⟩
      · cases z
    · rw [if_neg hij] at z
      have q := R.slots j s z
      cases s with
      | no => trivial
      | dat x => exact q
      | own xs =>
        obtain ⟨c, us, ec, g1, g2, g3, g4, g5⟩ := q
        have hc : c ≠ a := fun w => R.apart i j _ _ a hij e z rfl rfl es (by rw [ec, w])
        exact ⟨c, us, ec, by rw [upd_ne hc]; exact g1, g2, g3, g4, g5⟩
      | owd xs =>
        obtain ⟨c, us, ec, g1, g2, g3, g4, g5⟩ := q
        have hc : c ≠ a := fun w => R.apart i j _ _ a hij e z rfl rfl es (by rw [ec, w])
        exact ⟨c, us, ec, by rw [upd_ne hc]; exact g1, g2, g3, g4, g5⟩
      | exc x y =>
        obtain ⟨g1, g2, dx, u, g0, g3, g4, g5⟩ := q
        have hc : dx ≠ a := fun w => by rw [w, ha] at g3; cases g3
        exact ⟨g1, g2, dx, u, g0, by rw [upd_ne hc]; exact g3, g4, g5⟩
  · rw [List.getElem?_set] at z1 z2
    by_cases hj : i = j
    · subst hj
      rw [if_pos rfl] at z1
      rw [if_neg hjk] at z2
      exact R.apart i k _ y c hjk e z2 rfl o2 z3
    · rw [if_neg hj] at z1
      by_cases hk : i = k
      · subst hk
        intro w
        exact R.apart i j _ x c (fun q => hj q) e z1 rfl o1 w z3
      · rw [if_neg hk] at z2
        exact R.apart j k x y c hjk z1 z2 o1 o2 z3
/-- an own list is frozen -/
theorem Rel.freeze (R : Rel G F H hs ρ σ) {i : Nat} {a : Addr} {ds : List D} {vs : List V} (e : ρ[i]? = some (.own ds)) (es : σ[i]? = some (some (.ref a))) (ha : H a = some (.lst vs)) :
    Rel G (upd F a (.lst vs)) H hs (ρ.set i (.dat (.list ds))) σ ∧ Dq G.K (upd F a (.lst vs)) (.ref a) (.list ds) := by
  obtain ⟨b, ws, eb, h1, h2, h3, h4, h5⟩ := R.slots i _ e
  rw [es] at eb
  cases eb
  rw [ha] at h1
  cases h1
  have sf : Same F (upd F a (.lst vs)) := fun b o z => by rw [upd_ne (ne_of_none z h2)]; exact z
  have dd : Dq G.K (upd F a (.lst vs)) (.ref a) (.list ds) := .lst (upd_same) (dpAll_same sf _ _ h5)
  refine ⟨⟨fun b o z => ?_, fun b z => ?_, R.base, R.f0.trans sf, fun b z => ?_, by simpa using R.len, fun j s z => ?_, fun j k x y c hjk z1 z2 o1 o2 z3 => ?_⟩, dd⟩
  · by_cases hb : b = a
    · subst hb; rw [upd_same] at z; cases z; exact ha
    · rw [upd_ne hb] at z; exact R.sub b o z
  · obtain ⟨q1, q, q2, q3, q4⟩ := R.hand b z
    have hb : b ≠ a := fun w => h4 (by rw [z, w])
    exact ⟨by rw [upd_ne hb]; exact q1, q, q2, q3, sf _ _ q4⟩
  · by_cases hb : b = a
    · subst hb; exact .inr h3
    · rw [upd_ne hb] at z; exact R.new0 b z
  · rw [List.getElem?_set] at z
    by_cases hij : i = j
    · subst hij
      rw [if_pos rfl] at z
      split at z
      · cases z
        exact ⟨.ref a, es, .inl dd⟩
      · cases z
    · rw [if_neg hij] at z
      have q := R.slots j s z
      cases s with
      | no => trivial
      | dat x =>
        obtain ⟨v, ev, r⟩ := q
        exact ⟨v, ev, r.same sf⟩
      | own xs =>
        obtain ⟨c, us, ec, g1, g2, g3, g4, g5⟩ := q
        have hc : c ≠ a := fun w => R.apart i j _ _ a hij e z rfl rfl es (by rw [ec, w])
        exact ⟨c, us, ec, g1, by rw [upd_ne hc]; exact g2, g3, g4, dpAll_same sf _ _ g5⟩
      | owd xs =>
        obtain ⟨c, us, ec, g1, g2, g3, g4, g5⟩ := q
        have hc : c ≠ a := fun w => R.apart i j _ _ a hij e z rfl rfl es (by rw [ec, w])
        exact ⟨c, us, ec, g1, by rw [upd_ne hc]; exact g2, g3, g4, g5.same sf⟩
      | exc x y =>
        obtain ⟨g1, g2, dx, u, g0, g3, g4, g5⟩ := q
        exact ⟨g1, g2, dx, u, g0, g3, g4, dp_same sf _ _ g5⟩
  · rw [List.getElem?_set] at z1 z2
    by_cases hj : i = j
    · rw [if_pos hj] at z1
      split at z1 <;> cases z1 <;> cases o1
    · rw [if_neg hj] at z1
      by_cases hk : i = k
      · rw [if_pos hk] at z2
        split at z2 <;> cases z2 <;> cases o2
      · rw [if_neg hk] at z2
        exact R.apart j k x y c hjk z1 z2 o1 o2 z3
end
end L2.AR
set_option Elab.async false
set_option linter.all false
set_option maxRecDepth 100000
set_option maxHeartbeats 4000000
/-! Fw5: the rules of statements. -/
namespace L2.AR
open PySem PySem.Spec PyProof.Rows
section
variable {X : Cx} {G : Gh} {pos : Pos} {st : Stmt} {sts : List Stmt}
theorem psI {t t' : TS} (h : PS X st t) (i : ∀ E σ H, t' E σ H → t E σ H) : PS X st t' := ⟨fun pins s σ H E I q => h.run pins s σ H E I (i _ _ _ q)⟩
theorem pssI {t t' : TS} (h : PSs X sts t) (i : ∀ E σ H, t' E σ H → t E σ H) : PSs X sts t' := ⟨fun pins s σ H E I q => h.run pins s σ H E I (i _ _ _ q)⟩
/-- an expression first -/
theorem exp_then {α β : Type} {rel : Hp → β → α → Prop} {g : Rho → M α} {k : α → MS} {E : Ends} {σ : St} {H : Hp} (h : tS G (sExp g k) E σ H) :
    rd G rel g σ H fun v H1 => ∃ F hs ρ a, Rel G F H1 hs ρ σ ∧ rel F v a ∧ postS G F E (k a ρ hs) := by
  obtain ⟨F, hs, ρ, R, p⟩ := h
  refine ⟨F, hs, ρ, R, ?_⟩
  unfold sExp at p
  cases e : g ρ hs with
  | ok a hs' =>
    rw [e] at p
    exact fun F' H' v s h r => ⟨F', hs', ρ, a, R.step s h, r, p.after s.ff⟩
  | err c d hs' =>
    rw [e] at p
    exact fun F' H' dx v s h hx hn dp => p F' H' σ dx v s.ff (R.step s h) hx hn dp
  | stuck =>
    rw [e] at p
    exact p.elim
theorem p_nil : PSs X [] (tS G sSkip) := by
  refine pssI pss_nil ?_
  rintro E σ H ⟨F, hs, ρ, R, p⟩
  exact p F H σ (Same.refl F) R
theorem p_cons {s t : MS} (h : PS X st (tS G s)) (h2 : PSs X sts (tS G t)) : PSs X (st :: sts) (tS G (sSeq s t)) := by
  refine pssI (pss_cons h h2) ?_
  rintro E σ H ⟨F, hs, ρ, R, p⟩
  refine ⟨F, hs, ρ, R, ?_⟩
  unfold sSeq at p
  cases e : s ρ hs with
  | ok f ρ' h' =>
    rw [e] at p
    cases f with
    | nx => exact fun F' H' σ' s' R' => ⟨F', h', ρ', R', p.after s'⟩
    | rt d => exact p
    | bk => exact p
    | ct => exact p
  | err c d ρ' h' => rw [e] at p; exact p
  | stuck => rw [e] at p; exact p
theorem p_one {s : MS} (h : PS X st (tS G s)) : PSs X [st] (tS G s) := by
  refine pssI (pss_one h) fun E σ H q => q
theorem p_pass : PS X (.Pass pos) (tS G sSkip) := by
  refine psI ps_pass ?_
  rintro E σ H ⟨F, hs, ρ, R, p⟩
  exact p F H σ (Same.refl F) R
theorem p_break : PS X (.Break pos) (tS G sBrk) := by
  refine psI ps_break ?_
  rintro E σ H ⟨F, hs, ρ, R, p⟩
  exact p F H σ (Same.refl F) R
theorem p_continue : PS X (.Continue pos) (tS G sCnt) := by
  refine psI ps_continue ?_
  rintro E σ H ⟨F, hs, ρ, R, p⟩
  exact p F H σ (Same.refl F) R
theorem p_doc {x j p1} : PS X (.Expr (.Constant (.str x) j p1) pos) (tS G sSkip) := by
  refine psI ps_doc ?_
  rintro E σ H ⟨F, hs, ρ, R, p⟩
  exact p F H σ (Same.refl F) R
theorem p_ret {e : Expr} {g : Rho → M D} (h : PE X e (tE G g)) : PS X (.Return (some e) pos) (tS G (sRet g)) := by
  refine psI (ps_ret h) fun E σ H q => ?_
  refine (exp_then (rel := relE G) q).mono ?_
  rintro v H1 ⟨F, hs, ρ, d, R, r, p⟩
  exact p F H1 σ v (Same.refl F) R r
theorem p_retN : PS X (.Return none pos) (tS G (sRet fun _ => ret .none)) := by
  refine psI ps_retN ?_
  rintro E σ H ⟨F, hs, ρ, R, p⟩
  exact p F H σ .non (Same.refl F) R (.inl .non)
theorem p_do {e : Expr} {g : Rho → M D} (h : PE X e (tE G g)) (hs : swapsWith e none pos.line X.env = pure false := by rfl) : PS X (.Expr e pos) (tS G (sDo g)) := by
  refine psI (ps_expr h hs) fun E σ H q => ?_
  refine (exp_then (rel := relE G) q).mono ?_
  rintro v H1 ⟨F, hs, ρ, d, R, r, p⟩
  exact p F H1 σ (Same.refl F) R
theorem p_if {c : Expr} {a b : List Stmt} {u : Rho → M Bool} {s t : MS} (hc : PT X c (tT G u)) (ha : PSs X a (tS G s)) (hb : PSs X b (tS G t)) : PS X (.If c a b pos) (tS G (sIf u s t)) := by
  refine psI (ps_if hc ha hb) fun E σ H q => ?_
  refine (exp_then (rel := relB) q).mono ?_
  rintro x H1 ⟨F, hs, ρ, c, R, rfl, p⟩
  cases x with
  | true => exact iteT ⟨F, hs, ρ, R, p⟩
  | false => exact iteF ⟨F, hs, ρ, R, p⟩
theorem p_set (i : Nat) {x : Str} {e : Expr} {g : Rho → M D} {pos' : Pos} (hN : X.N.Nodup) (h : PE X e (tE G g)) (hi : X.N[i]? = some x := by rfl) (hx : Loc X.env.scope x := by first | exact Or.inl rfl | exact Or.inr rfl)
    (hs : swapsWith e (some (.Name x pos')) pos.line X.env = pure false := by rfl) (hf : X.fn x = true ∨ X.env.scope.names.lookup x = some .local := by first | exact .inl rfl | exact .inr rfl | assumption) :
    PS X (.Assign [.Name x pos'] e pos) (tS G (sSet i g)) := by
  refine psI (ps_set hN hi hx h hs hf) fun E σ H q => ?_
  refine (exp_then (rel := relE G) q).mono ?_
  rintro v H1 ⟨F, hs, ρ, d, R, r, p⟩
  exact p F H1 _ (Same.refl F) (R.put i r)
theorem p_new (i : Nat) {x : Str} {pos' pos2 : Pos} (hN : X.N.Nodup) (hi : X.N[i]? = some x := by rfl) (hx : Loc X.env.scope x := by first | exact Or.inl rfl | exact Or.inr rfl)
    (hs : swapsWith (.List [] pos2) (some (.Name x pos')) pos.line X.env = pure false := by rfl) (hf : X.fn x = true ∨ X.env.scope.names.lookup x = some .local := by first | exact .inl rfl | exact .inr rfl | assumption) :
    PS X (.Assign [.Name x pos'] (.List [] pos2) pos) (tS G (sNew i)) := by
  refine psI (ps_set hN hi hx (pe_lst pa_nil) hs hf) ?_
  rintro E σ H ⟨F, hs, ρ, R, p⟩
  exact ⟨Nat.zero_le _, fun a na => p F _ _ (Same.refl F) (R.fresh na i)⟩
theorem p_app (i : Nat) {e : Expr} {K : PySem.W.Frag} {g : Rho → M D} (h : PE X e (tBM K "list" rAppend (tVar i) (tCons (tE G g) tNil)))
    (hs : swapsWith e none pos.line X.env = pure false := by rfl) :
    PS X (.Expr e pos) (tS G (sApp i g)) := by
  refine psI (ps_expr h hs) ?_
  rintro E σ H ⟨F, hs, ρ, R, p⟩
  unfold sApp at p
  cases e : ρ[i]? with
  | none => rw [e] at p; exact p.elim
  | some s =>
    cases s with
    | own ds =>
      rw [e] at p
      obtain ⟨a, vs, es, h1, h2, h3, h4, h5⟩ := R.slots i _ e
      refine ⟨.ref a, es, .inl ⟨rfl, vs, .inl (.inl h1)⟩, ?_⟩
      unfold sExp at p
      refine ⟨F, hs, ρ, R, ?_⟩
      cases z : g ρ hs with
      | ok d hs' =>
        rw [z] at p
        intro F' H' v s hh r
        have R' := R.step s hh
        by_cases c : isTok d = false ∧ ds.length < 1000000
        · simp only [if_pos c] at p
          obtain ⟨a', vs', es', g1, g2, g3, g4, g5⟩ := R'.slots i _ e
          rw [es] at es'
          cases es'
          exact ⟨a, vs', v, rfl, rfl, g1, by rw [dpAll_len g5]; exact line_of (Nat.le_of_lt c.2), p _ _ _ s.ff (R'.app e es g1 (r.dp c.1))⟩
        · simp only [if_neg c] at p
          exact p.elim
      | err c d hs' =>
        rw [z] at p
        exact fun F' H' dx v s h hx hn dp => p F' H' σ dx v s.ff (R.step s h) hx hn dp
      | stuck => rw [z] at p; exact p.elim
    | _ => rw [e] at p; exact p.elim
theorem p_frz (i : Nat) {s : MS} (h : PSs X sts (tS G s)) : PSs X sts (tS G (sSeq (sFrz i) s)) := by
  refine pssI h ?_
  rintro E σ H ⟨F, hs, ρ, R, p⟩
  unfold sSeq sFrz at p
  cases e : ρ[i]? with
  | none => rw [e] at p; exact p.elim
  | some sl =>
    rw [e] at p
    cases sl with
    | own ds =>
      obtain ⟨a, vs, es, h1, h2, h3, h4, h5⟩ := R.slots i _ e
      have R2 := (R.freeze e es h1).1
      exact ⟨_, hs, _, R2, postS.after (fun b o z => by rw [upd_ne (ne_of_none z h2)]; exact z) p⟩
    | dat d => exact ⟨F, hs, ρ, R, p⟩
    | _ => exact p.elim

/-! ### targets -/
def GOk (G : Gh) (vs : List Nat) (gt : TG) (t : Tgt) : Prop := ∀ (F H : Hp) (hs : HS) (ρ ρ' : Rho) (σ : St) (v : V) (d : D) (Q : St → Hp → Prop), Rel G F H hs ρ σ → Rp G.K F G.ha v d → t d ρ = some ρ' → (∀ σ', Rel G F H hs ρ' σ' → wipe σ' vs = wipe σ vs → Q σ' H) → gt v σ H Q
def GsOk (G : Gh) (vs : List Nat) (gt : TGs) (ts : List Tgt) : Prop := ∀ (F H : Hp) (hs : HS) (ρ ρ' : Rho) (σ : St) (us : List V) (ds : List D) (Q : St → Hp → Prop), Rel G F H hs ρ σ → DqAll G.K F us ds → tgAll ts ds ρ = some ρ' → (∀ σ', Rel G F H hs ρ' σ' → wipe σ' vs = wipe σ vs → Q σ' H) → gt us σ H Q
theorem wipe_get (σ : St) (j : Nat) : ∀ vs : List Nat, (wipe σ vs)[j]? = if j ∈ vs then (if j < σ.length then some none else none) else σ[j]?
  | [] => by simp [wipe]
  | v :: vs => by
    unfold wipe
    rw [List.getElem?_set, wipe_get σ j vs, wipe_length]
    by_cases e : v = j
    · subst e; simp
    · have e' : ¬ j = v := fun z => e z.symm
      rw [if_neg e]
      by_cases m : j ∈ vs
      · simp [m]
      · simp [m, e']
theorem wipe_set {σ : St} {i : Nat} {x : Option V} {vs : List Nat} (h : i ∈ vs) : wipe (σ.set i x) vs = wipe σ vs := by
  apply List.ext_getElem?
  intro j
  rw [wipe_get, wipe_get, List.length_set]
  by_cases m : j ∈ vs
  · simp [m]
  · have : i ≠ j := fun e => m (e ▸ h)
    simp [m, List.getElem?_set_ne this]
theorem wipe_wipe {σ : St} {vs : List Nat} : wipe (wipe σ vs) vs = wipe σ vs := by
  apply List.ext_getElem?
  intro j
  rw [wipe_get, wipe_get σ, wipe_length]
  by_cases m : j ∈ vs
  · simp [m]
  · simp [m, wipe_get]
theorem gN_ok {i : Nat} {vs : List Nat} (h : i ∈ vs := by simp) : GOk G vs (gName i) (tgN i) := by
  intro F H hs ρ ρ' σ v d Q R r e q
  cases e
  exact q _ (R.put i r) (wipe_set h)
theorem gNil_ok {vs : List Nat} : GsOk G vs gNil [] := by
  intro F H hs ρ ρ' σ us ds Q R r e q
  cases r with
  | nil => cases e; exact ⟨rfl, q _ R rfl⟩
  | cons _ _ => cases e
theorem gCons_ok {vs : List Nat} {gt : TG} {gs : TGs} {t : Tgt} {ts : List Tgt} (h : GOk G vs gt t) (h2 : GsOk G vs gs ts) : GsOk G vs (gCons gt gs) (t :: ts) := by
  intro F H hs ρ ρ' σ us ds Q R r e q
  cases r with
  | nil => cases e
  | @cons v us d ds r1 r2 =>
    have e' : (t d ρ).bind (tgAll ts ds) = some ρ' := e
    cases z : t d ρ with
    | none => rw [z] at e'; cases e'
    | some ρ1 =>
      rw [z] at e'
      refine ⟨v, us, rfl, h F H hs ρ ρ1 σ v d _ R (.inl r1) z fun σ1 R1 w1 => ?_⟩
      exact h2 F H hs ρ1 ρ' σ1 us ds _ R1 r2 e' fun σ2 R2 w2 => q σ2 R2 (w2.trans w1)
theorem gTup_ok {vs : List Nat} {gs : TGs} {ts : List Tgt} {n : Nat} (h : GsOk G vs gs ts) (hn : ts.length = n := by rfl) : GOk G vs (gTup G.K n gs) (tgT ts) := by
  intro F H hs ρ ρ' σ v d Q R r e q
  cases d with
  | tuple ds =>
    cases r.dp rfl with
    | tup hs' ha =>
      rename_i a us
      have len : ∀ (ts : List Tgt) (ds : List D) (ρ ρ' : Rho), tgAll ts ds ρ = some ρ' → ds.length = ts.length := by
        intro ts
        induction ts with
        | nil => intro ds ρ ρ' z; cases ds with | nil => rfl | cons _ _ => cases z
        | cons t ts ih =>
          intro ds ρ ρ' z
          cases ds with
          | nil => cases z
          | cons d ds =>
            have z' : (t d ρ).bind (tgAll ts ds) = some ρ' := z
            cases w : t d ρ with
            | none => rw [w] at z'; cases z'
            | some ρ1 => rw [w] at z'; exact congrArg (· + 1) (ih ds ρ1 ρ' z')
      refine ⟨a, us, rfl, ?_, by rw [dpAll_len ha, len _ _ _ _ e, hn], h F H hs ρ ρ' σ us ds Q R ha e q⟩
      rcases hs' with (z | ⟨o, z⟩) | z
      · exact .inl (.inl (R.sub _ _ z))
      · exact .inl (.inr ⟨o, R.sub _ _ z⟩)
      · exact .inr z
  | _ => cases e
theorem p_asg {g : Rho → M D} {gt : TG} {t : Tgt} (vs : List Nat) (h : PS X st (tAsg (tE G g) gt)) (ht : GOk G vs gt t) : PS X st (tS G (sAsg g t)) := by
  refine psI h fun E σ H q => ?_
  refine (exp_then (rel := relE G) q).mono ?_
  rintro v H1 ⟨F, hs, ρ, d, R, r, p⟩
  unfold sTo at p
  cases z : t d ρ with
  | none => rw [z] at p; exact p.elim
  | some ρ' =>
    rw [z] at p
    exact ht F H1 hs ρ ρ' σ v d _ R r z fun σ' R' _ => p F H1 σ' (Same.refl F) R'
theorem p_par (i j : Nat) {gs : Rho → M (List D)} (h : PS X st (tPar i j (tA G gs))) : PS X st (tS G (sPar i j gs)) := by
  refine psI h fun E σ H q => ?_
  refine (exp_then (rel := relA G) q).mono ?_
  rintro vs H1 ⟨F, hs, ρ, ds, R, r, p⟩
  cases r with
  | nil => exact p.elim
  | cons r1 r' =>
    cases r' with
    | nil => exact p.elim
    | cons r2 r'' =>
      cases r'' with
      | nil => exact ⟨_, _, rfl, p F H1 _ (Same.refl F) ((R.put i r1).put j r2)⟩
      | cons _ _ => exact p.elim
end
end L2.AR
set_option Elab.async false
set_option linter.all false
set_option maxRecDepth 100000
set_option maxHeartbeats 4000000
/-! Fw6: the rules of loops and comprehensions. -/
namespace L2.AR
open PySem PySem.Spec PyProof.Rows

/-- what is walked yields these data, turn by turn, while F stands -/
structure Src (K : PySem.W.Frag) (J : It) (ds : List D) (F : Hp) : Prop where
  stop : ∀ F' H, Same F F' → Same F' H → J.stop ds.length H
  go : ∀ F' H (i : Nat) (d : D), Same F F' → Same F' H → ds[i]? = some d → J.go i H ∧ ∀ x H', J.yld i H x H' → H' = H ∧ Dq K F' x d
theorem Src.after {K : PySem.W.Frag} {J : It} {ds : List D} {F F1 : Hp} (h : Src K J ds F) (s : Same F F1) : Src K J ds F1 := ⟨fun F' H a b => h.stop F' H (s.trans a) b, fun F' H i d a b => h.go F' H i d (s.trans a) b⟩
theorem sqt_same {K : PySem.W.Frag} {H H' : Hp} {a : Addr} {xs : List V} (s : Same H H') (h : SqT K H a xs) : SqT K H' a xs := by
  rcases h with (z | ⟨o, z⟩) | z
  · exact .inl (.inl (s _ _ z))
  · exact .inl (.inr ⟨o, s _ _ z⟩)
  · exact .inr z
theorem src_list {K : PySem.W.Frag} {F : Hp} {a : Addr} {xs : List V} {ds : List D} (h : SqL K F a xs) (r : DqAll K F xs ds) : Src K (Itl K a) ds F := by
  refine ⟨fun F' H s s' => ⟨xs, s'.seq (s.seq h), by rw [dpAll_len r]; exact Nat.le_refl _⟩, fun F' H i d s s' e => ?_⟩
  obtain ⟨v, ev, rv⟩ := dpAll_get' r e
  refine ⟨⟨xs, v, s'.seq (s.seq h), ev⟩, fun x H' y => ?_⟩
  obtain ⟨rfl, y⟩ := y
  have q := y xs (s'.seq (s.seq h))
  rw [ev] at q
  cases q
  exact ⟨rfl, dp_same s _ _ rv⟩
theorem src_tup {K : PySem.W.Frag} {F : Hp} {a : Addr} {xs : List V} {ds : List D} (h : SqT K F a xs) (r : DqAll K F xs ds) : Src K (Itt K a) ds F := by
  refine ⟨fun F' H s s' => ⟨xs, sqt_same s' (sqt_same s h), by rw [dpAll_len r]; exact Nat.le_refl _⟩, fun F' H i d s s' e => ?_⟩
  obtain ⟨v, ev, rv⟩ := dpAll_get' r e
  refine ⟨⟨xs, v, sqt_same s' (sqt_same s h), ev⟩, fun x H' y => ?_⟩
  obtain ⟨rfl, y⟩ := y
  have q := y xs (sqt_same s' (sqt_same s h))
  rw [ev] at q
  cases q
  exact ⟨rfl, dp_same s _ _ rv⟩
theorem src_range {K : PySem.W.Frag} {F : Hp} (lo : Int) (n : Nat) : Src K (Itr lo n) (upTo lo n) F := by
  refine ⟨fun F' H _ _ => ?_, fun F' H i d _ _ e => ?_⟩
  · show n ≤ (upTo lo n).length
    simp [upTo]
  · unfold upTo at e
    rw [List.getElem?_map] at e
    by_cases hi : i < n
    · rw [List.getElem?_eq_getElem (by simpa using hi)] at e
      simp only [List.getElem_range, Option.map_some, Option.some.injEq] at e
      subst e
      refine ⟨hi, fun x H' y => ?_⟩
      obtain ⟨rfl, rfl⟩ := y
      exact ⟨rfl, .int _⟩
    · rw [List.getElem?_eq_none (by simpa using hi)] at e
      cases e
section
variable {X : Cx} {G : Gh} {pos : Pos}
/-- the loop's invariant: what is left is what the function says -/
theorem for_inv {J : It} {ds : List D} {gt : TG} {t : Tgt} {vs : List Nat} {body : MS} {E : Ends} {F H : Hp} {hs : HS} {ρ : Rho} {σ : St} (ht : GOk G vs gt t) (R : Rel G F H hs ρ σ) (S : Src G.K J ds F) (p : postS G F E (loopL t body ds ρ hs)) :
    ∃ W : Nat → Nat → St → Hp → Prop, (∃ m, W 0 m σ H) ∧ ∀ i m σ H, W i m σ H →
      (J.stop i H ∧ E.nx σ H) ∨ (J.go i H ∧ ∃ N : St → Hp → Prop, (∀ σ' H', N σ' H' → ∃ m', m' < m ∧ W (i + 1) m' σ' H') ∧ ∀ x H', J.yld i H x H' → gt x σ H' fun σ2 H2 => tS G body { E with nx := N, ct := N, bk := E.nx } σ2 H2) := by
  refine ⟨fun i m σ H => m = ds.length - i ∧ i ≤ ds.length ∧ ∃ F hs ρ, Rel G F H hs ρ σ ∧ Src G.K J ds F ∧ postS G F E (loopL t body (ds.drop i) ρ hs), ⟨ds.length, by simp, Nat.zero_le _, F, hs, ρ, R, S, by simpa using p⟩, ?_⟩
  rintro i m σ H ⟨rfl, hi, F, hs, ρ, R, S, p⟩
  by_cases hlt : i < ds.length
  · have e : ds[i]? = some ds[i] := List.getElem?_eq_getElem hlt
    obtain ⟨g, y⟩ := S.go F H i ds[i] (Same.refl F) R.sub e
    refine .inr ⟨g, fun σ' H' => ∃ F hs ρ, Rel G F H' hs ρ σ' ∧ Src G.K J ds F ∧ postS G F E (loopL t body (ds.drop (i + 1)) ρ hs), fun σ' H' q => ⟨ds.length - (i + 1), by omega, rfl, hlt, q⟩, fun x H' yy => ?_⟩
    obtain ⟨rfl, dx⟩ := y x H' yy
    rw [List.drop_eq_getElem_cons hlt] at p
    simp only [loopL] at p
    cases z : t ds[i] ρ with
    | none => rw [z] at p; exact p.elim
    | some ρ1 =>
      rw [z] at p
      refine ht F H' hs ρ ρ1 σ x ds[i] _ R (.inl dx) z fun σ1 R1 _ => ⟨F, hs, ρ1, R1, ?_⟩
      simp only at p
      cases w : body ρ1 hs with
      | ok f ρ2 h2 =>
        rw [w] at p
        cases f with
        | nx => exact fun F2 H2 σ2 s2 R2 => ⟨F2, h2, ρ2, R2, S.after s2, p.after s2⟩
        | ct => exact fun F2 H2 σ2 s2 R2 => ⟨F2, h2, ρ2, R2, S.after s2, p.after s2⟩
        | bk => exact p
        | rt d => exact p
      | err c d ρ2 h2 => rw [w] at p; exact p
      | stuck => rw [w] at p; exact p.elim
  · have e : i = ds.length := by omega
    subst e
    rw [List.drop_eq_nil_of_le (Nat.le_refl _)] at p
    exact .inl ⟨S.stop F H (Same.refl F) R.sub, p F H σ (Same.refl F) R⟩
/-- what a for walks: a list or a tuple -/
def iSeq (K : PySem.W.Frag) (te : TE) : TI := fun σ H R => iList K te σ H R ∨ iTup K te σ H R
theorem i_seq {tg l : Expr} {te : TE} (h : PE X l te) : PI X tg l (iSeq X.K te) :=
  ⟨fun pins s σ H R I q => q.elim ((pi_list h).run pins s σ H R I) ((pi_tup h).run pins s σ H R I)⟩
theorem iSeq_of {g : Rho → M D} {k : D → List D → HS → Rho → Prop} {σ : St} {F H : Hp} {hs : HS} {ρ : Rho} {R : It → Hp → Prop} (r : Rel G F H hs ρ σ)
    (q : match g ρ hs with
      | .ok d h' => ∃ ds, itemsOf d = some ds ∧ ∀ F' H' J, Step G.ha F H F' H' → HandOK G.ha F' H' h' → Src G.K J ds F' → R J H'
      | .err c d h' => ∀ F' H' dx v, Step G.ha F H F' H' → HandOK G.ha F' H' h' → H' dx = some (.xd [(G.fld c, v)]) → G.ha ≠ some dx → Dq G.K F' v d → G.W (.ref (G.cl c)) (some dx) σ H'
      | .stuck => False) : iSeq G.K (tE G g) σ H R := by
  cases z : g ρ hs with
  | ok d h' =>
    rw [z] at q
    obtain ⟨ds, e, q⟩ := q
    cases d with
    | list xs =>
      cases e
      refine .inl ⟨F, hs, ρ, r, ?_⟩
      rw [z]
      intro F' H' v s hh rv
      cases rv.dp rfl with
      | lst h1 h2 => exact ⟨_, rfl, ⟨_, SqL.of (s.fh _ _ h1)⟩, q F' H' _ s hh (src_list (SqL.of h1) h2)⟩
    | tuple xs =>
      cases e
      refine .inr ⟨F, hs, ρ, r, ?_⟩
      rw [z]
      intro F' H' v s hh rv
      cases rv.dp rfl with
      | tup h1 h2 => exact ⟨_, rfl, ⟨_, sqt_same s.fh h1⟩, q F' H' _ s hh (src_tup h1 h2)⟩
    | _ => cases e
  | err c d h' =>
    rw [z] at q
    refine .inl ⟨F, hs, ρ, r, ?_⟩
    rw [z]
    exact q
  | stuck => rw [z] at q; exact q.elim
theorem p_for {tg iter : Expr} {body : List Stmt} {g : Rho → M D} {gt : TG} {t : Tgt} {s : MS} (vs : List Nat) (hK : G.K = X.K) (hp : PassesOwn (model X.prog X.w) X.A X.env X.xe) (hc : X.calm = true) (hi : PE X iter (tE G g)) (hg : PG X tg gt) (ht : GOk G vs gt t) (hb : PSs X body (tS G s))
    (h : PS X (.For tg iter body [] pos) (tFor (iSeq X.K (tE G g)) gt (tS G s))) : PS X (.For tg iter body [] pos) (tS G (sFor g t s)) := by
  refine psI h ?_
  rintro E σ H ⟨F, hs, ρ, R, p⟩
  rw [← hK]
  refine iSeq_of (k := fun _ _ _ _ => True) R ?_
  unfold sFor sExp at p
  cases z : g ρ hs with
  | ok d h' =>
    rw [z] at p
    simp only at p
    cases w : itemsOf d with
    | none => rw [w] at p; exact p.elim
    | some ds =>
      rw [w] at p
      exact ⟨ds, w, fun F' H' J st hh S => for_inv ht (R.step st hh) S (postS.after st.ff p)⟩
  | err c d h' =>
    rw [z] at p
    exact fun F' H' dx v s h hx hn dp => p F' H' σ dx v s.ff (R.step s h) hx hn dp
  | stuck => rw [z] at p; exact p.elim
theorem rng1_of {gs : Rho → M (List D)} {σ : St} {F H : Hp} {hs : HS} {ρ : Rho} {R : It → Hp → Prop} (r : Rel G F H hs ρ σ)
    (q : match gs ρ hs with
      | .ok as h' => as.length = 1 ∧ ∃ ds, rangeOf as = some ds ∧ ∀ F' H' lo n, Step G.ha F H F' H' → HandOK G.ha F' H' h' → ds = upTo lo n → R (Itr lo n) H'
      | .err c d h' => ∀ F' H' dx v, Step G.ha F H F' H' → HandOK G.ha F' H' h' → H' dx = some (.xd [(G.fld c, v)]) → G.ha ≠ some dx → Dq G.K F' v d → G.W (.ref (G.cl c)) (some dx) σ H'
      | .stuck => False) : iRng1 (tA G gs) σ H R := by
  refine ⟨F, hs, ρ, r, ?_⟩
  cases z : gs ρ hs with
  | ok as h' =>
    rw [z] at q
    obtain ⟨l, ds, e, q⟩ := q
    match as, l with
    | [d], _ =>
      cases d with
      | int j =>
        have e : (if -(2 ^ 62) ≤ j ∧ j < 2 ^ 62 then some (upTo 0 j.toNat) else none) = some ds := e
        by_cases hb : -(2 ^ 62) ≤ j ∧ j < 2 ^ 62
        · rw [if_pos hb] at e
          cases e
          intro F' H' v s hh rv
          cases rv with
          | cons r1 r2 =>
            cases r2
            cases r1.dp rfl
            exact ⟨j, rfl, hb.1, hb.2, q F' H' 0 j.toNat s hh rfl⟩
        · rw [if_neg hb] at e
          cases e
      | _ => cases e
  | err c d h' => rw [z] at q; exact q
  | stuck => rw [z] at q; exact q.elim
theorem rng2_of {gs : Rho → M (List D)} {σ : St} {F H : Hp} {hs : HS} {ρ : Rho} {R : It → Hp → Prop} (r : Rel G F H hs ρ σ)
    (q : match gs ρ hs with
      | .ok as h' => as.length = 2 ∧ ∃ ds, rangeOf as = some ds ∧ ∀ F' H' lo n, Step G.ha F H F' H' → HandOK G.ha F' H' h' → ds = upTo lo n → R (Itr lo n) H'
      | .err c d h' => ∀ F' H' dx v, Step G.ha F H F' H' → HandOK G.ha F' H' h' → H' dx = some (.xd [(G.fld c, v)]) → G.ha ≠ some dx → Dq G.K F' v d → G.W (.ref (G.cl c)) (some dx) σ H'
      | .stuck => False) : iRng2 (tA G gs) σ H R := by
  refine ⟨F, hs, ρ, r, ?_⟩
  cases z : gs ρ hs with
  | ok as h' =>
    rw [z] at q
    obtain ⟨l, ds, e, q⟩ := q
    match as, l with
    | [d, d2], _ =>
      cases d with
      | int i =>
        cases d2 with
        | int j =>
          have e : (if -(2 ^ 62) ≤ i ∧ i < 2 ^ 62 ∧ -(2 ^ 62) ≤ j ∧ j < 2 ^ 62 then some (upTo i (j - i).toNat) else none) = some ds := e
          by_cases hb : -(2 ^ 62) ≤ i ∧ i < 2 ^ 62 ∧ -(2 ^ 62) ≤ j ∧ j < 2 ^ 62
          · rw [if_pos hb] at e
            cases e
            intro F' H' v s hh rv
            cases rv with
            | cons r1 r2 =>
              cases r2 with
              | cons r2 r3 =>
                cases r3
                cases r1.dp rfl
                cases r2.dp rfl
                exact ⟨i, j, rfl, hb, q F' H' i (j - i).toNat s hh rfl⟩
          · rw [if_neg hb] at e
            cases e
        | _ => cases e
      | _ => cases e
  | err c d h' => rw [z] at q; exact q
  | stuck => rw [z] at q; exact q.elim
/-- how many arguments these have -/
def ALen (n : Nat) (gs : Rho → M (List D)) : Prop := ∀ ρ h as h', gs ρ h = .ok as h' → as.length = n
theorem aLen0 : ALen 0 (fun _ => ret []) := fun _ _ _ _ e => by cases e; rfl
theorem aLenS {n : Nat} {g : Rho → M D} {gs : Rho → M (List D)} (h : ALen n gs) : ALen (n + 1) (fun ρ => bnd (g ρ) fun d => bnd (gs ρ) fun ds => ret (d :: ds)) := fun ρ hs as h' e => by
  dsimp only [bnd] at e
  cases z : g ρ hs with
  | ok d h1 =>
    rw [z] at e
    dsimp only at e
    cases w : gs ρ h1 with
    | ok ds h2 =>
      rw [w] at e
      cases e
      exact congrArg (· + 1) (h _ _ _ _ w)
    | err _ _ _ => rw [w] at e; cases e
    | stuck => rw [w] at e; cases e
  | err _ _ _ => rw [z] at e; cases e
  | stuck => rw [z] at e; cases e
theorem p_forR1 {tg iter : Expr} {body : List Stmt} {gs : Rho → M (List D)} {gt : TG} {t : Tgt} {s : MS} (vs : List Nat) (ht : GOk G vs gt t) (l : ALen 1 gs)
    (h : PS X (.For tg iter body [] pos) (tFor (iRng1 (tA G gs)) gt (tS G s))) : PS X (.For tg iter body [] pos) (tS G (sForR gs t s)) := by
  refine psI h ?_
  rintro E σ H ⟨F, hs, ρ, R, p⟩
  refine rng1_of R ?_
  unfold sForR sExp at p
  cases z : gs ρ hs with
  | ok as h' =>
    rw [z] at p
    simp only at p
    cases w : rangeOf as with
    | none => rw [w] at p; exact p.elim
    | some ds =>
      rw [w] at p
      refine ⟨l _ _ _ _ z, ds, w, fun F' H' lo n st hh e => ?_⟩
      subst e
      exact for_inv ht (R.step st hh) (src_range lo n) (postS.after st.ff p)
  | err c d h' =>
    rw [z] at p
    exact fun F' H' dx v s h hx hn dp => p F' H' σ dx v s.ff (R.step s h) hx hn dp
  | stuck => rw [z] at p; exact p.elim
theorem p_forR2 {tg iter : Expr} {body : List Stmt} {gs : Rho → M (List D)} {gt : TG} {t : Tgt} {s : MS} (vs : List Nat) (ht : GOk G vs gt t) (l : ALen 2 gs)
    (h : PS X (.For tg iter body [] pos) (tFor (iRng2 (tA G gs)) gt (tS G s))) : PS X (.For tg iter body [] pos) (tS G (sForR gs t s)) := by
  refine psI h ?_
  rintro E σ H ⟨F, hs, ρ, R, p⟩
  refine rng2_of R ?_
  unfold sForR sExp at p
  cases z : gs ρ hs with
  | ok as h' =>
    rw [z] at p
    simp only at p
    cases w : rangeOf as with
    | none => rw [w] at p; exact p.elim
    | some ds =>
      rw [w] at p
      refine ⟨l _ _ _ _ z, ds, w, fun F' H' lo n st hh e => ?_⟩
      subst e
      exact for_inv ht (R.step st hh) (src_range lo n) (postS.after st.ff p)
  | err c d h' =>
    rw [z] at p
    exact fun F' H' dx v s h hx hn dp => p F' H' σ dx v s.ff (R.step s h) hx hn dp
  | stuck => rw [z] at p; exact p.elim
/-- while, at most n turns -/
theorem p_while {c : Expr} {body : List Stmt} {u : Rho → M Bool} {s : MS} (n : Nat) (h : PS X (.While c body [] pos) (tWhile (tT G u) (tS G s))) : PS X (.While c body [] pos) (tS G (loopW u s n)) := by
  refine psI h ?_
  rintro E σ H ⟨F, hs, ρ, R, p⟩
  refine ⟨fun m σ H => ∃ F hs ρ, Rel G F H hs ρ σ ∧ postS G F E (loopW u s m ρ hs), ⟨n, F, hs, ρ, R, p⟩, ?_⟩
  rintro m σ H ⟨F, hs, ρ, R, p⟩
  cases m with
  | zero => exact p.elim
  | succ m =>
    simp only [loopW] at p
    refine (exp_then (rel := relB) ⟨F, hs, ρ, R, p⟩).mono ?_
    rintro b H1 ⟨F1, hs1, ρ1, _, R1, rfl, p1⟩
    cases b with
    | false =>
      simp only [Bool.false_eq_true, if_false] at p1
      exact iteF (p1 F1 H1 σ (Same.refl F1) R1)
    | true =>
      simp only [if_true] at p1
      refine iteT ⟨fun σ' H' => ∃ F hs ρ, Rel G F H' hs ρ σ' ∧ postS G F E (loopW u s m ρ hs), fun σ' H' q => ⟨m, Nat.lt_succ_self m, q⟩, F1, hs1, ρ1, R1, ?_⟩
      cases w : s ρ1 hs1 with
      | ok f ρ2 h2 =>
        rw [w] at p1
        cases f with
        | nx => exact fun F2 H2 σ2 s2 R2 => ⟨F2, h2, ρ2, R2, p1.after s2⟩
        | ct => exact fun F2 H2 σ2 s2 R2 => ⟨F2, h2, ρ2, R2, p1.after s2⟩
        | bk => exact p1
        | rt d => exact p1
      | err c d ρ2 h2 => rw [w] at p1; exact p1
      | stuck => rw [w] at p1; exact p1.elim
end

/-! ### comprehensions -/
abbrev Gh.mute (G : Gh) : Gh := { G with W := fun _ _ _ _ => False }
section
variable {G : Gh} {F H : Hp} {hs : HS} {ρ : Rho} {σ : St}
theorem Rel.mute (R : Rel G F H hs ρ σ) : Rel G.mute F H hs ρ σ := ⟨R.sub, R.hand, R.base, R.f0, R.new0, R.len, R.slots, R.apart⟩
theorem Rel.unmute (R : Rel G.mute F H hs ρ σ) : Rel G F H hs ρ σ := ⟨R.sub, R.hand, R.base, R.f0, R.new0, R.len, R.slots, R.apart⟩
theorem Rel.wipe (R : Rel G F H hs ρ σ) : ∀ vs : List Nat, Rel G F H hs (wipeR ρ vs) (L2.wipe σ vs)
  | [] => R
  | v :: vs => (Rel.wipe R vs).gone v
/-- one more slot behind -/
theorem Rel.push (R : Rel G F H hs ρ σ) {p : Addr} (np : H p = none) : Rel G F (upd H p (.lst [])) hs (ρ ++ [.own []]) (σ ++ [some (.ref p)]) := by
  have R1 : Rel G F H hs (ρ ++ [.no]) (σ ++ [none]) := by
    refine ⟨R.sub, R.hand, R.base, R.f0, R.new0, by simp [R.len], fun i s e => ?_, fun i j x y a hij e1 e2 o1 o2 e3 => ?_⟩
    · by_cases hi : i < ρ.length
      · rw [List.getElem?_append_left hi] at e
        rw [List.getElem?_append_left (by rw [R.len]; exact hi)]
        exact R.slots i s e
      · rw [List.getElem?_append_right (by omega)] at e
        have : s = .no := by
          have m := List.mem_of_getElem? e
          simpa using m
        subst this
        trivial
    · have old : ∀ (k : Nat) (x : Sl), (ρ ++ [Sl.no])[k]? = some x → isOwn x = true → k < ρ.length := by
        intro k x e o
        by_cases hk : k < ρ.length
        · exact hk
        · rw [List.getElem?_append_right (by omega)] at e
          have m := List.mem_of_getElem? e
          simp at m
          subst m
          cases o
      have hi := old i x e1 o1
      have hj := old j y e2 o2
      rw [List.getElem?_append_left hi] at e1
      rw [List.getElem?_append_left hj] at e2
      rw [List.getElem?_append_left (by rw [R.len]; exact hi)] at e3
      rw [List.getElem?_append_left (by rw [R.len]; exact hj)]
      exact R.apart i j x y a hij e1 e2 o1 o2 e3
  have R2 := R1.fresh np ρ.length
  rw [List.set_append_right _ _ (Nat.le_refl _), Nat.sub_self] at R2
  rw [← R.len, List.set_append_right _ _ (Nat.le_refl _), Nat.sub_self] at R2
  exact R2
theorem Rel.pop {s : Sl} {x : Option V} (R : Rel G F H hs (ρ ++ [s]) (σ ++ [x])) : Rel G F H hs ρ σ := by
  have len : σ.length = ρ.length := by have := R.len; simp at this; exact this
  have lf : ∀ {i : Nat} {s : Sl}, ρ[i]? = some s → i < ρ.length := fun {i s} e => (List.getElem?_eq_some_iff.mp e).1
  refine ⟨R.sub, R.hand, R.base, R.f0, R.new0, len, fun i s e => ?_, fun i j x y a hij e1 e2 o1 o2 e3 => ?_⟩
  · have q := R.slots i s (by rw [List.getElem?_append_left (lf e)]; exact e)
    rw [List.getElem?_append_left (by rw [len]; exact lf e)] at q
    exact q
  · have q := R.apart i j x y a hij (by rw [List.getElem?_append_left (lf e1)]; exact e1) (by rw [List.getElem?_append_left (lf e2)]; exact e2) o1 o2 (by rw [List.getElem?_append_left (by rw [len]; exact lf e1)]; exact e3)
    rw [List.getElem?_append_left (by rw [len]; exact lf e2)] at q
    exact q
theorem rd_nerr {α β : Type} {rel : Hp → β → α → Prop} {g : Rho → M α} {P : α → HS → Prop} (R : Rel G F H hs ρ σ) (p : match nerr (g ρ) hs with | .ok a h' => P a h' | _ => False) :
    rd G.mute rel g σ H fun v H1 => ∃ F1 hs1 a, Rel G F1 H1 hs1 ρ σ ∧ Step G.ha F H F1 H1 ∧ rel F1 v a ∧ P a hs1 := by
  refine ⟨F, hs, ρ, R.mute, ?_⟩
  unfold nerr at p
  cases z : g ρ hs with
  | ok a h' =>
    rw [z] at p
    exact fun F' H' v s hh r => ⟨F', h', a, R.step s hh, s, r, p⟩
  | err c d h' => rw [z] at p; exact p.elim
  | stuck => rw [z] at p; exact p.elim
theorem post_nerr {α β γ : Type} {rel : Hp → β → γ → Prop} {Q : β → Hp → Prop} {x : M α} {k : α → M γ} (p : post G σ F H rel Q (bnd (nerr x) k hs)) : match nerr x hs with | .ok a h' => post G σ F H rel Q (k a h') | _ => False := by
  unfold bnd at p
  cases z : nerr x hs with
  | ok a h' => rw [z] at p; exact p
  | err c d h' =>
    unfold nerr at z
    cases w : x hs with
    | ok _ _ => rw [w] at z; cases z
    | err _ _ _ => rw [w] at z; cases z
    | stuck => rw [w] at z; cases z
  | stuck => rw [z] at p; exact p.elim
/-- the comprehension's invariant -/
theorem comp_inv {J : It} {ds : List D} {gt : TG} {t : Tgt} {vs : List Nat} {c : Rho → M Bool} {g : Rho → M D} {Q : VK} {Dd : Addr} (ht : GOk G vs gt t) (R : Rel G F H hs ρ σ) (S : Src G.K J ds F) (nD : H Dd = none)
    (p : post G σ F H (relE G) Q (comp1 t c g (wipeR ρ vs) ds [] hs)) :
    ∃ W : Nat → Nat → Hp → Prop, (∃ m, W 0 m (upd H Dd (.lst []))) ∧ ∀ i m H, W i m H →
      (J.stop i H ∧ Q (.ref Dd) H) ∨ (J.go i H ∧ ∃ Nx : Hp → Prop, (∀ H', Nx H' → ∃ m', m' < m ∧ W (i + 1) m' H') ∧ ∀ x H', J.yld i H x H' → gt x (L2.wipe σ vs) H' fun σ2 H2 => L2.wipe σ2 vs = L2.wipe σ vs ∧ tT G.mute c σ2 H2 fun b H3 =>
        if b = true then tE G.mute g σ2 H3 fun y H4 => ∃ acc, H4 Dd = some (.lst acc) ∧ acc.length < sizeLine ∧ Nx (upd H4 Dd (.lst (acc ++ [y]))) else Nx H3) := by
  -- at a turn: what is made so far stands in one more slot
  let Iv : Nat → Hp → Prop := fun i H' => ∃ F' hs' acc, Rel G F' H' hs' (wipeR ρ vs ++ [.own acc]) (L2.wipe σ vs ++ [some (.ref Dd)]) ∧ Step G.ha F H F' H' ∧ Src G.K J ds F' ∧ post G σ F H (relE G) Q (comp1 t c g (wipeR ρ vs) (ds.drop i) acc hs')
  have st0 : PStep F H F (upd H Dd (.lst [])) := PStep.garb R.sub nD
  refine ⟨fun i m H' => m = ds.length - i ∧ i ≤ ds.length ∧ Iv i H', ⟨ds.length, by simp, Nat.zero_le _, F, hs, [], (R.wipe vs).push nD, st0.step, S, by simpa using p⟩, ?_⟩
  rintro i m H' ⟨rfl, hi, F', hs', acc, RX, st, S', p'⟩
  have slot : (wipeR ρ vs ++ [Sl.own acc])[(wipeR ρ vs).length]? = some (.own acc) := by simp
  have len2 : (L2.wipe σ vs).length = (wipeR ρ vs).length := (RX.pop).len
  have slotV : (L2.wipe σ vs ++ [some (V.ref Dd)])[(wipeR ρ vs).length]? = some (some (.ref Dd)) := by rw [← len2]; simp
  by_cases hlt : i < ds.length
  · have e : ds[i]? = some ds[i] := List.getElem?_eq_getElem hlt
    obtain ⟨gg, y⟩ := S'.go F' H' i ds[i] (Same.refl F') RX.sub e
    refine .inr ⟨gg, Iv (i + 1), fun H2 q => ⟨ds.length - (i + 1), by omega, rfl, hlt, q⟩, fun x H2 yy => ?_⟩
    obtain ⟨rfl, dx⟩ := y x H2 yy
    rw [List.drop_eq_getElem_cons hlt] at p'
    simp only [comp1] at p'
    cases z : t ds[i] (wipeR ρ vs) with
    | none => rw [z] at p'; exact p'.elim
    | some ρ1 =>
      rw [z] at p'
      simp only at p'
      refine ht F' H2 hs' _ ρ1 _ x ds[i] _ RX.pop (.inl dx) z fun σ1 R1 w1 => ⟨by rw [w1, wipe_wipe], ?_⟩
      refine (rd_nerr (rel := relB) R1 (post_nerr p')).mono ?_
      rintro b H3 ⟨F3, hs3, b', R3, s3, rfl, p3⟩
      have RX3 := RX.step s3 R3.hand
      have st3 := st.trans s3 fun x e => (R3.hand x e).1
      cases b with
      | false =>
        simp only [Bool.false_eq_true, if_false] at p3
        exact iteF ⟨F3, hs3, acc, RX3, st3, S'.after s3.ff, p3⟩
      | true =>
        simp only [if_true] at p3
        refine iteT ((rd_nerr (rel := relE G) R3 (post_nerr p3)).mono ?_)
        rintro v H4 ⟨F4, hs4, d, R4, s4, r4, p4⟩
        have RX4 := RX3.step s4 R4.hand
        have st4 := st3.trans s4 fun x e => (R4.hand x e).1
        split at p4
        · rename_i cnd
          obtain ⟨a', ws, ea, g1, g2, g3, g4, g5⟩ := RX4.slots _ _ slot
          rw [slotV] at ea
          cases ea
          refine ⟨ws, g1, by rw [dpAll_len g5]; exact line_of (Nat.le_of_lt cnd.2), F4, hs4, acc ++ [d], ?_, ?_, (S'.after s3.ff).after s4.ff, p4⟩
          · have q := RX4.app slot slotV g1 (r4.dp cnd.1)
            rw [List.set_append_right _ _ (Nat.le_refl _), Nat.sub_self] at q
            exact q
          · exact ⟨st4.ff, fun b o q => by rw [upd_ne (ne_of_none q g2)]; exact st4.fh b o q, fun b o q n => by rw [upd_ne (ne_of_none q nD)]; exact st4.keep b o q n, st4.new⟩
        · exact p4.elim
  · have e : i = ds.length := by omega
    subst e
    rw [List.drop_eq_nil_of_le (Nat.le_refl _)] at p'
    refine .inl ⟨S'.stop F' H' (Same.refl F') RX.sub, ?_⟩
    obtain ⟨a', ws, ea, g1, g2, g3, g4, g5⟩ := RX.slots _ _ slot
    rw [slotV] at ea
    cases ea
    obtain ⟨RF, dF⟩ := RX.freeze slot slotV g1
    refine p' _ H' (.ref Dd) ⟨fun b o q => ?_, RF.sub, st.keep, fun b q => ?_⟩ RF.hand (.inl dF)
    · have q' := st.ff b o q
      rw [upd_ne (ne_of_none q' g2)]; exact q'
    · by_cases hb : b = Dd
      · subst hb; exact .inr nD
      · rw [upd_ne hb] at q; exact st.new b q
end
section
variable {X : Cx} {G : Gh} {pos : Pos}
theorem comp_seq {gi : Rho → M D} {gt : TG} {t : Tgt} {vs : List Nat} {c : Rho → M Bool} {g : Rho → M D} {σ : St} {H : Hp} {Q : VK} (ht : GOk G vs gt t) (h : tE G (gComp vs gi t c g) σ H Q) : tLc (iSeq G.K (tE G gi)) gt (tT G.mute c) (tE G.mute g) vs σ H Q := by
  obtain ⟨F, hs, ρ, R, p⟩ := h
  refine iSeq_of (k := fun _ _ _ _ => True) R ?_
  unfold gComp bnd at p
  cases z : gi ρ hs with
  | ok d h' =>
    rw [z] at p
    simp only at p
    cases w : itemsOf d with
    | none => rw [w] at p; exact p.elim
    | some ds =>
      rw [w] at p
      exact ⟨ds, w, fun F' H' J st hh S Dd nD => comp_inv ht (R.step st hh) S nD (p.after st)⟩
  | err c d h' => rw [z] at p; exact p
  | stuck => rw [z] at p; exact p.elim
theorem comp_rng1 {gi : Rho → M (List D)} {gt : TG} {t : Tgt} {vs : List Nat} {c : Rho → M Bool} {g : Rho → M D} {σ : St} {H : Hp} {Q : VK} (l : ALen 1 gi) (ht : GOk G vs gt t) (h : tE G (gCompR vs gi t c g) σ H Q) : tLc (iRng1 (tA G gi)) gt (tT G.mute c) (tE G.mute g) vs σ H Q := by
  obtain ⟨F, hs, ρ, R, p⟩ := h
  refine rng1_of R ?_
  unfold gCompR bnd at p
  cases z : gi ρ hs with
  | ok as h' =>
    rw [z] at p
    simp only at p
    cases w : rangeOf as with
    | none => rw [w] at p; exact p.elim
    | some ds =>
      rw [w] at p
      refine ⟨l _ _ _ _ z, ds, w, fun F' H' lo n st hh e Dd nD => ?_⟩
      subst e
      exact comp_inv ht (R.step st hh) (src_range lo n) nD (p.after st)
  | err c d h' => rw [z] at p; exact p
  | stuck => rw [z] at p; exact p.elim
theorem comp_rng2 {gi : Rho → M (List D)} {gt : TG} {t : Tgt} {vs : List Nat} {c : Rho → M Bool} {g : Rho → M D} {σ : St} {H : Hp} {Q : VK} (l : ALen 2 gi) (ht : GOk G vs gt t) (h : tE G (gCompR vs gi t c g) σ H Q) : tLc (iRng2 (tA G gi)) gt (tT G.mute c) (tE G.mute g) vs σ H Q := by
  obtain ⟨F, hs, ρ, R, p⟩ := h
  refine rng2_of R ?_
  unfold gCompR bnd at p
  cases z : gi ρ hs with
  | ok as h' =>
    rw [z] at p
    simp only at p
    cases w : rangeOf as with
    | none => rw [w] at p; exact p.elim
    | some ds =>
      rw [w] at p
      refine ⟨l _ _ _ _ z, ds, w, fun F' H' lo n st hh e Dd nD => ?_⟩
      subst e
      exact comp_inv ht (R.step st hh) (src_range lo n) nD (p.after st)
  | err c d h' => rw [z] at p; exact p
  | stuck => rw [z] at p; exact p.elim
theorem q_yes : PTs X [] (tT G fun _ => ret true) := by
  refine ⟨fun pins s σ H Q I q => pts_nil.run pins s σ H Q I ?_⟩
  obtain ⟨F, hs, ρ, R, p⟩ := q
  exact p F H true (Step.refl R.sub) R.hand rfl
theorem q_if {c : Expr} {u : Rho → M Bool} (h : PT X c (tT G u)) : PTs X [c] (tT G u) := pts_one h
/-- as a value: from pe_lc -/
theorem e_lc {e : Expr} {gi : Rho → M D} {gt : TG} {t : Tgt} {vs : List Nat} {c : Rho → M Bool} {g : Rho → M D} (ht : GOk G vs gt t) (h : PE X e (tLc (iSeq G.K (tE G gi)) gt (tT G.mute c) (tE G.mute g) vs)) : PE X e (tE G (gComp vs gi t c g)) := peI h fun _ _ _ q => comp_seq ht q
theorem e_lcR1 {e : Expr} {gi : Rho → M (List D)} {gt : TG} {t : Tgt} {vs : List Nat} {c : Rho → M Bool} {g : Rho → M D} (l : ALen 1 gi) (ht : GOk G vs gt t) (h : PE X e (tLc (iRng1 (tA G gi)) gt (tT G.mute c) (tE G.mute g) vs)) : PE X e (tE G (gCompR vs gi t c g)) := peI h fun _ _ _ q => comp_rng1 l ht q
theorem e_lcR2 {e : Expr} {gi : Rho → M (List D)} {gt : TG} {t : Tgt} {vs : List Nat} {c : Rho → M Bool} {g : Rho → M D} (l : ALen 2 gi) (ht : GOk G vs gt t) (h : PE X e (tLc (iRng2 (tA G gi)) gt (tT G.mute c) (tE G.mute g) vs)) : PE X e (tE G (gCompR vs gi t c g)) := peI h fun _ _ _ q => comp_rng2 l ht q
/-- name = [..]: from ps_setLc -/
theorem p_setE {i : Nat} {st : Stmt} {te : TE} {g : Rho → M D} (i : Nat) (he : ∀ σ H Q, tE G g σ H Q → te σ H Q) (h : PS X st (tAsg te (gName i))) : PS X st (tS G (sSet i g)) := by
  refine psI h fun E σ H q => ?_
  refine he σ H _ ((exp_then (rel := relE G) q).mono ?_)
  rintro v H1 ⟨F, hs, ρ, d, R, r, p⟩
  exact p F H1 _ (Same.refl F) (R.put i r)
end
end L2.AR
set_option Elab.async false
set_option linter.all false
set_option maxRecDepth 100000
set_option maxHeartbeats 4000000
/-! Fw7: the operations on data. -/
namespace L2.AR
open PySem PySem.Spec PyProof.Rows

/-! ### whole numbers -/
def iop (C : Int → Int → Bool) (g : Int → Int → Int) : D → D → Option D
  | .int i, .int j => if C i j then some (.int (g i j)) else none
  | _, _ => none
def icmp (g : Int → Int → Bool) : D → D → Option D
  | .int i, .int j => some (.bool (g i j))
  | _, _ => none
def fst2 (f g : D → D → Option D) (x y : D) : Option D := (f x y).orElse fun _ => g x y
section
variable {K : PySem.W.Frag}
theorem r2_or {r r' : R2} {f g : D → D → Option D} (h : R2ok K r f) (h' : R2ok K r' g) : R2ok K (fun x y H Q => r x y H Q ∨ r' x y H Q) (fst2 f g) := by
  intro F H v w x y z Q s hv hw e q
  unfold fst2 at e
  cases c : f x y with
  | some u =>
    rw [c] at e
    cases e
    exact .inl (h F H v w x y z Q s hv hw c q)
  | none =>
    rw [c] at e
    exact .inr (h' F H v w x y z Q s hv hw e q)
theorem r2_iop {C : Int → Int → Prop} {c : Int → Int → Bool} {g : Int → Int → Int} (h : ∀ i j, c i j = true → C i j) : R2ok K (rI C fun i j => .int (g i j)) (iop c g) := by
  intro F H v w x y z Q s hv hw e q
  cases x with
  | int i =>
    cases y with
    | int j =>
      cases hv
      cases hw
      have e' : (if c i j then some (PyData.int (g i j)) else none) = some z := e
      by_cases b : c i j = true
      · rw [if_pos b] at e'
        cases e'
        exact ⟨i, j, rfl, rfl, h i j b, q _ _ _ (PStep.refl s) (.int _)⟩
      · rw [if_neg b] at e'
        cases e'
    | _ => cases e
  | _ => cases e
theorem r2_iop0 {g : Int → Int → Int} : R2ok K (rI0 fun i j => .int (g i j)) (iop (fun _ _ => true) g) := by
  intro F H v w x y z Q s hv hw e q
  cases x with
  | int i =>
    cases y with
    | int j =>
      cases hv
      cases hw
      cases e
      exact ⟨i, j, rfl, rfl, q _ _ _ (PStep.refl s) (.int _)⟩
    | _ => cases e
  | _ => cases e
theorem r2_icmp {g : Int → Int → Bool} : R2ok K (rI0 fun i j => .bl (g i j)) (icmp g) := by
  intro F H v w x y z Q s hv hw e q
  cases x with
  | int i =>
    cases y with
    | int j =>
      cases hv
      cases hw
      cases e
      exact ⟨i, j, rfl, rfl, q _ _ _ (PStep.refl s) (.bl _)⟩
    | _ => cases e
  | _ => cases e
end
def small64 (i : Int) : Bool := decide (i.natAbs < 2 ^ 64)
def fSub := iop (fun _ _ => true) (· - ·)
def fAddI := iop (fun _ _ => true) (· + ·)
def fMul := iop (fun i j => small64 i || small64 j || decide (i.natAbs.log2 + j.natAbs.log2 < 1000000)) (· * ·)
def fDiv := iop (fun i j => decide (0 < j) && decide (j.natAbs.log2 < 9000)) (· / ·)
def fMod := iop (fun _ j => decide (j ≠ 0)) Int.fmod
def fPow := iop (fun i j => decide (0 ≤ j) && decide (j ≤ 1000000) && small64 i) (fun i j => i ^ j.toNat)
def fShl := iop (fun i j => decide (0 ≤ j) && decide (j ≤ 1000000) && small64 i) (fun i j => i * 2 ^ j.toNat)
def fShr := iop (fun _ j => decide (0 ≤ j)) (fun i j => i / 2 ^ j.toNat)
def fAnd := iop (fun _ _ => true) Builtin.bitAnd
def fOr := iop (fun _ _ => true) Builtin.bitOr
def fLt := icmp fun i j => decide (i < j)
def fLe := icmp fun i j => decide (i ≤ j)
def fGt := icmp fun i j => decide (j < i)
def fGe := icmp fun i j => decide (j ≤ i)
section
variable {X : Cx} {K : PySem.W.Frag}
theorem small64_of {i : Int} (h : small64 i = true) : -(2 ^ 64) < i ∧ i < 2 ^ 64 := by
  unfold small64 at h
  have h := of_decide_eq_true h
  omega
theorem sub_ok : R2ok K (rI0 fun i j => .int (i - j)) fSub := r2_iop0
theorem addI_ok : R2ok K (rI0 fun i j => .int (i + j)) fAddI := r2_iop0
def rMulA : R2 := rI (fun i j => CMul i j ∨ CMulW i j) fun i j => .int (i * j)
theorem op_mulA : OpR X (binaryOp .Mult) rMulA := opI fun _ _ _ _ _ _ _ hc q => mul_int q (hc.elim CMul.ok CMulW.ok)
theorem mul_ok : R2ok K rMulA fMul := r2_iop fun i j h => by
  simp only [Bool.or_eq_true, decide_eq_true_eq] at h
  rcases h with (h | h) | h
  · exact .inl (.inl (small64_of h))
  · exact .inl (.inr (small64_of h))
  · exact .inr h
theorem div_ok : R2ok K (rI CDivW fun i j => .int (i / j)) fDiv := r2_iop fun i j h => by
  simp only [Bool.and_eq_true, decide_eq_true_eq] at h
  exact h
theorem mod_ok : R2ok K (rI (fun _ j => j ≠ 0) fun i j => .int (i.fmod j)) fMod := r2_iop fun i j h => of_decide_eq_true h
theorem pow_ok : R2ok K (rI CPow fun i j => .int (i ^ j.toNat)) fPow := r2_iop fun i j h => by
  simp only [Bool.and_eq_true, decide_eq_true_eq] at h
  have := small64_of h.2
  exact ⟨h.1.1, h.1.2, by omega⟩
theorem shl_ok : R2ok K (rI CPow fun i j => .int (i * 2 ^ j.toNat)) fShl := r2_iop fun i j h => by
  simp only [Bool.and_eq_true, decide_eq_true_eq] at h
  have := small64_of h.2
  exact ⟨h.1.1, h.1.2, by omega⟩
theorem shr_ok : R2ok K (rI (fun _ j => 0 ≤ j) fun i j => .int (i / 2 ^ j.toNat)) fShr := r2_iop fun i j h => of_decide_eq_true h
theorem and_ok : R2ok K (rI0 fun i j => .int (Builtin.bitAnd i j)) fAnd := r2_iop0
theorem or_ok : R2ok K (rI0 fun i j => .int (Builtin.bitOr i j)) fOr := r2_iop0
theorem lt_ok : R2ok K (rI0 fun i j => .bl (decide (i < j))) fLt := r2_icmp
theorem le_ok : R2ok K (rI0 fun i j => .bl (decide (i ≤ j))) fLe := r2_icmp
theorem gt_ok : R2ok K (rI0 fun i j => .bl (decide (j < i))) fGt := r2_icmp
theorem ge_ok : R2ok K (rI0 fun i j => .bl (decide (j ≤ i))) fGe := r2_icmp

/-! ### +: ints, texts, lists, tuples -/
def fAddS : D → D → Option D
  | .str a, .str b => if a.length + b.length ≤ 1000000 then some (.str (a ++ b)) else none
  | .list a, .list b => if a.length + b.length ≤ 1000000 then some (.list (a ++ b)) else none
  | .tuple a, .tuple b => if a.length + b.length ≤ 1000000 then some (.tuple (a ++ b)) else none
  | _, _ => none
def fAdd := fst2 fAddI fAddS
def rAddS (K : PySem.W.Frag) : R2 := fun x y H Q => (∃ i j, x = .str i ∧ y = .str j ∧ i.length + j.length ≤ sizeLine ∧ Q (.str (i ++ j)) H) ∨ rCat x y H Q ∨ rCatA K x y H Q
theorem addS_ok : R2ok K (rAddS K) fAddS := by
  intro F H v w x y z Q s hv hw e q
  cases x with
  | str a =>
    cases y with
    | str b =>
      cases hv
      cases hw
      have e' : (if a.length + b.length ≤ 1000000 then some (PyData.str (a ++ b)) else none) = some z := e
      by_cases c : a.length + b.length ≤ 1000000
      · rw [if_pos c] at e'
        cases e'
        exact .inl ⟨a, b, rfl, rfl, Nat.le_of_lt (line_of c), q _ _ _ (PStep.refl s) (.str _)⟩
      · rw [if_neg c] at e'
        cases e'
    | _ => cases e
  | list a =>
    cases y with
    | list b =>
      cases hv with
      | lst h1 h2 =>
        cases hw with
        | lst g1 g2 =>
          rename_i pa xs pb ys
          have e' : (if a.length + b.length ≤ 1000000 then some (PyData.list (a ++ b)) else none) = some z := e
          by_cases c : a.length + b.length ≤ 1000000
          · rw [if_pos c] at e'
            cases e'
            refine .inr (.inl ⟨pa, pb, xs, ys, rfl, rfl, s _ _ h1, s _ _ g1, by rw [dpAll_len h2, dpAll_len g2]; exact Nat.le_of_lt (line_of c), fun p np => q _ _ _ (PStep.alloc s np) ?_⟩)
            exact .lst upd_same (dpAll_same (PStep.alloc s np (o := .lst (xs ++ ys))).ff _ _ (dpAll_append h2 g2))
          · rw [if_neg c] at e'
            cases e'
    | _ => cases e
  | tuple a =>
    cases y with
    | tuple b =>
      cases hv with
      | tup h1 h2 =>
        cases hw with
        | tup g1 g2 =>
          rename_i pa xs pb ys
          have e' : (if a.length + b.length ≤ 1000000 then some (PyData.tuple (a ++ b)) else none) = some z := e
          by_cases c : a.length + b.length ≤ 1000000
          · rw [if_pos c] at e'
            cases e'
            refine .inr (.inr ⟨pa, pb, xs, ys, rfl, rfl, sqt_same s h1, sqt_same s g1, by rw [dpAll_len h2, dpAll_len g2]; exact Nat.le_of_lt (line_of c), fun z => ?_, fun z1 z2 => ?_, fun _ _ p np => q _ _ _ (PStep.alloc s np) ?_⟩)
            · subst z
              cases h2
              exact q _ _ _ (PStep.refl s) (.tup g1 g2)
            · subst z2
              cases g2
              rw [List.append_nil] at q
              exact q _ _ _ (PStep.refl s) (.tup h1 h2)
            · exact .tup (SqT.of upd_same) (dpAll_same (PStep.alloc s np (o := .tup (xs ++ ys))).ff _ _ (dpAll_append h2 g2))
          · rw [if_neg c] at e'
            cases e'
    | _ => cases e
  | _ => cases e
theorem op_addS : OpR X (binaryOp .Add) (rAddS X.K) := OpR.or op_add_str (OpR.or op_cat op_catA)
theorem op_addA : OpR X (binaryOp .Add) (fun x y H Q => (rI0 fun i j => .int (i + j)) x y H Q ∨ rAddS X.K x y H Q) := OpR.or op_add op_addS
theorem add_ok : R2ok K (fun x y H Q => (rI0 fun i j => .int (i + j)) x y H Q ∨ rAddS K x y H Q) fAdd := r2_or addI_ok addS_ok

/-! ### ==, !=, is None, in -/
def fEqD (x y : D) : Option D := if SeqAt.shaped x = true ∧ SeqAt.shaped y = true then some (.bool (PyData.eqv x y)) else none
def fNeD (x y : D) : Option D := if SeqAt.shaped x = true ∧ SeqAt.shaped y = true then some (.bool (!PyData.eqv x y)) else none
def fEqS : D → D → Option D
  | .str a, .str b => some (.bool (a == b))
  | _, _ => none
def fNeS : D → D → Option D
  | .str a, .str b => some (.bool (!(a == b)))
  | _, _ => none
def fEq := fst2 fEqS fEqD
def fNe := fst2 fNeS fNeD
theorem eqS_ok : R2ok K rEq fEqS := by
  intro F H v w x y z Q s hv hw e q
  unfold fEqS at e
  split at e
  · cases e
    cases hv
    cases hw
    refine ⟨rfl, ?_⟩
    rw [dec_str]
    exact q _ _ _ (PStep.refl s) (.bl _)
  · cases e
theorem neS_ok : R2ok K rNe fNeS := by
  intro F H v w x y z Q s hv hw e q
  unfold fNeS at e
  split at e
  · cases e
    cases hv
    cases hw
    refine ⟨rfl, ?_⟩
    rw [dec_str]
    exact q _ _ _ (PStep.refl s) (.bl _)
  · cases e
theorem eqD_ok : R2ok K (rEqD K) fEqD := by
  intro F H v w x y z Q s hv hw e q
  unfold fEqD at e
  split at e
  · rename_i c
    cases e
    exact ⟨x, y, dq_dp x v (dp_same s _ _ hv), dq_dp y w (dp_same s _ _ hw), c.1, c.2, q _ _ _ (PStep.refl s) (.bl _)⟩
  · cases e
theorem neD_ok : R2ok K (rNeD K) fNeD := by
  intro F H v w x y z Q s hv hw e q
  unfold fNeD at e
  split at e
  · rename_i c
    cases e
    exact ⟨x, y, dq_dp x v (dp_same s _ _ hv), dq_dp y w (dp_same s _ _ hw), c.1, c.2, q _ _ _ (PStep.refl s) (.bl _)⟩
  · cases e
theorem eq_ok : R2ok K (fun x y H Q => rEq x y H Q ∨ rEqD K x y H Q) fEq := r2_or eqS_ok eqD_ok
theorem ne_ok : R2ok K (fun x y H Q => rNe x y H Q ∨ rNeD K x y H Q) fNe := r2_or neS_ok neD_ok
theorem op_eqA (hu : X.A.units + 64 < cLine) : OpR X (compareOp .Eq) (fun x y H Q => rEq x y H Q ∨ rEqD X.K x y H Q) := OpR.or op_eq (op_eqD hu)
theorem op_neA (hu : X.A.units + 64 < cLine) : OpR X (compareOp .NotEq) (fun x y H Q => rNe x y H Q ∨ rNeD X.K x y H Q) := OpR.or op_ne (op_neD hu)
def isNon : D → Bool
  | .none => true
  | _ => false
def fIsN (x y : D) : Option D := if isNon y = true then some (.bool (isNon x)) else none
def fNotN (x y : D) : Option D := if isNon y = true then some (.bool (!isNon x)) else none
theorem isNon_of {F : Hp} {v : V} {x : D} (h : Dq K F v x) : decide (v = .non) = isNon x := by
  cases h <;> rfl
theorem isNon_v {F : Hp} {v : V} {x : D} (h : Dq K F v x) (e : isNon x = true) : v = .non := by
  cases h <;> first | rfl | cases e
theorem isN_ok : R2ok K (fun x y H Q => y = .non ∧ Q (.bl (decide (x = .non))) H) fIsN := by
  intro F H v w x y z Q s hv hw e q
  unfold fIsN at e
  split at e
  · rename_i c
    cases e
    refine ⟨isNon_v hw c, ?_⟩
    rw [isNon_of hv]
    exact q _ _ _ (PStep.refl s) (.bl _)
  · cases e
theorem notN_ok : R2ok K (fun x y H Q => y = .non ∧ Q (.bl (!decide (x = .non))) H) fNotN := by
  intro F H v w x y z Q s hv hw e q
  unfold fNotN at e
  split at e
  · rename_i c
    cases e
    refine ⟨isNon_v hw c, ?_⟩
    rw [isNon_of hv]
    exact q _ _ _ (PStep.refl s) (.bl _)
  · cases e
def toV : D → V
  | .bool b => .bl b
  | .int i => .int i
  | .str x => .str x
  | _ => .non
def flatD : D → Bool
  | .none => true
  | .bool _ => true
  | .int _ => true
  | .str _ => true
  | _ => false
theorem toV_of {F : Hp} {v : V} {x : D} (h : Dq K F v x) (f : flatD x = true) : v = toV x ∧ flatV v = true := by
  cases h <;> first | exact ⟨rfl, rfl⟩ | cases f
theorem toV_all {F : Hp} : ∀ {vs : List V} {ds : List D}, DqAll K F vs ds → ds.all flatD = true → vs = ds.map toV ∧ vs.all flatV = true
  | _, _, .nil, _ => ⟨rfl, rfl⟩
  | _, _, .cons r t, f => by
    rw [List.all_cons, Bool.and_eq_true] at f
    obtain ⟨e, g⟩ := toV_of r f.1
    obtain ⟨e2, g2⟩ := toV_all t f.2
    refine ⟨by rw [List.map_cons, ← e, ← e2], ?_⟩
    rw [List.all_cons, g, g2]
    rfl
def fIn (neg : Bool) (x y : D) : Option D :=
  match itemsOf y with
  | some ds => if flatD x = true ∧ ds.all flatD = true then some (.bool (if neg then !inV (toV x) (ds.map toV) else inV (toV x) (ds.map toV))) else none
  | none => none
theorem in_ok {neg : Bool} : R2ok K (rIn K neg) (fIn neg) := by
  intro F H v w x y z Q s hv hw e q
  unfold fIn at e
  have key : ∀ (ds : List D), itemsOf y = some ds → ∃ p xs, w = .ref p ∧ (SqL K H p xs ∨ SqT K H p xs) ∧ DqAll K F xs ds := by
    intro ds ei
    cases y with
    | list ys =>
      cases ei
      cases hw with
      | lst h1 h2 => exact ⟨_, _, rfl, .inl (SqL.of (s _ _ h1)), h2⟩
    | tuple ys =>
      cases ei
      cases hw with
      | tup h1 h2 => exact ⟨_, _, rfl, .inr (sqt_same s h1), h2⟩
    | _ => cases ei
  cases c : itemsOf y with
  | none => rw [c] at e; cases e
  | some ds =>
    rw [c] at e
    obtain ⟨p, xs, rfl, hs, ha⟩ := key ds c
    simp only at e
    split at e
    · rename_i f
      cases e
      obtain ⟨e1, f1⟩ := toV_of hv f.1
      obtain ⟨e2, f2⟩ := toV_all ha f.2
      refine ⟨p, xs, rfl, hs, f1, f2, ?_⟩
      rw [e1, e2]
      exact q _ _ _ (PStep.refl s) (.bl _)
    · cases e

/-! ### items -/
def fIx : D → D → Option D
  | .list ds, .int i => atI ds i
  | .tuple ds, .int i => atI ds i
  | .str x, .int i => if x.length ≤ 1000000 then (atI x.cps.toList i).map fun c => .str ⟨#[c]⟩ else none
  | _, _ => none
theorem atI_of {F : Hp} {vs : List V} {ds : List D} {i : Int} {z : D} (h : DqAll K F vs ds) (e : atI ds i = some z) : ∃ u, atI vs i = some u ∧ Dq K F u z := by
  unfold atI at e ⊢
  rw [dpAll_len h]
  cases c : ixN ds.length i with
  | none => rw [c] at e; cases e
  | some j =>
    rw [c] at e
    have e' : ds[j]? = some z := e
    exact dpAll_get' h e'
theorem ix_ok : R2ok K (rIx K) fIx := by
  intro F H v w x y z Q s hv hw e q
  cases x with
  | list ds =>
    cases y with
    | int i =>
      cases hw
      cases hv with
      | lst h1 h2 =>
        obtain ⟨u, e1, e2⟩ := atI_of h2 e
        exact .inl ⟨_, _, i, u, rfl, rfl, SqL.of (s _ _ h1), e1, q _ _ _ (PStep.refl s) e2⟩
    | _ => cases e
  | tuple ds =>
    cases y with
    | int i =>
      cases hw
      cases hv with
      | tup h1 h2 =>
        obtain ⟨u, e1, e2⟩ := atI_of h2 e
        exact .inr (.inl ⟨_, _, i, u, rfl, rfl, sqt_same s h1, e1, q _ _ _ (PStep.refl s) e2⟩)
    | _ => cases e
  | str x =>
    cases y with
    | int i =>
      cases hw
      cases hv
      have e' : (if x.length ≤ 1000000 then (atI x.cps.toList i).map fun c => (PyData.str ⟨#[c]⟩) else none) = some z := e
      by_cases c : x.length ≤ 1000000
      · rw [if_pos c] at e'
        cases g : atI x.cps.toList i with
        | none => rw [g] at e'; cases e'
        | some c' =>
          rw [g] at e'
          cases e'
          exact .inr (.inr ⟨x, i, c', rfl, rfl, Nat.le_of_lt (line_of c), g, q _ _ _ (PStep.refl s) (.str _)⟩)
      · rw [if_neg c] at e'
        cases e'
    | _ => cases e
  | _ => cases e

/-! ### built-in calls -/
theorem CallR.or {f : Value} {r r' : List V → Hp → VK → Prop} (h : CallR X f r) (h' : CallR X f r') : CallR X f (fun xs H Q => r xs H Q ∨ r' xs H Q) :=
  fun pins s σ H xs us Q I rx q => q.elim (h pins s σ H xs us Q I rx) (h' pins s σ H xs us Q I rx)
theorem one_val {F : Hp} {vs : List V} {d : D} (h : DqAll K F vs [d]) : ∃ v, vs = [v] ∧ Dq K F v d := by
  cases h with
  | cons r t => cases t; exact ⟨_, rfl, r⟩
theorem two_val {F : Hp} {vs : List V} {d e : D} (h : DqAll K F vs [d, e]) : ∃ v w, vs = [v, w] ∧ Dq K F v d ∧ Dq K F w e := by
  cases h with
  | cons r t =>
    obtain ⟨w, rfl, r2⟩ := one_val t
    exact ⟨_, w, rfl, r, r2⟩
def fLen : List D → Option D
  | [.list ds] => some (.int ds.length)
  | [.tuple ds] => some (.int ds.length)
  | [.str x] => if x.length ≤ 1000000 then some (.int x.length) else none
  | _ => none
theorem len_ok : RAok K (fun xs H Q => (∃ p ys, xs = [V.ref p] ∧ (SqL K H p ys ∨ SqT K H p ys) ∧ Q (.int ys.length) H) ∨ (∃ z, xs = [V.str z] ∧ z.length ≤ sizeLine ∧ Q (.int z.length) H)) fLen := by
  intro F H vs ds z Q s h e q
  match ds, e, h with
  | [.list xs], e, h =>
    obtain ⟨v, rfl, r⟩ := one_val h
    cases e
    cases r with
    | lst h1 h2 =>
      refine .inl ⟨_, _, rfl, .inl (SqL.of (s _ _ h1)), ?_⟩
      rw [dpAll_len h2]
      exact q _ _ _ (PStep.refl s) (.int _)
  | [.tuple xs], e, h =>
    obtain ⟨v, rfl, r⟩ := one_val h
    cases e
    cases r with
    | tup h1 h2 =>
      refine .inl ⟨_, _, rfl, .inr (sqt_same s h1), ?_⟩
      rw [dpAll_len h2]
      exact q _ _ _ (PStep.refl s) (.int _)
  | [.str x], e, h =>
    obtain ⟨v, rfl, r⟩ := one_val h
    have e' : (if x.length ≤ 1000000 then some (PyData.int x.length) else none) = some z := e
    by_cases c : x.length ≤ 1000000
    · rw [if_pos c] at e'
      cases e'
      cases r
      exact .inr ⟨x, rfl, Nat.le_of_lt (line_of c), q _ _ _ (PStep.refl s) (.int _)⟩
    · rw [if_neg c] at e'
      cases e'
  | [], e, _ => cases e
  | [.none], e, _ => cases e
  | [.bool _], e, _ => cases e
  | [.int _], e, _ => cases e
  | [.dict _], e, _ => cases e
  | x :: _ :: _, e, _ => cases x <;> cases e
theorem call_lenA : CallR X (.builtin "len") (fun xs H Q => (∃ p ys, xs = [V.ref p] ∧ (SqL X.K H p ys ∨ SqT X.K H p ys) ∧ Q (.int ys.length) H) ∨ (∃ z, xs = [V.str z] ∧ z.length ≤ sizeLine ∧ Q (.int z.length) H)) := CallR.or call_len_seq call_len_str
def fTuple : List D → Option D
  | [.list ds] => some (.tuple ds)
  | [.tuple ds] => some (.tuple ds)
  | _ => none
theorem tuple_ok : RAok K (fun xs H Q => ∃ p ys, xs = [.ref p] ∧ ((SqL K H p ys ∧ ∀ l, H l = none → Q (.ref l) (upd H l (.tup ys))) ∨ (SqT K H p ys ∧ Q (.ref p) H))) fTuple := by
  intro F H vs ds z Q s h e q
  match ds, e, h with
  | [.list xs], e, h =>
    obtain ⟨v, rfl, r⟩ := one_val h
    cases e
    cases r with
    | @lst _ vs' _ h1 h2 =>
      refine ⟨_, _, rfl, .inl ⟨SqL.of (s _ _ h1), fun l nl => q _ _ _ (PStep.alloc s nl) ?_⟩⟩
      exact .tup (SqT.of upd_same) (dpAll_same (PStep.alloc s nl (o := .tup vs')).ff _ _ h2)
  | [.tuple xs], e, h =>
    obtain ⟨v, rfl, r⟩ := one_val h
    cases e
    cases r with
    | tup h1 h2 => exact ⟨_, _, rfl, .inr ⟨sqt_same s h1, q _ _ _ (PStep.refl s) (.tup h1 h2)⟩⟩
  | [], e, _ => cases e
  | [.none], e, _ => cases e
  | [.bool _], e, _ => cases e
  | [.int _], e, _ => cases e
  | [.str _], e, _ => cases e
  | [.dict _], e, _ => cases e
  | x :: _ :: _, e, _ => cases x <;> cases e
def fList : List D → Option D
  | [.list ds] => some (.list ds)
  | [.tuple ds] => some (.list ds)
  | _ => none
theorem list_ok : RAok K (fun xs H Q => ∃ p ys, xs = [.ref p] ∧ (SqL K H p ys ∨ SqT K H p ys) ∧ ∀ l, H l = none → Q (.ref l) (upd H l (.lst ys))) fList := by
  intro F H vs ds z Q s h e q
  match ds, e, h with
  | [.list xs], e, h =>
    obtain ⟨v, rfl, r⟩ := one_val h
    cases e
    cases r with
    | @lst _ vs' _ h1 h2 =>
      exact ⟨_, _, rfl, .inl (SqL.of (s _ _ h1)), fun l nl => q _ _ _ (PStep.alloc s nl) (.lst upd_same (dpAll_same (PStep.alloc s nl (o := .lst vs')).ff _ _ h2))⟩
  | [.tuple xs], e, h =>
    obtain ⟨v, rfl, r⟩ := one_val h
    cases e
    cases r with
    | @tup _ vs' _ h1 h2 =>
      exact ⟨_, _, rfl, .inr (sqt_same s h1), fun l nl => q _ _ _ (PStep.alloc s nl) (.lst upd_same (dpAll_same (PStep.alloc s nl (o := .lst vs')).ff _ _ h2))⟩
  | [], e, _ => cases e
  | [.none], e, _ => cases e
  | [.bool _], e, _ => cases e
  | [.int _], e, _ => cases e
  | [.str _], e, _ => cases e
  | [.dict _], e, _ => cases e
  | x :: _ :: _, e, _ => cases x <;> cases e
def fInt : List D → Option D
  | [.int i] => some (.int i)
  | [.bool k] => some (.int (if k then 1 else 0))
  | _ => none
theorem int_ok : RAok K (fun xs H Q => (∃ i, xs = [.int i] ∧ Q (.int i) H) ∨ ∃ k, xs = [.bl k] ∧ Q (.int (if k then 1 else 0)) H) fInt := by
  intro F H vs ds z Q s h e q
  match ds, e, h with
  | [.int i], e, h =>
    obtain ⟨v, rfl, r⟩ := one_val h
    cases e
    cases r
    exact .inl ⟨i, rfl, q _ _ _ (PStep.refl s) (.int _)⟩
  | [.bool i], e, h =>
    obtain ⟨v, rfl, r⟩ := one_val h
    cases e
    cases r
    exact .inr ⟨i, rfl, q _ _ _ (PStep.refl s) (.int _)⟩
  | [], e, _ => cases e
  | [.none], e, _ => cases e
  | [.str _], e, _ => cases e
  | [.list _], e, _ => cases e
  | [.tuple _], e, _ => cases e
  | [.dict _], e, _ => cases e
  | x :: _ :: _, e, _ => cases x <;> cases e
/-- of two whole numbers -/
def fII (g : Int → Int → Int) : List D → Option D
  | [.int i, .int j] => some (.int (g i j))
  | _ => none
theorem ii_ok {g : Int → Int → Int} : RAok K (fun xs H Q => ∃ i j : Int, xs = [.int i, .int j] ∧ Q (.int (g i j)) H) (fII g) := by
  intro F H vs ds z Q s h e q
  unfold fII at e
  split at e
  · obtain ⟨v, w, rfl, r, r2⟩ := two_val h
    cases e
    cases r
    cases r2
    exact ⟨_, _, rfl, q _ _ _ (PStep.refl s) (.int _)⟩
  · cases e
def fMax := fII fun i j => if j > i then j else i
def fMin := fII fun i j => if j < i then j else i
def fGcd := fII fun i j => ((Nat.gcd i.natAbs j.natAbs : Nat) : Int)
def boolsOf : List D → Option (List Bool)
  | [] => some []
  | .bool b :: ds => (boolsOf ds).map (b :: ·)
  | _ => none
theorem boolsOf_vals {F : Hp} : ∀ {vs : List V} {ds : List D} {bs : List Bool}, DqAll K F vs ds → boolsOf ds = some bs → vs = bs.map V.bl
  | _, _, bs, .nil, e => by cases e; rfl
  | _, _, bs, .cons (d := d) (ds := ds) r t, e => by
    cases d with
    | bool b =>
      cases r
      have e' : (boolsOf ds).map (b :: ·) = some bs := e
      cases c : boolsOf ds with
      | none => rw [c] at e'; cases e'
      | some cs =>
        rw [c] at e'
        cases e'
        rw [boolsOf_vals t c]
        rfl
    | _ => cases e
def fBools (g : List Bool → Bool) : List D → Option D
  | [.list ds] => (boolsOf ds).map fun bs => .bool (g bs)
  | _ => none
theorem bools_ok {g : List Bool → Bool} : RAok K (fun vs H Q => ∃ (a : Addr) (bs : List Bool), vs = [V.ref a] ∧ SqL K H a (bs.map V.bl) ∧ Q (.bl (g bs)) H) (fBools g) := by
  intro F H vs ds z Q s h e q
  unfold fBools at e
  split at e
  · rename_i xs
    obtain ⟨v, rfl, r⟩ := one_val h
    cases c : boolsOf xs with
    | none => rw [c] at e; cases e
    | some bs =>
      rw [c] at e
      cases e
      cases r with
      | lst h1 h2 =>
        have ev := boolsOf_vals h2 c
        refine ⟨_, bs, rfl, ?_, q _ _ _ (PStep.refl s) (.bl _)⟩
        rw [← ev]
        exact SqL.of (s _ _ h1)
  · cases e
def fAll := fBools fun bs => bs.all id
def fAny := fBools fun bs => bs.any id
def fRepr : List D → Option D
  | [d] => if shows d = true then some (.str d.shown) else none
  | _ => none
theorem repr_ok : RAok K (fun xs H Q => ∃ v d, xs = [v] ∧ Dq K H v d ∧ shows d = true ∧ Q (.str d.shown) H) fRepr := by
  intro F H vs ds z Q s h e q
  unfold fRepr at e
  split at e
  · rename_i d
    obtain ⟨v, rfl, r⟩ := one_val h
    split at e
    · rename_i c
      cases e
      exact ⟨v, d, rfl, dp_same s _ _ r, c, q _ _ _ (PStep.refl s) (.str _)⟩
    · cases e
  · cases e

/-! ### isinstance -/
def kindD : D → String
  | .none => "NoneType"
  | .bool _ => "bool"
  | .int _ => "int"
  | .str _ => "str"
  | .list _ => "list"
  | .tuple _ => "tuple"
  | .dict _ => "dict"
def isiAny : List String → D → Option Bool
  | [], _ => some false
  | T :: Ts, d =>
    match kitB (kindD d) T with
    | some true => some true
    | some false => isiAny Ts d
    | none => none
theorem tyx_of {F H : Hp} (s : Same F H) {v : V} {d : D} (h : Dq K F v d) : TyX K H v (.type (kindD d)) := by
  cases h with
  | non => exact .base .non
  | bl b => exact .base (.bl b)
  | int i => exact .base (.int i)
  | str x => exact .base (.str x)
  | lst h1 _ => exact .base (.lst (s _ _ h1))
  | tup h1 _ =>
    rcases sqt_same s h1 with (z | ⟨o, z⟩) | ⟨o, its, n, z, c, _⟩
    · exact .base (.tup z)
    · exact .fTuple z
    · exact .kTuple z c
def gIsi (Ts : List String) (d : D) : M D := if isTok d then stk else
  match isiAny Ts d with
  | some b => ret (.bool b)
  | none => stk
theorem isi_any : ∀ {Ts : List String} {d : D} {b : Bool}, isiAny Ts d = some b → PySem.W.kitAny K (.type (kindD d)) (Ts.map Value.type) = some b
  | [], _, _, e => by cases e; rfl
  | T :: Ts, d, b, e => by
    unfold isiAny at e
    cases c : kitB (kindD d) T with
    | none => rw [c] at e; cases e
    | some k =>
      rw [c] at e
      cases k with
      | true =>
        cases e
        exact kitAny_cons (kit_ty c) (fun z => by cases z) fun _ => rfl
      | false => exact kitAny_cons (kit_ty c) (fun _ => isi_any e) fun z => by cases z
theorem e_isi {G : Gh} {e : Expr} {g : Rho → M D} {T : String} {te : Expr} (hK : G.K = X.K) (h : PE X e (tCB (rIsi X.K) (tCons (tE G g) (tCons (tC (.ty T)) tNil)))) : PE X e (tE G fun ρ => bnd (g ρ) (gIsi [T])) := by
  refine peI h ?_
  rintro σ H Q ⟨F, hs, ρ, R, p⟩
  refine (rd_bind R p).mono ?_
  rintro v H1 ⟨F1, hs1, d, R1, s1, r1, p1⟩
  unfold gIsi at p1
  cases tk : isTok d with
  | true => rw [tk] at p1; exact p1.elim
  | false =>
    rw [tk] at p1
    have dq := r1.dp tk
    simp only [Bool.false_eq_true, if_false] at p1
    unfold isiAny at p1
    cases c : kitB (kindD d) T with
    | none => rw [c] at p1; exact p1.elim
    | some b =>
      have p2 : post G σ F1 H1 (relE G) Q (ret (.bool b) hs1) := by
        rw [c] at p1
        cases b <;> exact p1
      exact ⟨v, .ty T, .type (kindD d), .type T, b, rfl, .ty T, by rw [← hK]; exact tyx_of R1.sub dq, kit_ty c, post_ret R1 p2 (.inl (.bl b))⟩
theorem e_isi2 {G : Gh} {e : Expr} {g : Rho → M D} {T T2 : String} (hK : G.K = X.K) (h : PE X e (tCB (rIsiT X.K) (tCons (tE G g) (tCons (tTup (tCons (tC (.ty T)) (tCons (tC (.ty T2)) tNil))) tNil)))) : PE X e (tE G fun ρ => bnd (g ρ) (gIsi [T, T2])) := by
  refine peI h ?_
  rintro σ H Q ⟨F, hs, ρ, R, p⟩
  refine (rd_bind R p).mono ?_
  rintro v H1 ⟨F1, hs1, d, R1, s1, r1, p1⟩
  unfold gIsi at p1
  cases tk : isTok d with
  | true => rw [tk] at p1; exact p1.elim
  | false =>
    rw [tk] at p1
    have dq := r1.dp tk
    simp only [Bool.false_eq_true, if_false] at p1
    cases c : isiAny [T, T2] d with
    | none => rw [c] at p1; exact p1.elim
    | some b =>
      rw [c] at p1
      refine ⟨by rw [sizeLine_eq]; exact (by decide : 2 ≤ 16777216), fun q nq => ?_⟩
      have st : PStep F1 H1 F1 (upd H1 q (.tup [.ty T, .ty T2])) := PStep.garb R1.sub nq
      exact ⟨v, q, [.ty T, .ty T2], .type (kindD d), [.type T, .type T2], b, rfl, upd_same, .cons (.ty T) (.cons (.ty T2) .nil), by rw [← hK]; exact tyx_of st.fh dq, isi_any c, post_ret' R1 p1 st (.inl (.bl b))⟩
end
end L2.AR
set_option Elab.async false
set_option linter.all false
set_option maxRecDepth 100000
set_option maxHeartbeats 4000000
/-! Fw8: own errors: raised, caught by several clauses, asked. -/
namespace L2.AR
open PySem PySem.Spec PyProof.Rows

/-! ### raise C(e) -/
theorem quiet_make {A : Around} {C : Addr} {us : List Value} {kw : List (Str × Value)} (g : Quiet A) : Quiet (A.under (.builtin "type.__call__" ⟨.ref C :: us, kw⟩)) := by
  unfold Quiet at g ⊢
  have e : (A.under (.builtin "type.__call__" ⟨.ref C :: us, kw⟩)).guards = A.guards := by
    first
      | rfl
      | (simp [Around.under, Code.guards, Code.isGuard, guardIds, pushGuards]; cases A.guards <;> rfl)
  rw [e]
  exact g
section
variable {X : Cx} {pos p : Pos} {e : Expr} {es : List Expr} {ta : TA}
theorem pmkG {CX : CXT} {x : Str} {C fI : Addr} {k : Nat} {fd : FuncData} {ps : List Str} {sp : Sp} (g : Quiet X.A) (T : OexC X.K C) (iC : PySem.W.findIn X.K (.ref C) "__init__" = some (some (.ref fI))) (tI : PySem.W.typeIn X.K (.ref fI) = some (.type "function"))
    (F1 : FnG X.prog X.w X.K X.mg X.base CX k fI fd ps sp) (hr : Room (k + 1) X.A) (hb : Binds X.K fd ps []) (hx : Passes CX X (fun _ _ _ => False)) (hg : Gl X x) (hm : X.mg x = some (.ref C)) (ha : PA X (e :: es) ta)
    (hdb : (x == ("__debug__" : Str)) = false := by decide) (he : starEach (e :: es) X.env = (false, eval e X.env) :: starEach es X.env := by rfl) (hpl : (backTo pos (starEach es X.env)).any (·.1) = false := by rfl) :
    PMk X (.Call (.Name x p) (e :: es) [] pos) (tMkO C sp [] ta) := by
  intro pins s σ H Q I h
  obtain ⟨nm, q, N, bs, bm, sn, sub, ab, col, dd, k0, k1, k2, k3, k5, atC, mro⟩ := T.cls
  apply wpAny_Call_Name_kw (ld_glob I hg hm _ hdb)
  apply PySem.W.callWith_K (h₀ := X.base) I.ok.mod.kin T.kC _ he hpl
  apply thn (ha.run pos pins s σ H _ I h)
  rintro us ⟨hp, gn, dr, tk, os⟩ ⟨vs, H1, I1, r1, few, q1⟩
  refine ⟨I1.kIn, ?_⟩
  have up : hp.objs.size ≤ hp.objs.size + 1 := Nat.le_succ _
  have want := q1 (hp.objs.size + 1) (I1.hok.fresh up)
  rw [List.append_nil] at want
  have old : ∀ b o, hp.get? b = some o → ((hp.push (PySem.W.kdv_tup us)).push (PySem.HandSPX.excO C hp.objs.size)).get? b = some o := fun b o z => Heap.get?_push_of_some _ (Heap.get?_push_of_some _ z)
  have here : ((hp.push (PySem.W.kdv_tup us)).push (PySem.HandSPX.excO C hp.objs.size)).get? (hp.objs.size + 1) = some (PySem.HandSPX.excO C hp.objs.size) := by heap_get
  have I2 := I1.laid (t' := tk) (a := hp.objs.size + 1) (o := exo (hp.objs.size + 1) C none) (h' := (hp.push (PySem.W.kdv_tup us)).push (PySem.HandSPX.excO C hp.objs.size)) old up (exo_ok here)
  have r2 : Vals (V.ref (hp.objs.size + 1) :: vs) (Value.ref (hp.objs.size + 1) :: us) := .cons rfl r1
  have len : (Value.ref (hp.objs.size + 1) :: us).length = ps.length := by
    rw [← r2.length]
    exact F1.len _ _ _ _ want
  have line : us.length ≤ sizeLine := by
    rw [← Paired.length r1, sizeLine_eq]
    omega
  have bound := hb _ (Value.ref (hp.objs.size + 1) :: us) I2.kIn (by simpa using len)
  rw [List.append_nil] at bound
  apply wpAny_call (PySem.HandSPX.call_own F.excBase_ValueError (fun Y => PySem.HandSPX.refsVE_contains Y bm mro) (I1.kIn _ _ atC) (PySem.W.looks_findIn I1.kIn iC) (fun self => PySem.W.bind_fn I1.kIn self tI) line _)
  apply codeAny_mono (F1.run _ X.stack _ _ ⟨Value.ref (hp.objs.size + 1) :: us, []⟩ _ _ _ (fun _ _ _ => False) (quiet_make g) (hr.make C us []) (I2.env0.make C us []) bound r2 want)
  intro r s' hq
  match r, hq with
  | .error er, hq => exact hx pins σ _ _ er s' I2 hq
  | .ok (.ret u), hq =>
    obtain ⟨v, H2, os2, bare2, un2, hok2, rv, ev, d, fs, ea, ed, hd1, q2⟩ := hq
    subst ev
    exact ⟨rv, mk_end (raises_own T.exC T.tyC) I1 up old un2 hok2 os2 bare2 ea ed hd1 q2⟩
end
/-- what an error's __init__ promises: it keeps m of its argument in its field -/
def spI (K : PySem.W.Frag) (C : Addr) (fld : Str) (m : List D → M D) : Sp := fun vs H Q _ => ∃ ha F hs a v d, vs = [.ref a, v] ∧ Same F H ∧ HandOK ha F H hs ∧ H a = some (exo a C none) ∧ F a = none ∧ ha ≠ some a ∧ Rp K F ha v d ∧
  match m [d] hs with
  | .ok z hs' => isTok z = false ∧ ∀ F' H' dx u, Step ha F H F' H' → HandOK ha F' H' hs' → H' dx = none → dx ≠ a → Dq K F' u z → Q .non (upd (upd H' dx (exd dx [(fld, u)])) a (exo a C (some dx)))
  | _ => False
section
variable {X : Cx} {G : Gh} {pos p pos2 : Pos} {e : Expr} {g : Rho → M D} {m : List D → M D} {x pn : Str} {fI : Addr} {k : Nat} {fd : FuncData}
theorem p_raise (c : Nat) (qt : Quiet X.A) (tk : Takes X G.W) (hc : X.calm = true) (hK : G.K = X.K) (T : OexC X.K (G.cl c)) (iC : PySem.W.findIn X.K (.ref (G.cl c)) "__init__" = some (some (.ref fI))) (tI : PySem.W.typeIn X.K (.ref fI) = some (.type "function"))
    (F1 : FnG X.prog X.w X.K X.mg X.base (L2.CX X.prog X.w) k fI fd ["self", pn] (spI G.K (G.cl c) (G.fld c) m)) (hr : Room (k + 1) X.A) (hb : Binds X.K fd ["self", pn] []) (hg : Gl X x) (hm : X.mg x = some (.ref (G.cl c))) (he : PE X e (tE G g))
    (hst : starEach [e] X.env = (false, eval e X.env) :: starEach [] X.env := by rfl) (hdb : (x == ("__debug__" : Str)) = false := by decide) (hpl : (backTo pos (starEach [] X.env)).any (·.1) = false := by rfl) :
    PS X (.Raise (some (.Call (.Name x p) [e] [] pos)) none pos2) (tS G (sRaise c fun ρ => bnd (g ρ) fun d => nerr (bnd (m [d]) fun z => if isTok z then stk else ret z))) := by
  have noP : Passes (L2.CX X.prog X.w) X (fun _ _ _ => False) := passL
  refine psI (ps_raise hc tk (pmkG qt T iC tI F1 hr hb noP hg hm (pa_cons he pa_nil hst) hdb hst hpl)) ?_
  rintro E σ H h
  -- the argument, then the error's __init__
  obtain ⟨F, hs, ρ, R, pp⟩ := h
  have pp2 : post G σ F H (relE G) (fun v H1 => ∃ F' hs' z, Rel G F' H1 hs' ρ σ ∧ Dq G.K F' v z ∧ isTok z = false ∧ postS G F' E (.err c z ρ hs')) (bnd (g ρ) (fun d => nerr (bnd (m [d]) fun z => if isTok z then stk else ret z)) hs) := by
    dsimp only [sRaise, sExp] at pp
    cases w : bnd (g ρ) (fun d => nerr (bnd (m [d]) fun z => if isTok z then stk else ret z)) hs with
    | ok z hs' =>
      rw [w] at pp
      intro F' H' v s hh r
      have nt : isTok z = false := by
        unfold bnd at w
        cases y : g ρ hs with
        | ok d h1 =>
          rw [y] at w
          simp only at w
          unfold nerr at w
          dsimp only at w
          cases y2 : m [d] h1 with
          | ok z2 h2 =>
            rw [y2] at w
            simp only at w
            by_cases t : isTok z2 = true
            · rw [if_pos t] at w; cases w
            · rw [if_neg t] at w
              cases w
              simpa using t
          | err _ _ _ => rw [y2] at w; cases w
          | stuck => rw [y2] at w; cases w
        | err _ _ _ => rw [y] at w; cases w
        | stuck => rw [y] at w; cases w
      exact ⟨F', hs', z, R.step s hh, r.dp nt, nt, postS.after s.ff pp⟩
    | err c' d' h' =>
      rw [w] at pp
      exact fun F' H' dx v s h hx hn dp => pp F' H' σ dx v s.ff (R.step s h) hx hn dp
    | stuck => rw [w] at pp; exact pp.elim
  refine (rd_bind (rel := relE G) R pp2).mono ?_
  rintro v H1 ⟨F1', hs1, d, R1, s1, r1, p1⟩
  refine ⟨Nat.succ_le_succ (Nat.zero_le _), fun a na => ?_⟩
  have sg : PStep F1' H1 F1' (upd H1 a (exo a (G.cl c) none)) := PStep.garb R1.sub na
  have fa : F1' a = none := R1.sub.free na
  have nha : G.ha ≠ some a := fun z => by
    obtain ⟨_, _, _, h2, _⟩ := R1.hand a z
    rw [na] at h2; cases h2
  refine ⟨G.ha, F1', hs1, a, v, d, rfl, sg.fh, R1.hand.pstep sg, upd_same, fa, nha, r1, ?_⟩
  unfold nerr at p1
  dsimp only [bnd] at p1
  cases w : m [d] hs1 with
  | ok z hs' =>
    rw [w] at p1
    simp only at p1
    by_cases t : isTok z = true
    · rw [if_pos t] at p1; exact p1.elim
    · rw [if_neg t] at p1
      refine ⟨by simpa using t, ?_⟩
      intro F2 H2 dx u s2 hh2 ndx ne du
      have nf2 : F2 a = none := by
        cases y : F2 a with
        | none => rfl
        | some o =>
          rcases s2.new a (by rw [y]; simp) with z1 | z1
          · exact absurd fa z1
          · rw [upd_same] at z1; cases z1
      have nfx : F2 dx = none := s2.fh.free ndx
      have st : Step G.ha F1' H1 F2 (upd (del (upd (upd H2 dx (exd dx [(G.fld c, u)])) a (exo a (G.cl c) (some dx))) a) dx (.xd [(G.fld c, u)])) := by
        have at_ : ∀ b, b ≠ a → b ≠ dx → upd (del (upd (upd H2 dx (exd dx [(G.fld c, u)])) a (exo a (G.cl c) (some dx))) a) dx (.xd [(G.fld c, u)]) b = H2 b := fun b h1 h2 => by
          rw [upd_ne h2, del_ne h1, upd_ne h1, upd_ne h2]
        refine ⟨s2.ff, fun b o y => ?_, fun b o y n => ?_, fun b y => ?_⟩
        · rw [at_ b (ne_of_none y nf2) (ne_of_none y nfx)]
          exact s2.fh b o y
        · have h1 : b ≠ a := ne_of_none y na
          have y2 : H2 b = some o := s2.keep b o (by rw [upd_ne h1]; exact y) n
          rw [at_ b h1 (ne_of_none y2 ndx)]
          exact y2
        · rcases s2.new b y with y1 | y1
          · exact .inl y1
          · by_cases h1 : b = a
            · rw [h1, upd_same] at y1; cases y1
            · rw [upd_ne h1] at y1; exact .inr y1
      have hx : G.ha ≠ some dx := fun z1 => by
        obtain ⟨_, _, _, h2, _⟩ := hh2 dx z1
        rw [ndx] at h2; cases h2
      have hok : HandOK G.ha F2 (upd (del (upd (upd H2 dx (exd dx [(G.fld c, u)])) a (exo a (G.cl c) (some dx))) a) dx (.xd [(G.fld c, u)])) hs' := fun b y => by
        obtain ⟨h1, r, h2, h3, h4⟩ := hh2 b y
        have hb : b ≠ a := fun z1 => nha (by rw [y, z1])
        have hb2 : b ≠ dx := fun z1 => hx (by rw [y, z1])
        exact ⟨h1, r, h2, by rw [upd_ne hb2, del_ne hb, upd_ne hb, upd_ne hb2]; exact h3, h4⟩
      obtain ⟨F3, hs3, z3, R3, d3, t3, p3⟩ := p1 F2 _ u st hok (.inl du)
      refine ⟨rfl, dx, [(G.fld c, u)], upd_same, by rw [upd_ne ne, upd_same], ?_, p3 F3 _ σ dx u (Same.refl F3) R3 upd_same hx ?_⟩
      · cases y : H1 dx with
        | none => rfl
        | some o =>
          have h1 : dx ≠ a := ne
          have y2 : H2 dx = some o := s2.keep dx o (by rw [upd_ne h1]; exact y) hx
          rw [ndx] at y2; cases y2
      · exact d3
  | err _ _ _ => rw [w] at p1; exact p1.elim
  | stuck => rw [w] at p1; exact p1.elim
end
end L2.AR
set_option Elab.async false
set_option linter.all false
set_option maxRecDepth 100000
set_option maxHeartbeats 4000000
/-! Fw9: try with several clauses, some with a name; a caught error asked. -/
namespace L2.AR
open PySem PySem.Spec PyProof.Rows

/-- a clause: its class, the slot of its name, its suite -/
structure Cls1 where
  c : Value
  slot : Option Nat
  ts : Addr → Value → Option Addr → TS
/-- behind a suite the name is gone -/
def unslot (i : Nat) (D : Ends) : Ends := { nx := fun σ H => D.nx (σ.set i none) H, rt := D.rt, bk := fun σ H => D.bk (σ.set i none) H, ct := fun σ H => D.ct (σ.set i none) H }
def suiteOf (q : Cls1) (a : Addr) (cls : Value) (d : Option Addr) (D : Ends) (σ : St) (H : Hp) : Prop :=
  match q.slot with
  | none => q.ts a cls d D σ H
  | some i => q.ts a cls d (unslot i D) (σ.set i (some (.ref a))) H
def wishAll (K : PySem.W.Frag) (Wout : WX) (D : Ends) : List Cls1 → WX
  | [] => Wout
  | q :: r => fun cls d σ H => ∃ b, PySem.W.exmOne K cls q.c = some b ∧ (b = true → ∀ a, H a = none → suiteOf q a cls d D σ H) ∧ (b = false → wishAll K Wout D r cls d σ H)
inductive ClsOk (X : Cx) : List ExceptHandler → List Cls1 → Prop
  | nil : ClsOk X [] []
  | plain {x : Str} {c : Value} {ts : Addr → Value → Option Addr → TS} {b₀ : Stmt} {suite : List Stmt} {np pos' : Pos} {hds : List ExceptHandler} {l : List Cls1} (hc : Names X x c)
      (hsu : ∀ (a : Addr) (oe : Obj) (cls : Value) (d : Option Addr) (pn : List (Addr × Obj)), Zc cls d oe → (∃ vs, oe.data = .fields vs) → PSs (X.suite a ((a, oe) :: pn)) (b₀ :: suite) (ts a cls d)) (r : ClsOk X hds l) :
      ClsOk X (.ExceptHandler (some (.Name x np)) none (b₀ :: suite) pos' :: hds) (⟨c, none, ts⟩ :: l)
  | named {x n : Str} {i : Nat} {c : Value} {ts : Addr → Value → Option Addr → TS} {b₀ : Stmt} {suite : List Stmt} {np pos' : Pos} {hds : List ExceptHandler} {l : List Cls1} (hc : Names X x c) (hi : X.N[i]? = some n) (hln : X.env.kindOf n = some .local)
      (hsu : ∀ (a : Addr) (oe : Obj) (cls : Value) (d : Option Addr) (pn : List (Addr × Obj)), Zc cls d oe → (∃ vs, oe.data = .fields vs) → PSs (X.suite a ((a, oe) :: pn)) (b₀ :: suite) (ts a cls d)) (r : ClsOk X hds l) :
      ClsOk X (.ExceptHandler (some (.Name x np)) (some n) (b₀ :: suite) pos' :: hds) (⟨c, some i, ts⟩ :: l)
section
variable {X : Cx} {pins : List (Addr × Obj)} {σ' : St} {H' : Hp} {sI s' : Shared} {B : Heap} {a : Addr} {cls : Value} {d : Option Addr} {D : Ends} {Wout : WX}
/-- the clauses are asked one after the other, the error on the ground at h -/
theorem clauses (hs : X.stack = X.env :: X.outer) (hf : X.env.frame = some X.env.locals) (hN : X.N.Nodup) (tk : Takes X Wout) (J : Inv X pins σ' H' sI) (nb : ∀ b o, sI.heap.get? b = some o → b ∉ frs X.stack → B.get? b = some o) {h : Heap}
    (fl : HandSPX.FlyingZ B (X.env :: X.outer) a (Zc cls d) h) (up : sI.heap.UpToSlots h) (os : s'.os = sI.os) (ag : AllBare s'.gens) (na : H' a = none) :
    ∀ {hds : List ExceptHandler} {l : List Cls1}, ClsOk X hds l → wishAll X.K Wout D l cls d σ' H' → wpAny (model X.prog X.w) X.A (handleBy (.ref a) X.env hds) (SP X pins D) X.xe { s' with heap := h } := by
  have ok := J.ok
  have onGround : ∀ {h2 : Heap}, HandSPX.FlyingZ B (X.env :: X.outer) a (Zc cls d) h2 → sI.heap.UpToSlots h2 → Inv X pins σ' H' { s' with heap := h2 } := fun {h2} f2 u2 => J.landed (s' := { s' with heap := h2 }) nb f2.1 u2 os ag
  have J3 := onGround fl up
  obtain ⟨oe3, vs3, he3, hz3, hd3⟩ := fl.there
  have off : a ∉ frs (X.env :: X.outer) := fun hm => by
    obtain ⟨_, o', e', no⟩ := fl.2.2.1.mem hm
    rw [he3] at e'
    cases e'
    exact no _ hd3
  have nL : a ≠ X.env.locals := fun z => off (List.mem_filterMap.mpr ⟨X.env, List.mem_cons_self, by rw [hf, z]⟩)
  have nF : a ∉ X.fs := fun hm => by
    obtain ⟨e, he, q⟩ := List.mem_filterMap.mp hm
    exact off (List.mem_filterMap.mpr ⟨e, List.mem_cons_of_mem _ he, q⟩)
  have S3 := J3.suite he3 hd3 na nL nF
  have ask : ∀ {x : Str} {c : Value} {np : Pos}, Names X x c → ∀ {Q : Value → Shared → Prop} {E : Value → Shared → Prop}, Q c { s' with heap := h } → wpAny (model X.prog X.w) (X.A.mark (some (.ref a))) (eval (.Name x np) X.env) Q E { s' with heap := h } := by
    intro x c np hc Q E q
    obtain ⟨hg, hdbg, hm | ⟨hm, hv, hnn⟩⟩ := hc
    · exact ld_glob (X := X.suite a ((a, oe3) :: (X.pn ++ pins))) S3 hg hm q hdbg
    · exact ld_blt (X := X.suite a ((a, oe3) :: (X.pn ++ pins))) S3 hg hm hv q hnn hdbg
  have LT : PySem.W.Looks (model X.prog X.w) h (typeOf (.ref a)) cls := fun A Q E s k q => wpAny_typeOf_ref (k _ _ he3) (by rw [hz3.1]; exact q)
  intro hds l hk
  induction hk with
  | nil =>
    intro w
    apply wpAny_handleBy_nil
    obtain ⟨k1, k2, k3, oe, vs, T, oT, ts', he, hz, hd, h1, hr⟩ := id fl
    unfold PySem.passOn
    apply wpAny_bind (wpAny_field he hd h1 _)
    rw [if_neg (show ¬ ((Value.ref T == Value.none) = true) by simp)]
    have out : wpAny (model X.prog X.w) X.A (setFlight (.ref a) X.env.frame) (fun _ s4 => wpAny (model X.prog X.w) X.A (throw (.ref a) : Sem Flow) (SP X pins D) X.xe s4) X.xe { s' with heap := h } := by
      rw [hf]
      apply HandSPX.setFlight_upZ fl
      intro h4 hh4 up4
      apply wpAny_throw (tk _ _ _)
      exact ⟨a, B, sI, pins, σ', H', cls, d, rfl, J, nb, up.trans up4, .inr (.inr (by rw [hs]; exact hh4)), na, os, ag, w⟩
    first
      | exact wpAny_bind (wpAny_pure (wpAny_bind out))
      | exact wpAny_bind out
  | @plain x c ts b₀ suite np pos' hds2 l2 hc hsu r ih =>
    rintro ⟨b, hb1, hyes, hno⟩
    apply wpAny_handleBy_cons (codeAny_handlers_test _) (by intro q; cases q)
    have LM := PySem.W.exm_one (M := model X.prog X.w) J3.kIn LT hb1
    refine ask hc (LM.here ?_)
    cases b with
    | false => exact ih (hno rfl)
    | true =>
      apply codeAny_handlers_suite
      apply HandSPX.lands_againZ fl
      intro h4 fl4 up4
      obtain ⟨oe4, vs4, he4, hz4, hd4⟩ := fl4.there
      have S4 := (onGround fl4 (up.trans up4)).suite he4 hd4 na nL nF
      apply wpAny_mono ((hsu a oe4 cls d (X.pn ++ pins) hz4 ⟨_, hd4⟩).run [] _ _ H' _ S4 (hyes rfl a na)) _ (fun _ _ z => False.elim z)
      intro f s6 hsp
      cases f with
      | next => exact hsp.imp fun _ q => q.imp fun _ q => ⟨q.1.unsuite ok, q.2⟩
      | brk => exact hsp.imp fun _ q => q.imp fun _ q => ⟨q.1.unsuite ok, q.2⟩
      | cont => exact hsp.imp fun _ q => q.imp fun _ q => ⟨q.1.unsuite ok, q.2⟩
      | ret u => exact hsp.imp fun _ q => q.imp fun _ q => q.imp fun _ q => ⟨q.1.unsuite ok, q.2⟩
  | @named x n i c ts b₀ suite np pos' hds2 l2 hc hi hln hsu r ih =>
    rintro ⟨b, hb1, hyes, hno⟩
    apply wpAny_handleBy_cons (codeAny_handlers_test _) (by intro q; cases q)
    have LM := PySem.W.exm_one (M := model X.prog X.w) J3.kIn LT hb1
    refine ask hc (LM.here ?_)
    cases b with
    | false => exact ih (hno rfl)
    | true =>
      apply codeAny_handlers_suite_as
      apply HandSPX.lands_againZ fl
      intro h4 fl4 up4
      obtain ⟨oe4, vs4, he4, hz4, hd4⟩ := fl4.there
      have S4 := (onGround fl4 (up.trans up4)).suite he4 hd4 na nL nF
      apply store_ok (X := X.suite a ((a, oe4) :: (X.pn ++ pins))) (v := .ref a) S4 hN hi (.inl hln) rfl _ (.inr hln)
      intro s5 S5
      apply wpAny_mono ((hsu a oe4 cls d (X.pn ++ pins) hz4 ⟨_, hd4⟩).run [] s5 _ H' _ S5 (hyes rfl a na)) _ (fun _ _ z => False.elim z)
      intro f s6 hsp
      have done : ∀ {σ6 : St} {H6 : Hp} {Q : Shared → Prop}, Inv (X.suite a ((a, oe4) :: (X.pn ++ pins))) [] σ6 H6 s6 → (∀ s7, Inv X pins (σ6.set i none) H6 s7 → Q s7) →
          wpAny (model X.prog X.w) X.A (do bindName X.env n .none; unbindBehindTheSuite X.env n pos') (fun _ s7 => Q s7) X.xe s6 := fun {σ6 H6 Q} S6 hq => gone_ok (S6.unsuite ok) hN hi hln hq
      cases f with
      | next =>
        obtain ⟨σ6, H6, S6, q6⟩ := hsp
        exact done S6 fun s7 J7 => ⟨_, _, J7, q6⟩
      | brk =>
        obtain ⟨σ6, H6, S6, q6⟩ := hsp
        exact done S6 fun s7 J7 => ⟨_, _, J7, q6⟩
      | cont =>
        obtain ⟨σ6, H6, S6, q6⟩ := hsp
        exact done S6 fun s7 J7 => ⟨_, _, J7, q6⟩
      | ret u =>
        obtain ⟨v6, σ6, H6, S6, r6, q6⟩ := hsp
        exact done S6 fun s7 J7 => ⟨_, _, _, J7, r6, q6⟩
end
section
variable {X : Cx} {body : List Stmt} {h₀ : ExceptHandler} {hds : List ExceptHandler} {l : List Cls1} {pos : Pos} {tb : WX → TS} {Wout : WX}
theorem ps_tryAll (hs : X.stack = X.env :: X.outer) (hf : X.env.frame = some X.env.locals) (hN : X.N.Nodup) (tk : Takes X Wout)
    (hb : ∀ (W : WX) (pn : List (Addr × Obj)) (xe : Value → Shared → Prop), Takes (X.tr pn xe) W → PassesOwn (model X.prog X.w) X.A X.env xe → PSs (X.tr pn xe) body (tb W))
    (hh : ClsOk X (h₀ :: hds) l) : PS X (.Try body (h₀ :: hds) [] [] pos) (fun D σ H => tb (wishAll X.K Wout D l) D σ H) := by
  constructor
  intro pins s σ H D I h
  have ok := I.ok
  have hfr : X.A.frames = some (X.env :: X.outer) := by rw [ok.frames, hs]
  apply wpAny_Try_except
  have body_ := (hb (wishAll X.K Wout D l) (X.pn ++ pins) (fun e s₁ => wpAny (model X.prog X.w) X.A (noteFrame e X.env) (fun _ s₂ => wpAny (model X.prog X.w) X.A (setFlight e none) (fun _ s₃ =>
    wpAny (model X.prog X.w) X.A (handleBy e X.env (h₀ :: hds)) (SP X pins D) X.xe s₃) X.xe s₂) X.xe s₁) (fun u s' xx => by
      obtain ⟨a, B, sI, pins', σ', H', cls, d, rfl, J', nb, up, sky, na, os, ag, w⟩ := xx
      have J : Inv X pins σ' H' sI := J'.ofTry ok
      show wpAny (model X.prog X.w) X.A (noteFrame (.ref a) X.env) _ _ _
      apply Sky.land Zc.steady hfr hf (show Sky B (X.env :: X.outer) a (Zc cls d) X.env.locals s'.heap by rw [← hs]; exact sky)
      intro h3 fl3 up3
      exact clauses hs hf hN tk J nb fl3 (up.trans up3) os ag na hh w) PassesOwn.looking).run [] s σ H D (I.toTry _) h
  apply wpAny_mono body_ _ (fun _ _ z => z)
  intro f s1 hsp
  cases f with
  | next =>
    obtain ⟨σ', H', J', q⟩ := hsp
    exact wpAny_execs_nil ⟨σ', H', J'.ofTry ok, q⟩
  | brk => exact hsp.imp fun _ q => q.imp fun _ q => ⟨q.1.ofTry ok, q.2⟩
  | cont => exact hsp.imp fun _ q => q.imp fun _ q => ⟨q.1.ofTry ok, q.2⟩
  | ret u => exact hsp.imp fun _ q => q.imp fun _ q => q.imp fun _ q => ⟨q.1.ofTry ok, q.2⟩
end
end L2.AR
set_option Elab.async false
set_option linter.all false
set_option maxRecDepth 100000
set_option maxHeartbeats 4000000
/-! Fw10: try on data; a caught error's field, its class. -/
namespace L2.AR
open PySem PySem.Spec PyProof.Rows

structure Hnd where
  test : Nat → Bool
  slot : Option Nat
  s : MS
def isExc : Sl → Bool
  | .exc _ _ => true
  | _ => false
def hush : OutS → OutS
  | .err _ _ _ _ => .stuck
  | o => o
def unR (i : Nat) : OutS → OutS
  | .ok f ρ h => .ok f (ρ.set i .no) h
  | o => o
def tryH : List Hnd → Nat → D → MS
  | [], c, d => fun ρ h => .err c d ρ h
  | q :: r, c, d => fun ρ h => if q.test c = true then
      (match q.slot with
      | none => hush (q.s ρ h)
      | some i => unR i (hush (q.s (ρ.set i (.exc c d)) h)))
    else tryH r c d ρ h
def clean : OutS → OutS
  | .ok f ρ h => if ρ.any isExc = false then .ok f ρ h else .stuck
  | o => o
def sTry (n : Nat) (body : MS) (hs : List Hnd) : MS := fun ρ h =>
  match body ρ h with
  | .err c d ρ' h' => if c < n ∧ ρ'.any isExc = false then clean (tryH hs c d ρ' h') else .stuck
  | o => o
/-- the suite's view -/
abbrev Gh.sees (G : Gh) (a : Addr) (cls : Value) (d : Option Addr) : Gh := { G with W := fun _ _ _ _ => False, ea := a, dx := d, ecls := cls }
section
variable {G : Gh} {F H : Hp} {hs : HS} {ρ : Rho} {σ : St}
theorem Rel.wish (R : Rel G F H hs ρ σ) (W : WX) : Rel { G with W := W } F H hs ρ σ := ⟨R.sub, R.hand, R.base, R.f0, R.new0, R.len, R.slots, R.apart⟩
theorem Rel.unwish {W : WX} (R : Rel { G with W := W } F H hs ρ σ) : Rel G F H hs ρ σ := ⟨R.sub, R.hand, R.base, R.f0, R.new0, R.len, R.slots, R.apart⟩
theorem no_exc {i : Nat} {c : Nat} {d : D} (h : ρ.any isExc = false) (e : ρ[i]? = some (.exc c d)) : False := by
  have m := List.mem_of_getElem? e
  have := List.any_eq_false.mp h _ m
  exact this rfl
theorem Rel.look (R : Rel G F H hs ρ σ) (n : ρ.any isExc = false) (a : Addr) (cls : Value) (d : Option Addr) : Rel (G.sees a cls d) F H hs ρ σ := by
  refine ⟨R.sub, R.hand, R.base, R.f0, R.new0, R.len, fun i s e => ?_, R.apart⟩
  have q := R.slots i s e
  cases s with
  | no => trivial
  | dat x => exact q
  | own x => exact q
  | owd x => exact q
  | exc x y => exact (no_exc n e).elim
theorem Rel.unlook {a : Addr} {cls : Value} {d : Option Addr} (R : Rel (G.sees a cls d) F H hs ρ σ) (n : ρ.any isExc = false) : Rel G F H hs ρ σ := by
  refine ⟨R.sub, R.hand, R.base, R.f0, R.new0, R.len, fun i s e => ?_, R.apart⟩
  have q := R.slots i s e
  cases s with
  | no => trivial
  | dat x => exact q
  | own x => exact q
  | owd x => exact q
  | exc x y => exact (no_exc n e).elim
theorem Rel.setExc {a dx : Addr} {c : Nat} {d : D} {v : V} (R : Rel (G.sees a (.ref (G.cl c)) (some dx)) F H hs ρ σ) (hx : H dx = some (.xd [(G.fld c, v)])) (hn : G.ha ≠ some dx) (dp : Dq G.K F v d) (i : Nat) :
    Rel (G.sees a (.ref (G.cl c)) (some dx)) F H hs (ρ.set i (.exc c d)) (σ.set i (some (.ref a))) := by
  refine ⟨R.sub, R.hand, R.base, R.f0, R.new0, by simpa using R.len, fun j s e => ?_, fun j k x y b hjk e1 e2 o1 o2 e3 => ?_⟩
  · rw [List.getElem?_set] at e ⊢
    by_cases hij : i = j
    · subst hij
      rw [if_pos rfl] at e ⊢
      split at e
      · rename_i hl
        cases e
        rw [if_pos (by rw [R.len]; exact hl)]
        exact ⟨rfl, rfl, dx, v, rfl, hx, hn, dp⟩
      · cases e
    · rw [if_neg hij] at e ⊢
      exact R.slots j s e
  · rw [List.getElem?_set] at e1 e2 e3 ⊢
    by_cases hj : i = j
    · rw [if_pos hj] at e1
      split at e1 <;> cases e1 <;> cases o1
    · by_cases hk : i = k
      · rw [if_pos hk] at e2
        split at e2 <;> cases e2 <;> cases o2
      · rw [if_neg hj] at e1 e3
        rw [if_neg hk] at e2 ⊢
        exact R.apart j k x y b hjk e1 e2 o1 o2 e3
end
/-- a clause and what it does -/
structure HOkD (K : PySem.W.Frag) (G : Gh) (n : Nat) (q : Cls1) (h : Hnd) : Prop where
  exm : ∀ c, c < n → PySem.W.exmOne K (.ref (G.cl c)) q.c = some (h.test c)
  slot : q.slot = h.slot
  ts : ∀ a cls d, q.ts a cls d = tS (G.sees a cls d) h.s
inductive HsOk (K : PySem.W.Frag) (G : Gh) (n : Nat) : List Cls1 → List Hnd → Prop
  | nil : HsOk K G n [] []
  | cons {q : Cls1} {h : Hnd} {l : List Cls1} {hs : List Hnd} : HOkD K G n q h → HsOk K G n l hs → HsOk K G n (q :: l) (h :: hs)
section
variable {X : Cx} {G : Gh} {pos : Pos} {n : Nat}
theorem suite_ends {E : Ends} {F F' H' : Hp} {a : Addr} {cls : Value} {d : Option Addr} : ∀ {o : OutS}, postS G F E (clean (hush o)) → Same F F' → postS (G.sees a cls d) F' E o := by
  intro o p sf
  cases o with
  | ok f ρ h =>
    have p : postS G F E (if ρ.any isExc = false then .ok f ρ h else .stuck) := p
    by_cases ne : ρ.any isExc = false
    · rw [if_pos ne] at p
      cases f with
      | nx => exact fun F2 H2 σ2 s R => p F2 H2 σ2 (sf.trans s) (R.unlook ne)
      | rt x => exact fun F2 H2 σ2 v s R r => p F2 H2 σ2 v (sf.trans s) (R.unlook ne) r
      | bk => exact fun F2 H2 σ2 s R => p F2 H2 σ2 (sf.trans s) (R.unlook ne)
      | ct => exact fun F2 H2 σ2 s R => p F2 H2 σ2 (sf.trans s) (R.unlook ne)
    · rw [if_neg ne] at p; exact p.elim
  | err c x ρ h => exact p.elim
  | stuck => exact p.elim
theorem suite_endsN {i : Nat} {E : Ends} {F F' : Hp} {a : Addr} {cls : Value} {d : Option Addr} : ∀ {o : OutS}, postS G F E (clean (unR i (hush o))) → Same F F' → postS (G.sees a cls d) F' (unslot i E) o := by
  intro o p sf
  cases o with
  | ok f ρ h =>
    have p : postS G F E (if (ρ.set i .no).any isExc = false then .ok f (ρ.set i .no) h else .stuck) := p
    by_cases ne : (ρ.set i .no).any isExc = false
    · rw [if_pos ne] at p
      cases f with
      | nx => exact fun F2 H2 σ2 s R => p F2 H2 _ (sf.trans s) ((R.gone i).unlook ne)
      | rt x => exact fun F2 H2 σ2 v s R r => p F2 H2 _ v (sf.trans s) ((R.gone i).unlook ne) r
      | bk => exact fun F2 H2 σ2 s R => p F2 H2 _ (sf.trans s) ((R.gone i).unlook ne)
      | ct => exact fun F2 H2 σ2 s R => p F2 H2 _ (sf.trans s) ((R.gone i).unlook ne)
    · rw [if_neg ne] at p; exact p.elim
  | err c x ρ h => exact p.elim
  | stuck => exact p.elim
theorem try_wish {K : PySem.W.Frag} {E : Ends} {F : Hp} {c : Nat} {d : D} {ρ : Rho} {hs : HS} (hc : c < n) (ne : ρ.any isExc = false) : ∀ {l : List Cls1} {hl : List Hnd}, HsOk K G n l hl → postS G F E (clean (tryH hl c d ρ hs)) →
    ∀ F' H' σ' dx v, Same F F' → Rel G F' H' hs ρ σ' → H' dx = some (.xd [(G.fld c, v)]) → G.ha ≠ some dx → Dq G.K F' v d → wishAll K G.W E l (.ref (G.cl c)) (some dx) σ' H'
  | _, _, .nil, p => fun F' H' σ' dx v s R hx hn dp => p F' H' σ' dx v s R hx hn dp
  | _, _, .cons (q := q) (h := h) (l := l) (hs := hl) ok r, p => fun F' H' σ' dx v s R hx hn dp => by
    refine ⟨h.test c, ok.exm c hc, fun t a na => ?_, fun t => ?_⟩
    · simp only [tryH, t, if_true] at p
      unfold suiteOf
      rw [ok.slot]
      cases e : h.slot with
      | none =>
        rw [e] at p
        simp only at p ⊢
        rw [ok.ts]
        exact ⟨F', hs, ρ, R.look ne _ _ _, suite_ends (H' := H') p s⟩
      | some i =>
        rw [e] at p
        simp only at p ⊢
        rw [ok.ts]
        exact ⟨F', hs, _, (R.look ne a (.ref (G.cl c)) (some dx)).setExc hx hn dp i, suite_endsN p s⟩
    · simp only [tryH, t, Bool.false_eq_true, if_false] at p
      exact try_wish hc ne r p F' H' σ' dx v s R hx hn dp
theorem p_try {body : List Stmt} {h₀ : ExceptHandler} {hds : List ExceptHandler} {l : List Cls1} {hl : List Hnd} {sb : MS} (n : Nat) (hs : X.stack = X.env :: X.outer) (hf : X.env.frame = some X.env.locals) (hN : X.N.Nodup) (tk : Takes X G.W)
    (hb : ∀ (W : WX) (pn : List (Addr × Obj)) (xe : Value → Shared → Prop), Takes (X.tr pn xe) W → PassesOwn (model X.prog X.w) X.A X.env xe → PSs (X.tr pn xe) body (tS { G with W := W } sb))
    (hh : ClsOk X (h₀ :: hds) l) (hd : HsOk X.K G n l hl) : PS X (.Try body (h₀ :: hds) [] [] pos) (tS G (sTry n sb hl)) := by
  refine psI (ps_tryAll (tb := fun W => tS { G with W := W } sb) hs hf hN tk hb hh) ?_
  rintro E σ H ⟨F, h, ρ, R, p⟩
  refine ⟨F, h, ρ, R.wish _, ?_⟩
  unfold sTry at p
  cases e : sb ρ h with
  | ok f ρ2 h2 =>
    rw [e] at p
    cases f with
    | nx => exact fun F2 H2 σ2 s R => p F2 H2 σ2 s R.unwish
    | rt x => exact fun F2 H2 σ2 v s R r => p F2 H2 σ2 v s R.unwish r
    | bk => exact fun F2 H2 σ2 s R => p F2 H2 σ2 s R.unwish
    | ct => exact fun F2 H2 σ2 s R => p F2 H2 σ2 s R.unwish
  | err c d ρ2 h2 =>
    rw [e] at p
    simp only at p
    split at p
    · rename_i cn
      exact fun F2 H2 σ2 dx v s R hx hn dp => try_wish cn.1 cn.2 hd p F2 H2 σ2 dx v s R.unwish hx hn dp
    · exact p.elim
  | stuck => rw [e] at p; exact p.elim
end

/-! ### a caught error -/
def gExc (cs : List Nat) (f : Nat → D → M D) (i : Nat) (ρ : Rho) : M D :=
  match ρ[i]? with
  | some (.exc c d) => if cs.contains c = true then f c d else stk
  | _ => stk
section
variable {X : Cx} {G : Gh} {pos : Pos} {a : Addr} {oe : Obj} {cls : Value} {d : Option Addr} {pn : List (Addr × Obj)}
theorem gExc_cases {α : Type} {σ : St} {F H : Hp} {hs : HS} {ρ : Rho} {cs : List Nat} {f : Nat → D → M D} {i : Nat} {Q : VK} (R : Rel (G.sees a cls d) F H hs ρ σ) (p : post (G.sees a cls d) σ F H (relE (G.sees a cls d)) Q (gExc cs f i ρ hs)) :
    ∃ c x v dx, c ∈ cs ∧ σ[i]? = some (some (.ref a)) ∧ cls = .ref (G.cl c) ∧ d = some dx ∧ H dx = some (.xd [(G.fld c, v)]) ∧ Dq G.K F v x ∧ post (G.sees a cls d) σ F H (relE (G.sees a cls d)) Q (f c x hs) := by
  unfold gExc at p
  cases e : ρ[i]? with
  | none => rw [e] at p; exact p.elim
  | some s =>
    rw [e] at p
    cases s with
    | exc c x =>
      simp only at p
      split at p
      · rename_i m
        obtain ⟨e1, e2, dx, v, h0, h1, h2, h3⟩ := R.slots i _ e
        exact ⟨c, x, v, dx, by simpa using m, e1, e2, h0, h1, h3, p⟩
      · exact p.elim
    | _ => exact p.elim
/-- error.f -/
theorem e_excF {e : Expr} {n : Str} (cs : List Nat) (i : Nat) (hK : G.K = X.K) (T : ∀ c ∈ cs, XfC X.K (G.cl c) ∧ PySem.W.findIn X.K (.ref (G.cl c)) n = some none ∧ G.fld c = n)
    (hz : Zc cls d oe) (hf : ∃ vs, oe.data = .fields vs) (he : PE (X.suite a ((a, oe) :: pn)) e (tVar i)) (hb : attributeBase e n X.env (eval e X.env) = eval e X.env := by rfl) :
    PE (X.suite a ((a, oe) :: pn)) (.Attribute e n pos) (tE (G.sees a cls d) (gExc cs (fun _ x => ret x) i)) := by
  constructor
  rintro pins s σ H Q I ⟨F, hs, ρ, R, p⟩
  obtain ⟨c, x, v, dx, m, e1, e2, h0, h1, h2, p2⟩ := gExc_cases (α := Unit) R p
  obtain ⟨t1, t2, t3⟩ := T c m
  refine (pe_xf t1 t2 hz hf he hb).run pins s σ H Q I ⟨.ref a, e1, rfl, e2, dx, _, v, h0, h1, ?_, post_ret R p2 (.inl h2)⟩
  rw [t3]
  simp [List.lookup]
end
end L2.AR
set_option Elab.async false
set_option linter.all false
set_option maxRecDepth 100000
set_option maxHeartbeats 4000000
/-! Fw11: isinstance of a caught error. -/
namespace PySem.W
open PySem PySem.Spec PySem.Calls PyProof.Rows
section
variable {prog : Program} {w : World} {A : Around} {E : Value → Shared → Prop} {s : Shared} {K : Frag} {x D : Addr} {ox : Obj} {od : Option Obj}
theorem ar_findData {C : Addr} {name : Str} {a g : Value} (hc : (clsIn K C).isSome = true) (ha : findIn K (.ref C) name = some (some a)) (hg : specialIn K a "__get__" = some (some g)) (ht : takesIn K a = some true) : findObj K C od name = some (.bind g a) := by
  obtain ⟨cd, hc⟩ := Option.isSome_iff_exists.mp hc
  unfold findObj
  rw [hc, Option.bind_some, ha, Option.bind_some]
  simp [hg, ht]
theorem ar_class {Q : Option Value → Shared → Prop} (T : L2.ExcC K D) (X : K.In s.heap) (I : InstAt s.heap x ox D od) (h : Q (some (.ref D)) { s with toks := s.toks + 1 }) : wpAny (model prog w) A (getAttr? (.ref x) "__class__") Q E s := by
  have hf : findObj K D od "__class__" = some (.bind (.builtin "getset_descriptor.__get__") (.builtin "object.__class__")) := by
    obtain ⟨cd, hc, _⟩ := any_some T.hd
    exact ar_findData (by rw [hc]; rfl) T.ha T.hn T.ht
  obtain ⟨hp, g, d, t, os⟩ := s
  have LT := I.type (M := model prog w)
  have LG := looks_findIn (M := model prog w) X T.hg
  have LK := looks_findIn (M := model prog w) X T.hk
  have LF := looks_find (M := model prog w) X I hf
  have sub : Looks (model prog w) hp (isInstance (.ref x) (.type "BaseException")) true := LT.andThen (looks_subIn X T.hs)
  have no0 : (false && onTheHeap (Value.builtin "BaseException.__getattribute__")) = false := rfl
  have no1 : (onTheHeap (Value.ref D) && Value.builtin "BaseException.__getattribute__" == Value.builtin "object.__getattribute__") = false := by
    rw [show (Value.builtin "BaseException.__getattribute__" == Value.builtin "object.__getattribute__") = false by decide +kernel]
    rfl
  unfold getAttr? getAttrBy? getAttrBy
  refine wpAny_bind (wpAny_mkText (wpAny_bind (wpAny_attempt (wpAny_holding (wpAny_bind (LT.at (wpAny_bind (LG.at ?_))))))))
  show wpAny _ _ (if (onTheHeap (Value.ref D) && Value.builtin "BaseException.__getattribute__" == Value.builtin "object.__getattribute__") = true then _ else _) _ _ _
  rw [no1, if_neg Bool.false_ne_true]
  unfold getAttrByItsOwn hookBefore
  refine wpAny_bind ?_
  rw [if_pos (show onTheHeap (Value.ref D) = true from rfl)]
  refine LK.at (wpAny_bind (wpAny_attempt (wpAny_holding ?_)))
  unfold callGetattribute
  rw [no0, if_neg Bool.false_ne_true]
  unfold boundAndCalled
  rw [PySem.F.excAttr_ValueError.ga.bind (.ref x)]
  refine wpAny_bind (wpAny_pure ?_)
  show wpAny _ _ (call (.builtin "BaseException.__getattribute__") [.ref x, .str "__class__" t]) _ _ _
  refine wpAny_call (codeAny_call_builtin PySem.F.excAttr_ValueError.ga.plain PySem.F.entry_bexc_ga ?_)
  refine @check_slot (model prog w) _ _ ⟨hp, g, d, t + 1, os⟩ "BaseException.__getattribute__" "BaseException" "__getattribute__" (.ref x) [.str "__class__" t] [] _ (by decide +kernel) (by decide +kernel) sub (PySem.F.args_bexc_ga (.ref x) (.str "__class__" t)) ?_
  unfold Builtin.«object.__getattribute__»
  refine wpAny_bind (wpAny_of_eq (a := ((Value.ref x : Value), [Value.str "__class__" t])) (by first | rfl | (simp only [slotArgs]; rfl)) ?_)
  refine wpAny_bind (wpAny_pure (wpAny_bind (LT.at (wpAny_bind (LF.at ?_)))))
  show wpAny _ _ (holding [Value.builtin "object.__class__"] (call (.builtin "getset_descriptor.__get__") [.builtin "object.__class__", .ref x, .ref D]) >>= ret) _ _ _
  refine wpAny_bind (wpAny_holding (wpAny_call (class_get (s := ⟨hp, g, d, t + 1, os⟩) (ox := ox) (od := od) X I T.hm ?_)))
  refine wpAny_pure ?_
  show wpAny _ _ (handedOut (.ref D)) _ _ _
  rw [handedOut_of (v := .ref D) rfl]
  first
    | exact wpAny_pure (wpAny_pure h)
    | exact wpAny_pure h
    | exact wpAny_pure (wpAny_bind (wpAny_pure (wpAny_pure h)))
theorem ar_kit (T : L2.ExcC K D) : KitX K (.ref x) (.ref D) (fun h => ∃ ox od, InstAt h x ox D od) where
  ty := fun _ _ _ ⟨_, _, I⟩ => I.type
  it := fun _ _ X _ => by
    obtain ⟨cd, hc, _⟩ := any_some T.hd
    unfold clsIn at hc
    split at hc
    · rename_i c' d' cd' sl' ho
      intro A' Q' E' s' k q
      unfold isType loadHead
      exact wpAny_bind (wpAny_loadPart (k _ _ (X _ _ ho)) (wpAny_pure q))
    · cases hc
  ne := fun h tp dd its n sl X htp => by
    obtain ⟨cd, hc, _⟩ := any_some T.hd
    refine Bool.eq_false_iff.mpr fun q => ?_
    obtain rfl : D = tp := Value.ref.inj (beq_iff_eq.mp q)
    unfold clsIn at hc
    split at hc
    · rename_i c' d' cd' sl' ho
      cases (X _ _ ho).symm.trans htp
    · cases hc
  ca := fun X ⟨_, _, I⟩ k => ar_class T X I k
end
end PySem.W
namespace L2.AR
open PySem PySem.Spec PyProof.Rows
section
variable {X : Cx} {a D' dd : Addr} {oe : Obj} {cls : Value} {pn : List (Addr × Obj)}
theorem exc_inst {σ : St} {H : Hp} {s : Shared} {pins : List (Addr × Obj)} {fs : List (Str × V)} (hz : Zc (.ref D') (some dd) oe) (hf : ∃ vs, oe.data = .fields vs) (I : Inv (X.suite a ((a, oe) :: pn)) pins σ H s) (hx : H dd = some (.xd fs)) : ∃ ox od, PySem.W.InstAt s.heap a ox D' od := by
  obtain ⟨ha, _⟩ := I.pin (a, oe) (List.mem_append_left _ List.mem_cons_self)
  obtain ⟨vs, hv⟩ := hf
  have ok : ObjOk X.prog X.w H s.heap dd (.xd fs) := I.hok dd _ hx
  obtain ⟨mA, ⟨o, es, ep, e1, e2⟩, hr⟩ := ok
  exact ⟨oe, some o, ha, hz.1, by unfold PySem.W.notCls; rw [hv] <;> rfl, by rw [hz.2]; exact e1⟩
theorem call_isX (hz : Zc cls (some dd) oe) (hf : ∃ vs, oe.data = .fields vs) : CallR (X.suite a ((a, oe) :: pn)) (.builtin "isinstance")
    (fun xs H Q => ∃ D' c u b fs, xs = [.ref a, c] ∧ cls = .ref D' ∧ ExcC X.K D' ∧ H dd = some (.xd fs) ∧ ClsV c u ∧ PySem.W.kitOne X.K (.ref D') u = some b ∧ Q (.bl b) H) := by
  intro pins s σ H xs us Q I r h
  obtain ⟨D', c, u, b, fs, rfl, rfl, T, hx, hc, e, q⟩ := h
  cases r with
  | cons rx rr =>
    cases rr with
    | cons rt rr =>
      cases rr
      cases rx
      have ec := hc.eq rt
      subst ec
      exact PySem.W.kia_one (PySem.W.ar_kit T) I.kIn (exc_inst hz hf I hx) e (fun z => nomatch z) fun tk => ⟨.bl b, H, I.kept (t' := tk) fun _ _ z => z, rfl, q⟩
theorem call_isXT (hz : Zc cls (some dd) oe) (hf : ∃ vs, oe.data = .fields vs) : CallR (X.suite a ((a, oe) :: pn)) (.builtin "isinstance")
    (fun xs H Q => ∃ D' tp cs us b fs, xs = [.ref a, .ref tp] ∧ H tp = some (.tup cs) ∧ Paired ClsV cs us ∧ cls = .ref D' ∧ ExcC X.K D' ∧ H dd = some (.xd fs) ∧ PySem.W.kitAny X.K (.ref D') us = some b ∧ Q (.bl b) H) := by
  intro pins s σ H xs us Q I r h
  obtain ⟨D', tp, cs, ws, b, fs, rfl, hT, k, rfl, T, hx, e, q⟩ := h
  cases r with
  | cons rx rr =>
    cases rr with
    | cons rt rr =>
      cases rr
      cases rx
      cases rt
      obtain ⟨_, its, rv, o, h1, h2, n, h3⟩ := (show ObjOk X.prog X.w H s.heap tp (.tup cs) from I.hok tp _ hT)
      have e3 := ClsV.all k rv
      subst e3
      obtain ⟨oc, od, dt, sl⟩ := o
      simp only at h2 h3
      subst h2 h3
      exact PySem.W.kia_tup (PySem.W.ar_kit T) I.kIn (exc_inst hz hf I hx) h1 e (fun z => nomatch z) fun tk => ⟨.bl b, H, I.kept (t' := tk) fun _ _ z => z, rfl, q⟩
end
section
variable {X : Cx} {G : Gh} {a : Addr} {oe : Obj} {cls : Value} {d : Option Addr} {pn : List (Addr × Obj)} {e : Expr}
/-- isinstance(error, C) -/
theorem e_excI {C : Addr} (cs : List Nat) (i : Nat) (tbl : Nat → Bool) (hK : G.K = X.K) (T : ∀ c ∈ cs, ExcC X.K (G.cl c) ∧ PySem.W.kitOne X.K (.ref (G.cl c)) (.ref C) = some (tbl c))
    (hz : Zc cls d oe) (hf : ∃ vs, oe.data = .fields vs)
    (he : ∀ r, CallR (X.suite a ((a, oe) :: pn)) (.builtin "isinstance") r → PE (X.suite a ((a, oe) :: pn)) e (tCB r (tCons (tVar i) (tCons (tC (.ref C)) tNil)))) :
    PE (X.suite a ((a, oe) :: pn)) e (tE (G.sees a cls d) (gExc cs (fun c _ => ret (.bool (tbl c))) i)) := by
  constructor
  rintro pins s σ H Q I ⟨F, hs, ρ, R, p⟩
  obtain ⟨c, x, v, dx, m, e1, e2, h0, h1, h2, p2⟩ := gExc_cases (α := Unit) R p
  obtain ⟨t1, t2⟩ := T c m
  exact (he _ (call_isX (by rw [← h0]; exact hz) hf)).run pins s σ H Q I ⟨.ref a, e1, G.cl c, .ref C, .ref C, tbl c, _, rfl, e2, t1, h1, .own C, t2, post_ret R p2 (.inl (.bl _))⟩
/-- isinstance(error, (C, C2)) -/
theorem e_excIT {C C2 : Addr} (cs : List Nat) (i : Nat) (tbl tbl2 : Nat → Bool) (hK : G.K = X.K) (T : ∀ c ∈ cs, ExcC X.K (G.cl c) ∧ PySem.W.kitOne X.K (.ref (G.cl c)) (.ref C) = some (tbl c) ∧ PySem.W.kitOne X.K (.ref (G.cl c)) (.ref C2) = some (tbl2 c))
    (hz : Zc cls d oe) (hf : ∃ vs, oe.data = .fields vs)
    (he : ∀ r, CallR (X.suite a ((a, oe) :: pn)) (.builtin "isinstance") r → PE (X.suite a ((a, oe) :: pn)) e (tCB r (tCons (tVar i) (tCons (tTup (tCons (tC (.ref C)) (tCons (tC (.ref C2)) tNil))) tNil)))) :
    PE (X.suite a ((a, oe) :: pn)) e (tE (G.sees a cls d) (gExc cs (fun c _ => ret (.bool (tbl c || tbl2 c))) i)) := by
  constructor
  rintro pins s σ H Q I ⟨F, hs, ρ, R, p⟩
  obtain ⟨c, x, v, dx, m, e1, e2, h0, h1, h2, p2⟩ := gExc_cases (α := Unit) R p
  obtain ⟨t1, t2, t3⟩ := T c m
  refine (he _ (call_isXT (by rw [← h0]; exact hz) hf)).run pins s σ H Q I ⟨.ref a, e1, by rw [sizeLine_eq]; exact (by decide : 2 ≤ 16777216), fun q nq => ?_⟩
  have st : PStep F H F (upd H q (.tup [.ref C, .ref C2])) := PStep.garb R.sub nq
  refine ⟨G.cl c, q, [.ref C, .ref C2], [.ref C, .ref C2], (tbl c || tbl2 c), _, rfl, upd_same, .cons (.own C) (.cons (.own C2) .nil), e2, t1, st.keep _ _ h1, ?_, post_ret' R p2 st (.inl (.bl _))⟩
  refine kitAny_cons t2 (fun z => ?_) fun z => by rw [z]; rfl
  rw [z, Bool.false_or]
  refine kitAny_cons t3 (fun z2 => ?_) fun z2 => z2
  rw [z2]
  exact kitAny_nil
end
end L2.AR
set_option Elab.async false
set_option linter.all false
set_option maxRecDepth 100000
set_option maxHeartbeats 4000000
/-! Fw12: the rules under short names, as the printed derivations use them; a def by its body; slices, chains, gcd. -/
namespace L2.AR
open PySem PySem.Spec PyProof.Rows

/-! ### short names for the functions -/
def cK (d : D) : Rho → M D := fun _ => ret d
def b2 (f : D → D → Option D) (a b : Rho → M D) : Rho → M D := fun ρ => bnd (a ρ) fun x => bnd (b ρ) fun y => op2 f x y
def aN : Rho → M (List D) := fun _ => ret []
def aC (g : Rho → M D) (gs : Rho → M (List D)) : Rho → M (List D) := fun ρ => bnd (g ρ) fun d => bnd (gs ρ) fun ds => ret (d :: ds)
def cA (f : List D → Option D) (gs : Rho → M (List D)) : Rho → M D := fun ρ => bnd (gs ρ) (opA f)
def cM (m : List D → M D) (gs : Rho → M (List D)) : Rho → M D := fun ρ => bnd (gs ρ) m
def cI (Ts : List String) (g : Rho → M D) : Rho → M D := fun ρ => bnd (g ρ) (gIsi Ts)
def tV (g : Rho → M D) : Rho → M Bool := fun ρ => bnd (g ρ) asB
def tNo (u : Rho → M Bool) : Rho → M Bool := fun ρ => bnd (u ρ) fun c => ret (!c)
def tAn (u v : Rho → M Bool) : Rho → M Bool := fun ρ => bnd (u ρ) fun c => if c = true then v ρ else ret false
def tOr' (u v : Rho → M Bool) : Rho → M Bool := fun ρ => bnd (u ρ) fun c => if c = true then ret true else v ρ
def tYs : Rho → M Bool := fun _ => ret true
def vAn (a b : Rho → M D) : Rho → M D := fun ρ => bnd (a ρ) fun x => bnd (asB x) fun c => if c = true then b ρ else ret (.bool false)
def vOr (a b : Rho → M D) : Rho → M D := fun ρ => bnd (a ρ) fun x => bnd (asB x) fun c => if c = true then ret (.bool true) else b ρ
def vNo (a : Rho → M D) : Rho → M D := fun ρ => bnd (a ρ) fun x => bnd (asB x) fun c => ret (.bool (!c))
def negD : D → M D
  | .int i => ret (.int (-i))
  | _ => stk
def vNeg (a : Rho → M D) : Rho → M D := fun ρ => bnd (a ρ) negD
def vIf (u : Rho → M Bool) (a b : Rho → M D) : Rho → M D := fun ρ => bnd (u ρ) fun z => if z = true then a ρ else b ρ
/-- a op1 b op2 c -/
def ch3 (f f' : D → D → Option D) (a b c : Rho → M D) : Rho → M D := fun ρ => bnd (a ρ) fun x => bnd (b ρ) fun y => bnd (op2 f x y) fun z => bnd (asB z) fun k => if k = true then bnd (c ρ) fun w => op2 f' y w else ret (.bool false)
abbrev gS (K : PySem.W.Frag) (cl : Nat → Addr) (fld : Nat → Str) (ha : Option Addr) (H F : Hp) (E : XK) : Gh := ⟨K, ha, H, F, cl, fld, fun c d _ H => E c d H, 0, none, .none⟩
section
variable {X : Cx} {G : Gh} {pos : Pos} {e a b c : Expr} {es rest : List Expr} {g ga gb gc : Rho → M D} {gs : Rho → M (List D)} {u v : Rho → M Bool} {r r' : R2} {f f' : D → D → Option D}
theorem E_int {i j} : PE X (.Constant (.int i) j pos) (tE G (cK (.int i))) := e_int
theorem E_bl {b j} : PE X (.Constant (.bool b) j pos) (tE G (cK (.bool b))) := e_bl
theorem E_non {j} : PE X (.Constant .none j pos) (tE G (cK .none)) := e_non
theorem E_str {x j} : PE X (.Constant (.str x) j pos) (tE G (cK (.str x))) := e_str
theorem E_glob {x : Str} {i : Int} {w : Value} (hg : Gl X x) (hm : X.mg x = some w) (r : RelV (.int i) w) (hd : (x == ("__debug__" : Str)) = false := by decide) : PE X (.Name x pos) (tE G (cK (.int i))) := e_glob hg hm r hd
theorem E_op {op : Operator} (ho : OpR X (binaryOp op) r) (hf : R2ok G.K r f) (ha : PE X a (tE G ga)) (hb : PE X b (tE G gb)) : PE X (.BinOp a op b pos) (tE G (b2 f ga gb)) := e_op ho hf ha hb
theorem E_cmp {op : CmpOp} (ho : OpR X (compareOp op) r) (hf : R2ok G.K r f) (ha : PE X a (tE G ga)) (hb : PE X b (tE G gb)) (hm : behindInMarks op b = false := by first | exact nomark _ | rfl) : PE X (.Compare a [op] [b] pos) (tE G (b2 f ga gb)) := e_cmp ho hf ha hb hm
theorem E_ix (hK : G.K = X.K) (ha : PE X a (tE G ga)) (hb : PE X b (tE G gb)) (hs : PlainIx b := by intro _ _; rfl) : PE X (.Subscript a b pos) (tE G (b2 fIx ga gb)) := e_ix ix_seq (hK ▸ ix_ok) ha hb hs
theorem op2_bind {α β : Type} {rel : Hp → β → α → Prop} {Q : β → Hp → Prop} {K' : D → M α} {σ : St} {F H : Hp} {hs : HS} {ρ : Rho} {v w : V} {x y : D} (R : Rel G F H hs ρ σ) (hv : Rp G.K F G.ha v x) (hw : Rp G.K F G.ha w y) (p : post G σ F H rel Q (bnd (op2 f x y) K' hs)) (hf : R2ok G.K r f) (Q2 : VK)
    (k : ∀ u F' H' z, Rel G F' H' hs ρ σ → Step G.ha F H F' H' → Dq G.K F' u z → post G σ F' H' rel Q (K' z hs) → Q2 u H') : r v w H Q2 := by
  unfold op2 at p
  by_cases ht : (isTok x || isTok y) = true
  · rw [if_pos ht] at p
    exact p.elim
  · rw [if_neg ht] at p
    simp only [Bool.or_eq_true, not_or, Bool.not_eq_true] at ht
    cases e : f x y with
    | none => rw [e] at p; exact p.elim
    | some z =>
      rw [e] at p
      exact hf F H v w x y z _ R.sub (hv.dp ht.1) (hw.dp ht.2) e fun F' H' u s d => k u F' H' z (R.pstep s) s.step d (post.after s.step p)
theorem E_chain {op op' : CmpOp} (ho : OpR X (compareOp op) r) (hf : R2ok G.K r f) (ho' : OpR X (compareOp op') r') (hf' : R2ok G.K r' f') (ha : PE X a (tE G ga)) (hb : PE X b (tE G gb)) (hc : PE X c (tE G gc))
    (hm : lastMarks [op, op'] [b, c] = false := by with_unfolding_all rfl) : PE X (.Compare a [op, op'] [b, c] pos) (tE G (ch3 f f' ga gb gc)) := by
  refine peI (pe_chain ho ho' ha hb hc hm) ?_
  rintro σ H Q ⟨F, hs, ρ, R, p⟩
  refine (rd_bind R p).mono ?_
  rintro v H1 ⟨F1, hs1, x, R1, s1, r1, p1⟩
  refine (rd_bind R1 p1).mono ?_
  rintro w H2 ⟨F2, hs2, y, R2, s2, r2, p2⟩
  refine op2_bind R2 (r1.same s2.ff) r2 p2 hf _ fun z F3 H3 d3 R3 s3 dd p3 => ?_
  obtain ⟨k, ek, p4⟩ := asB_post R3 (.inl dd) p3
  refine ⟨k, ek, ?_⟩
  cases k with
  | false => exact iteF (post_ret R3 p4 (.inl (.bl false)))
  | true =>
    refine iteT ((rd_bind R3 p4).mono ?_)
    rintro t H4 ⟨F4, hs4, z4, R4, s4, r4, p5⟩
    exact op2_post R4 ((r2.same s3.ff).same s4.ff) r4 p5 hf'
theorem A_nil : PA X [] (tA G aN) := a_nil
theorem A_cons (he : PE X e (tE G g)) (hr : PA X es (tA G gs)) (hs : starEach (e :: es) X.env = (false, eval e X.env) :: starEach es X.env := by rfl) : PA X (e :: es) (tA G (aC g gs)) := a_cons he hr hs
theorem E_tup {x1} (h : PA X es (tA G gs)) : PE X (.Tuple es x1 pos) (tE G (cA mkTup gs)) := e_tup h
theorem E_lst (h : PA X es (tA G gs)) : PE X (.List es pos) (tE G (cA mkLst gs)) := e_lst h
theorem T_val (h : PE X e (tE G g)) (he : ∀ whole, isTrue e X.env whole = (do let v ← whole; standAt e.pos; holding [v] (truthy v)) := by intro _; rfl) : PT X e (tT G (tV g)) := t_val h he
theorem T_not (h : PT X e (tT G u)) : PT X (.UnaryOp .Not e pos) (tT G (tNo u)) := t_not h
theorem W_and1 (h : PT X a (tT G u)) : PW X (.BoolOp .And [a] pos) (tT G u) := pw_and1 h
theorem W_or1 (h : PT X a (tT G u)) : PW X (.BoolOp .Or [a] pos) (tT G u) := pw_or1 h
theorem W_and (h : PT X a (tT G u)) (h2 : PW X (.BoolOp .And (b :: rest) pos) (tT G v)) : PW X (.BoolOp .And (a :: b :: rest) pos) (tT G (tAn u v)) := w_and h h2
theorem W_or (h : PT X a (tT G u)) (h2 : PW X (.BoolOp .Or (b :: rest) pos) (tT G v)) : PW X (.BoolOp .Or (a :: b :: rest) pos) (tT G (tOr' u v)) := w_or h h2
theorem E_one {op} (h : PE X a (tE G ga)) : PE X (.BoolOp op [a] pos) (tE G ga) := pe_one h
theorem E_and (h : PE X a (tE G ga)) (h2 : PE X (.BoolOp .And (b :: rest) pos) (tE G gb)) : PE X (.BoolOp .And (a :: b :: rest) pos) (tE G (vAn ga gb)) := e_and h h2
theorem E_or (h : PE X a (tE G ga)) (h2 : PE X (.BoolOp .Or (b :: rest) pos) (tE G gb)) : PE X (.BoolOp .Or (a :: b :: rest) pos) (tE G (vOr ga gb)) := e_or h h2
theorem E_not (h : PE X a (tE G ga)) : PE X (.UnaryOp .Not a pos) (tE G (vNo ga)) := e_not h
theorem E_neg (h : PE X a (tE G ga)) : PE X (.UnaryOp .USub a pos) (tE G (vNeg ga)) := by
  refine peI (pe_un un_neg h) ?_
  rintro σ H Q ⟨F, hs, ρ, R, p⟩
  refine (rd_bind R p).mono ?_
  rintro x H1 ⟨F1, hs1, d, R1, s1, r1, p1⟩
  cases d with
  | int i =>
    cases r1.dp rfl
    exact ⟨i, rfl, post_ret R1 p1 (.inl (.int _))⟩
  | _ => exact p1.elim
theorem E_ifx (hc : PT X c (tT G u)) (ha : PE X a (tE G ga)) (hb : PE X b (tE G gb)) : PE X (.IfExp c a b pos) (tE G (vIf u ga gb)) := e_ifx hc ha hb

/-! ### slices -/
def relO : Hp → Option Int → Option Int → Prop := fun _ a b => a = b
abbrev tO (G : Gh) (g : Rho → M (Option Int)) : TO := rd G relO g
def oNo : Rho → M (Option Int) := fun _ => ret none
def asI : D → M (Option Int)
  | .int i => ret (some i)
  | _ => stk
def oSo (g : Rho → M D) : Rho → M (Option Int) := fun ρ => bnd (g ρ) asI
theorem poI {o : Option Expr} {t t' : TO} (h : PO X o t) (i : ∀ σ H Q, t' σ H Q → t σ H Q) : PO X o t' := ⟨fun pins s σ H Q I q => h.run pins s σ H Q I (i _ _ _ q)⟩
theorem O_no : PO X none (tO G oNo) := by
  refine poI po_none ?_
  rintro σ H Q ⟨F, hs, ρ, R, p⟩
  exact post_ret R p rfl
theorem O_so (h : PE X e (tE G g)) : PO X (some e) (tO G (oSo g)) := by
  refine poI (po_some h) ?_
  rintro σ H Q ⟨F, hs, ρ, R, p⟩
  refine (rd_bind R p).mono ?_
  rintro x H1 ⟨F1, hs1, d, R1, s1, r1, p1⟩
  cases d with
  | int i =>
    cases r1.dp rfl
    exact ⟨i, rfl, post_ret R1 p1 rfl⟩
  | _ => exact p1.elim
def cutD (ds : List D) (lo hi : Option Int) : List D := (ds.drop (HT.sIx ds.length 0 lo)).take (HT.sIx ds.length ds.length hi - HT.sIx ds.length 0 lo)
def sliceD (d : D) (lo hi : Option Int) : M D :=
  match d with
  | .list ds => ret (.list (cutD ds lo hi))
  | .tuple ds => ret (.tuple (cutD ds lo hi))
  | _ => stk
def sl (g : Rho → M D) (l h : Rho → M (Option Int)) : Rho → M D := fun ρ => bnd (g ρ) fun d => bnd (l ρ) fun a => bnd (h ρ) fun b => sliceD d a b
theorem cut_dq {K : PySem.W.Frag} {F : Hp} {vs : List V} {ds : List D} {lo hi : Option Int} (h : DqAll K F vs ds) : DqAll K F (cutV vs lo hi) (cutD ds lo hi) := by
  unfold cutV cutD
  rw [dpAll_len h]
  exact dpAll_take _ (dpAll_drop _ h)
theorem E_sl {lo hi : Option Expr} {l h : Rho → M (Option Int)} {p2 : Pos} (hK : G.K = X.K) (he : PE X e (tE G g)) (hl : PO X lo (tO G l)) (hh : PO X hi (tO G h)) : PE X (.Subscript e (.Slice lo hi none p2) pos) (tE G (sl g l h)) := by
  refine peI (pe_slice (SlR.or sl_tupA sl_list) he hl hh) ?_
  rintro σ H Q ⟨F, hs, ρ, R, p⟩
  refine (rd_bind R p).mono ?_
  rintro x H1 ⟨F1, hs1, d, R1, s1, r1, p1⟩
  refine (rd_bind R1 p1).mono ?_
  rintro a H2 ⟨F2, hs2, a', R2, s2, rfl, p2⟩
  refine (rd_bind R2 p2).mono ?_
  rintro b H3 ⟨F3, hs3, b', R3, s3, rfl, p3⟩
  have rr := (r1.same s2.ff).same s3.ff
  cases d with
  | list ds =>
    cases rr.dp rfl with
    | @lst pa xs _ h1 h2 =>
      exact .inr ⟨pa, xs, rfl, SqL.of (R3.sub _ _ h1), fun q nq => post_ret' R3 p3 (PStep.alloc R3.sub nq) (.inl (.lst upd_same (dpAll_same (PStep.alloc R3.sub nq (o := .lst (cutV xs a b))).ff _ _ (cut_dq h2))))⟩
  | tuple ds =>
    cases rr.dp rfl with
    | @tup pa xs _ h1 h2 =>
      refine .inl ⟨pa, xs, rfl, by rw [← hK]; exact sqt_same R3.sub h1, fun z => post_ret R3 p3 (.inl ?_), fun _ q nq => post_ret' R3 p3 (PStep.alloc R3.sub nq) (.inl (.tup (SqT.of upd_same) (dpAll_same (PStep.alloc R3.sub nq (o := .tup (cutV xs a b))).ff _ _ (cut_dq h2))))⟩
      have e1 : cutV xs a b = xs := by
        unfold cutV
        rw [z.1, z.2]
        simp
      have := cut_dq (lo := a) (hi := b) h2
      rw [e1] at this
      exact .tup h1 this
  | _ => exact p3.elim
/-- gcd(a, b), imported by its name -/
theorem E_callF {x : Str} {id : String} {p : Pos} {r : List V → Hp → VK → Prop} {f : List D → Option D} (hc : CallR X (.builtin id) r) (hf : RAok G.K r f) (hg : Gl X x) (hm : X.mg x = some (.builtin id)) (ha : PA X (e :: es) (tA G gs)) (hdb : (x == ("__debug__" : Str)) = false := by decide)
    (he : starEach (e :: es) X.env = (false, eval e X.env) :: starEach es X.env := by rfl) (hpl : (backTo pos (starEach es X.env)).any (·.1) = false := by rfl) : PE X (.Call (.Name x p) (e :: es) [] pos) (tE G (cA f gs)) := by
  refine peI (pe_callBfun hc hg hm ha hdb he hpl) fun σ H Q w => ?_
  refine (args_then (t := tA G gs) w).mono ?_
  rintro vs H1 ⟨F, hs, ρ, ds, R, r, p⟩
  exact opA_post R r p hf
theorem E_callB {x : Str} {id : String} {p : Pos} {r : List V → Hp → VK → Prop} {f : List D → Option D} (hc : CallR X (.builtin id) r) (hf : RAok G.K r f) (hg : Gl X x) (hm : X.mg x = none) (hv : bootBuiltins x = some (.builtin id)) (ha : PA X (e :: es) (tA G gs)) (hn : x ≠ "__name__" := by decide) (hdb : (x == ("__debug__" : Str)) = false := by decide)
    (he : starEach (e :: es) X.env = (false, eval e X.env) :: starEach es X.env := by rfl) (hpl : (backTo pos (starEach es X.env)).any (·.1) = false := by rfl) : PE X (.Call (.Name x p) (e :: es) [] pos) (tE G (cA f gs)) := e_callB hc hf hg hm hv ha hn hdb he hpl
theorem E_callTy {x : Str} {T : String} {p : Pos} {r : List V → Hp → VK → Prop} {f : List D → Option D} (hc : CallR X (.type T) r) (hf : RAok G.K r f) (hg : Gl X x) (hm : X.mg x = none) (hv : bootBuiltins x = some (.type T)) (ha : PA X (e :: es) (tA G gs)) (hn : x ≠ "__name__" := by decide) (hdb : (x == ("__debug__" : Str)) = false := by decide)
    (he : starEach (e :: es) X.env = (false, eval e X.env) :: starEach es X.env := by rfl) (hpl : (backTo pos (starEach es X.env)).any (·.1) = false := by rfl) : PE X (.Call (.Name x p) (e :: es) [] pos) (tE G (cA f gs)) := e_callTy hc hf hg hm hv ha hn hdb he hpl
theorem E_call {m : List D → M D} {k : Nat} {f : Addr} {fd : FuncData} {ps : List Str} {x : Str} {p : Pos} (g : Quiet X.A) (tk : Takes X G.W) (F : FnG X.prog X.w X.K X.mg X.base (L2.CX X.prog X.w) k f fd ps (spM G.K G.cl G.fld m)) (hr : Room k X.A) (hg : Gl X x) (hm : X.mg x = some (.ref f)) (hk : PySem.W.keepIn X.K (.ref f) = true) (hb : Binds X.K fd ps [])
    (ha : PA X (e :: es) (tA G gs)) (hdb : (x == ("__debug__" : Str)) = false := by decide) (he : starEach (e :: es) X.env = (false, eval e X.env) :: starEach es X.env := by rfl) (hpl : (backTo pos (starEach es X.env)).any (·.1) = false := by rfl) :
    PE X (.Call (.Name x p) (e :: es) [] pos) (tE G (cM m gs)) := e_call g tk F hr hg hm hk hb ha hdb he hpl
theorem E_call0 {m : List D → M D} {k : Nat} {f : Addr} {fd : FuncData} {ps : List Str} {x : Str} {p : Pos} (g : Quiet X.A) (tk : Takes X G.W) (F : FnG X.prog X.w X.K X.mg X.base (L2.CX X.prog X.w) k f fd ps (spM G.K G.cl G.fld m)) (hr : Room k X.A) (hg : Gl X x) (hm : X.mg x = some (.ref f)) (hk : PySem.W.keepIn X.K (.ref f) = true) (hb : Binds X.K fd ps [])
    (hdb : (x == ("__debug__" : Str)) = false := by decide) : PE X (.Call (.Name x p) [] [] pos) (tE G (cM m aN)) := e_call0 g tk F hr hg hm hk hb hdb
theorem Q_yes : PTs X [] (tT G tYs) := q_yes
theorem aLenC {n : Nat} {g : Rho → M D} {gs : Rho → M (List D)} (h : ALen n gs) : ALen (n + 1) (aC g gs) := aLenS h
theorem aLenN : ALen 0 aN := aLen0
end

/-! ### a def by its body -/
def runB (n k : Nat) (s : MS) (ds : List D) : M D := fun h =>
  if ds.length = k then
    match s (ds.map Sl.dat ++ List.replicate (n - k) .no) h with
    | .ok (.rt d) _ h' => .ok d h'
    | .ok .nx _ h' => .ok .none h'
    | .err c d _ h' => .err c d h'
    | _ => .stuck
  else .stuck
section
variable {P : Program} {w : World} {K : PySem.W.Frag} {mg : Str → Option Value} {base : Heap} {cl : Nat → Addr} {fld : Nat → Str}
theorem start_rel {ha : Option Addr} {F H : Hp} {hs : HS} {E : XK} {vs : List V} {ds : List D} {N : List Str} (s : Same F H) (hh : HandOK ha F H hs) (r : RpAll K F ha vs ds) (hl : ds.length ≤ N.length) :
    Rel (gS K cl fld ha H F E) F H hs (ds.map Sl.dat ++ List.replicate (N.length - ds.length) .no) (start N vs) := by
  have lv := r.len
  refine ⟨s, hh, fun b o e _ => e, Same.refl F, fun b h => .inl h, ?_, fun i x e => ?_, fun i j xs ys a hij e1 e2 o1 o2 e3 => ?_⟩
  · unfold start
    simp [lv]
  · by_cases hi : i < ds.length
    · rw [List.getElem?_append_left (by simpa using hi), List.getElem?_map] at e
      have ev : (start N vs)[i]? = vs[i]?.map some := by
        unfold start
        rw [List.getElem?_append_left (by simpa [lv] using hi), List.getElem?_map]
      have key : ∀ {vs : List V} {ds : List D} {i : Nat} {d : D}, RpAll K F ha vs ds → ds[i]? = some d → ∃ v, vs[i]? = some v ∧ Rp K F ha v d := by
        intro vs ds i d r
        induction r generalizing i with
        | nil => intro e; simp at e
        | cons r1 r2 ih =>
          intro e
          cases i with
          | zero => simp at e; subst e; exact ⟨_, rfl, r1⟩
          | succ i => exact ih e
      cases q : ds[i]? with
      | none => rw [q] at e; cases e
      | some d =>
        rw [q] at e
        cases e
        obtain ⟨v, e1, r1⟩ := key r q
        rw [ev, e1]
        exact ⟨v, rfl, r1⟩
    · rw [List.getElem?_append_right (by simpa using hi)] at e
      have : x = .no := List.eq_of_mem_replicate (List.mem_of_getElem? e)
      subst this
      trivial
  · have m := List.mem_of_getElem? e1
    rcases List.mem_append.mp m with z | z
    · obtain ⟨d, _, z⟩ := List.mem_map.mp z
      subst z
      cases o1
    · have z := List.eq_of_mem_replicate z
      subst z
      cases o1
/-- THE RULE for a def: it does as the function of its body says -/
theorem okM {x qual : Str} {st : Stmt} {f : Addr} {fd : FuncData} {N ps : List Str} {k : Nat} {m : List D → M D} {s : MS} (F : Fun K x qual st f fd) (S : FnScope N ps (defScope st)) (hm : m = runB N.length ps.length s)
    (body : ∀ (cdv : Value) (A : Around) (outer : List Env) (sh : Shared) (H : Hp) (E : XK) (ha : Option Addr) (F0 : Hp), Quiet (A.deeper (envOfC qual (defScope st) sh.heap.objs.size f cdv)) → Room k (A.deeper (envOfC qual (defScope st) sh.heap.objs.size f cdv)) →
      PSs (cxOf (L2.CX P w) P w K mg base N qual (defScope st) f cdv A outer sh H E) (defBody st) (tS (gS K cl fld ha H F0 E) s)) :
    FnG P w K mg base (L2.CX P w) (k + 1) f fd ps (spM K cl fld m) := by
  have pl : ps.length ≤ N.length := by have := congrArg List.length S.pre; rw [List.length_take] at this; omega
  have lens : ∀ vs H Q E, spM K cl fld m vs H Q E → vs.length = ps.length := by
    rintro vs H Q E ⟨ha, F0, hs, ds, s1, hh, r, q⟩
    rw [r.len]
    rw [hm] at q
    unfold runB at q
    by_cases c : ds.length = ps.length
    · exact c
    · rw [if_neg c] at q
      exact q.elim
  refine okG F S lens fun cdv A outer sh H vs Q E g hr h => ?_
  have h' := h
  obtain ⟨ha, F0, hs, ds, s1, hh, r, q⟩ := h
  have l2 : ds.length = ps.length := by rw [← r.len]; exact lens _ _ _ _ h'
  refine ⟨_, body cdv A outer sh H E ha F0 g hr, F0, hs, _, start_rel (N := N) s1 hh r (by omega), ?_⟩
  rw [hm] at q
  unfold runB at q
  rw [if_pos l2] at q
  rw [l2]
  cases e : s (ds.map Sl.dat ++ List.replicate (N.length - ps.length) .no) hs with
  | ok fl ρ h2 =>
    rw [e] at q
    cases fl with
    | nx => exact fun F2 H2 σ2 _ R => q F2 H2 .non R.entry R.hand (.inl .non)
    | rt d => exact fun F2 H2 σ2 v _ R rv => q F2 H2 v R.entry R.hand rv
    | bk => exact q.elim
    | ct => exact q.elim
  | err c d ρ h2 =>
    rw [e] at q
    exact fun F2 H2 σ2 dx v _ R hx hn dp => q F2 H2 dx v R.entry R.hand hx hn dp
  | stuck => rw [e] at q; exact q.elim
end
end L2.AR
set_option Elab.async false
set_option linter.all false
set_option maxRecDepth 100000
set_option maxHeartbeats 4000000
/-! Fw13: promises made weaker; plain form; an error's __init__; the law's rest behind its hand. -/
namespace L2.AR
open PySem PySem.Spec PyProof.Rows
section
variable {P : Program} {w : World} {K : PySem.W.Frag} {mg : Str → Option Value} {base : Heap} {CX : CXT} {k : Nat} {f : Addr} {fd : FuncData} {ps : List Str} {cl : Nat → Addr} {fld : Nat → Str}
/-- m' says no more than m -/
def Sub (m' m : List D → M D) : Prop := ∀ ds h, (∃ d h', m' ds h = .ok d h') ∨ (∃ c d h', m' ds h = .err c d h') → m ds h = m' ds h
theorem spM_imp {m m' : List D → M D} (s : Sub m' m) : ∀ vs H Q E, spM K cl fld m' vs H Q E → spM K cl fld m vs H Q E := by
  rintro vs H Q E ⟨ha, F, hs, ds, h1, h2, h3, q⟩
  refine ⟨ha, F, hs, ds, h1, h2, h3, ?_⟩
  cases e : m' ds hs with
  | ok d h' => rw [e] at q; rw [s ds hs (.inl ⟨d, h', e⟩), e]; exact q
  | err c d h' => rw [e] at q; rw [s ds hs (.inr ⟨c, d, h', e⟩), e]; exact q
  | stuck => rw [e] at q; exact q.elim
theorem FnG.less {m m' : List D → M D} (F : FnG P w K mg base CX k f fd ps (spM K cl fld m)) (s : Sub m' m) : FnG P w K mg base CX k f fd ps (spM K cl fld m') :=
  ⟨fun vs H Q E q => F.len vs H Q E (spM_imp s _ _ _ _ q), fun A outer sh H args us vs Q E g r e b v q => F.run A outer sh H args us vs Q E g r e b v (spM_imp s _ _ _ _ q)⟩
/-- a def of which nothing is said -/
theorem FnG.nothing {k : Nat} : FnG P w K mg base CX k f fd ps (spM K cl fld fun _ _ => .stuck) :=
  ⟨fun vs H Q E ⟨_, _, _, _, _, _, _, q⟩ => q.elim, fun A outer sh H args us vs Q E g r e b v ⟨_, _, _, _, _, _, _, q⟩ => q.elim⟩
end

theorem bnd_ok {α β : Type} {x : M α} {f : α → M β} {h h' : HS} {a : α} (e : x h = .ok a h') : bnd x f h = f a h' := by
  unfold bnd
  rw [e]
theorem bnd_err {α β : Type} {x : M α} {f : α → M β} {h h' : HS} {c : Nat} {d : D} (e : x h = .err c d h') : bnd x f h = .err c d h' := by
  unfold bnd
  rw [e]
theorem aC_ok {g : Rho → M D} {gs : Rho → M (List D)} {ρ : Rho} {h h1 h2 : HS} {d : D} {ds : List D} (e : g ρ h = .ok d h1) (e2 : gs ρ h1 = .ok ds h2) : aC g gs ρ h = .ok (d :: ds) h2 := by
  show bnd (g ρ) _ h = _
  rw [bnd_ok e, bnd_ok e2]
  rfl
theorem cA_ok {f : List D → Option D} {gs : Rho → M (List D)} {ρ : Rho} {h h1 : HS} {ds : List D} (e : gs ρ h = .ok ds h1) : cA f gs ρ h = opA f ds h1 := bnd_ok e
theorem cM_ok {m : List D → M D} {gs : Rho → M (List D)} {ρ : Rho} {h h1 : HS} {ds : List D} (e : gs ρ h = .ok ds h1) : cM m gs ρ h = m ds h1 := bnd_ok e
/-! ### plain form -/
mutual
def plainD : D → D
  | .list ds => .tuple (plainL ds)
  | .tuple ds => .tuple (plainL ds)
  | .none => .none
  | .bool b => .bool b
  | .int i => .int i
  | .str x => .str x
  | .dict k => .dict k
def plainL : List D → List D
  | [] => []
  | d :: ds => plainD d :: plainL ds
end
/-- nested less than n deep, rows not too long -/
def okP : Nat → D → Bool
  | 0, _ => false
  | n + 1, .list ds => decide (ds.length ≤ 100000) && ds.all (okP n)
  | n + 1, .tuple ds => decide (ds.length ≤ 100000) && ds.all (okP n)
  | _ + 1, .dict _ => false
  | _ + 1, _ => true
def sPlain (m : List D → M D) : MS := sSeq (sIf (tV (cI ["list", "tuple"] (gVar 0))) (sRet (cA fTuple (aC (gComp [1] (gVar 0) (tgN 1) tYs (cM m (aC (gVar 1) aN))) aN))) sSkip) (sRet (gVar 0))
def mPl : Nat → List D → M D
  | 0 => fun _ _ => .stuck
  | n + 1 => runB 2 1 (sPlain (mPl n))
def mPlain (n : Nat) : List D → M D
  | [d] => if okP n d = true then ret (plainD d) else stk
  | _ => stk
theorem kit_ll : kitB "list" "list" = some true := by decide +kernel
theorem kit_lt : kitB "list" "tuple" = some false := by decide +kernel
theorem kit_tl : kitB "tuple" "list" = some false := by decide +kernel
theorem kit_tt : kitB "tuple" "tuple" = some true := by decide +kernel
theorem kit_nl : kitB "NoneType" "list" = some false := by decide +kernel
theorem kit_nt : kitB "NoneType" "tuple" = some false := by decide +kernel
theorem kit_bl : kitB "bool" "list" = some false := by decide +kernel
theorem kit_bt : kitB "bool" "tuple" = some false := by decide +kernel
theorem kit_il : kitB "int" "list" = some false := by decide +kernel
theorem kit_it : kitB "int" "tuple" = some false := by decide +kernel
theorem kit_sl : kitB "str" "list" = some false := by decide +kernel
theorem kit_st : kitB "str" "tuple" = some false := by decide +kernel
theorem kit_ni : kitB "NoneType" "int" = some false := by decide +kernel
theorem kit_bi : kitB "bool" "int" = some true := by decide +kernel
theorem kit_ii : kitB "int" "int" = some true := by decide +kernel
theorem kit_si : kitB "str" "int" = some false := by decide +kernel
theorem kit_li : kitB "list" "int" = some false := by decide +kernel
theorem kit_ti : kitB "tuple" "int" = some false := by decide +kernel
theorem kit_nb : kitB "NoneType" "bool" = some false := by decide +kernel
theorem kit_bb : kitB "bool" "bool" = some true := by decide +kernel
theorem kit_ib : kitB "int" "bool" = some false := by decide +kernel
theorem kit_sb : kitB "str" "bool" = some false := by decide +kernel
theorem kit_lb : kitB "list" "bool" = some false := by decide +kernel
theorem kit_tb : kitB "tuple" "bool" = some false := by decide +kernel
theorem kit_ns : kitB "NoneType" "str" = some false := by decide +kernel
theorem kit_bs : kitB "bool" "str" = some false := by decide +kernel
theorem kit_is : kitB "int" "str" = some false := by decide +kernel
theorem kit_ss : kitB "str" "str" = some true := by decide +kernel
theorem kit_ls : kitB "list" "str" = some false := by decide +kernel
theorem kit_ts : kitB "tuple" "str" = some false := by decide +kernel
theorem isSeq_is (d : D) : isTok d = false → isiAny ["list", "tuple"] d = some (itemsOf d).isSome := by
  intro h
  cases d with
  | none => simp [isiAny, kindD, kit_nl, kit_nt, itemsOf]
  | bool b => simp [isiAny, kindD, kit_bl, kit_bt, itemsOf]
  | int i => simp [isiAny, kindD, kit_il, kit_it, itemsOf]
  | str x => simp [isiAny, kindD, kit_sl, kit_st, itemsOf]
  | list ds => simp [isiAny, kindD, kit_ll, itemsOf]
  | tuple ds => simp [isiAny, kindD, kit_tl, kit_tt, itemsOf]
  | dict k => cases h
theorem plain_tok : ∀ {d : D}, isTok d = false → isTok (plainD d) = false
  | .list _, _ => rfl
  | .tuple _, _ => rfl
  | .none, _ => rfl
  | .bool _, _ => rfl
  | .int _, _ => rfl
  | .str _, _ => rfl
theorem okP_tok {n : Nat} {d : D} (h : okP n d = true) : isTok d = false := by
  cases n with
  | zero => cases h
  | succ n => cases d <;> first | rfl | cases h
theorem comp_plain {n : Nat} {ρ : Rho} (hρ : 1 < ρ.length) (ih : ∀ d h, okP n d = true → mPl n [d] h = .ok (plainD d) h) : ∀ (ds acc : List D) (h : HS), ds.all (okP n) = true → acc.length + ds.length ≤ 100000 →
    comp1 (tgN 1) tYs (cM (mPl n) (aC (gVar 1) aN)) ρ ds acc h = .ok (.list (acc ++ plainL ds)) h
  | [], acc, h, _, _ => by
    simp [comp1, plainL, ret]
  | d :: ds, acc, h, ha, hl => by
    rw [List.all_cons, Bool.and_eq_true] at ha
    have hlen : acc.length < 1000000 := by simp at hl; omega
    have e1 : (ρ.set 1 (.dat d))[1]? = some (.dat d) := by
      rw [List.getElem?_set_self hρ]
    have e2 : cM (mPl n) (aC (gVar 1) aN) (ρ.set 1 (.dat d)) h = .ok (plainD d) h := by
      unfold cM aC aN gVar
      rw [e1]
      simp only [bnd_ret]
      exact ih d h ha.1
    have tk := plain_tok (okP_tok ha.1)
    have step := comp_plain hρ ih ds (acc ++ [plainD d]) h ha.2 (by simp at hl ⊢; omega)
    unfold comp1
    simp only [tgN]
    show bnd (nerr (tYs (ρ.set 1 (.dat d)))) _ h = _
    unfold tYs
    show bnd (nerr (cM (mPl n) (aC (gVar 1) aN) (ρ.set 1 (.dat d)))) _ h = _
    unfold bnd nerr
    rw [e2]
    show (if isTok (plainD d) = false ∧ acc.length < 1000000 then comp1 (tgN 1) tYs (cM (mPl n) (aC (gVar 1) aN)) ρ ds (acc ++ [plainD d]) else stk) h = _
    rw [if_pos ⟨tk, hlen⟩, step]
    simp [plainL]
theorem plain_is : ∀ (n : Nat) (d : D) (h : HS), okP n d = true → mPl n [d] h = .ok (plainD d) h
  | 0, d, h, e => by cases e
  | n + 1, d, h, e => by
    have tk := okP_tok e
    have isq := isSeq_is d tk
    have cond : tV (cI ["list", "tuple"] (gVar 0)) [.dat d, .no] h = .ok (itemsOf d).isSome h := by
      unfold tV cI gVar gIsi
      simp [bnd, ret, tk, isq, asB]
    have seqc : ∀ ds : List D, itemsOf d = some ds → ds.length ≤ 100000 → ds.all (okP n) = true → mPl (n + 1) [d] h = .ok (.tuple (plainL ds)) h := by
      intro ds ei hl ha
      have c := comp_plain (n := n) (ρ := [Sl.dat d, .no]) (by simp) (plain_is n) ds [] h ha (by simpa using hl)
      unfold mPl runB
      simp only [List.length_cons, List.length_nil, if_true, List.map_cons, List.map_nil, List.nil_append]
      show (match sPlain (mPl n) [.dat d, .no] h with | .ok (.rt d) _ h' => Out.ok d h' | .ok .nx _ h' => .ok .none h' | .err c d _ h' => .err c d h' | _ => .stuck) = _
      unfold sPlain sSeq sIf sExp
      rw [cond, ei]
      simp only [Option.isSome_some, if_true]
      have g : gComp [1] (gVar 0) (tgN 1) tYs (cM (mPl n) (aC (gVar 1) aN)) [.dat d, .no] h = .ok (.list (plainL ds)) h := by
        unfold gComp
        show bnd (gVar 0 [.dat d, .no]) _ h = _
        unfold gVar
        simp only [List.getElem?_cons_zero, bnd_ret, ei, orStk]
        exact c
      have g2 : cA fTuple (aC (gComp [1] (gVar 0) (tgN 1) tYs (cM (mPl n) (aC (gVar 1) aN))) aN) [.dat d, .no] h = .ok (.tuple (plainL ds)) h := by
        rw [cA_ok (aC_ok g rfl)]
        rfl
      unfold sRet sExp
      rw [g2]
    cases d with
    | list ds =>
      have e' : (decide (ds.length ≤ 100000) && ds.all (okP n)) = true := e
      rw [Bool.and_eq_true, decide_eq_true_eq] at e'
      rw [seqc ds rfl e'.1 e'.2]
      simp [plainD]
    | tuple ds =>
      have e' : (decide (ds.length ≤ 100000) && ds.all (okP n)) = true := e
      rw [Bool.and_eq_true, decide_eq_true_eq] at e'
      rw [seqc ds rfl e'.1 e'.2]
      simp [plainD]
    | none => unfold mPl runB; simp [sPlain, sSeq, sIf, sExp, cond, itemsOf, sSkip, sRet, gVar, ret, plainD]
    | bool b => unfold mPl runB; simp [sPlain, sSeq, sIf, sExp, cond, itemsOf, sSkip, sRet, gVar, ret, plainD]
    | int b => unfold mPl runB; simp [sPlain, sSeq, sIf, sExp, cond, itemsOf, sSkip, sRet, gVar, ret, plainD]
    | str b => unfold mPl runB; simp [sPlain, sSeq, sIf, sExp, cond, itemsOf, sSkip, sRet, gVar, ret, plainD]
    | dict k => cases tk
theorem plain_sub (n : Nat) : Sub (mPlain n) (mPl n) := by
  intro ds h q
  unfold mPlain at q ⊢
  split at q
  · rename_i d
    split at q
    · rename_i c
      simp only [c, if_true]
      rw [plain_is n d h c]
      rfl
    · rcases q with ⟨_, _, q⟩ | ⟨_, _, _, q⟩ <;> cases q
  · rcases q with ⟨_, _, q⟩ | ⟨_, _, _, q⟩ <;> cases q

/-! ### an error's __init__ -/
section
variable {P : Program} {w : World} {K : PySem.W.Frag} {mg : Str → Option Value} {base : Heap} {cl : Nat → Addr} {fld : Nat → Str}
theorem okI {qual pn : Str} {st : Stmt} {f : Addr} {fd : FuncData} {C : Addr} {fl : Str} {k : Nat} {m : List D → M D} {g : Rho → M D} (F : Fun K "__init__" qual st f fd) (S : FnScope ["self", pn] ["self", pn] (defScope st)) (T : OexC K C) (hno : PySem.W.findIn K (.ref C) fl = some none)
    (hg : ∀ d, g [.no, .dat d] = m [d])
    (body : ∀ (cdv : Value) (A : Around) (outer : List Env) (sh : Shared) (H : Hp) (E : XK) (ha : Option Addr) (F0 : Hp), Quiet (A.deeper (envOfC qual (defScope st) sh.heap.objs.size f cdv)) → Room k (A.deeper (envOfC qual (defScope st) sh.heap.objs.size f cdv)) →
      PSs (cxOf (L2.CX P w) P w K mg base ["self", pn] qual (defScope st) f cdv A outer sh H E) (defBody st) (tOst K fl (tVar 0) (tE (gS K cl fld ha H F0 E) g))) :
    FnG P w K mg base (L2.CX P w) (k + 1) f fd ["self", pn] (spI K C fl m) := by
  refine okG F S (fun vs H Q E ⟨_, _, _, _, _, _, e, _⟩ => by rw [e]; rfl) fun cdv A outer sh H vs Q E gq hr h => ?_
  obtain ⟨ha, F0, hs, a, v, d, rfl, s1, hh, ea, fa, nha, rv, q⟩ := h
  refine ⟨_, body cdv A outer sh H E ha F0 gq hr, ?_⟩
  have R : Rel (gS K cl fld ha H F0 E) F0 H hs [.no, .dat d] [some (.ref a), some v] := by
    refine ⟨s1, hh, fun b o e _ => e, Same.refl F0, fun b h => .inl h, rfl, fun i x e => ?_, fun i j xs ys b hij e1 e2 o1 o2 e3 => ?_⟩
    · match i, e with
      | 0, e => cases e; trivial
      | 1, e => cases e; exact ⟨v, rfl, rv⟩
      | n + 2, e => simp at e
    · match i, e1 with
      | 0, e => cases e; cases o1
      | 1, e => cases e; cases o1
      | n + 2, e => simp at e
  refine ⟨F0, hs, _, R, ?_⟩
  rw [hg]
  cases z : m [d] hs with
  | ok x h' =>
    rw [z] at q
    intro F' H' u st hh' ru
    exact ⟨.ref a, rfl, a, C, rfl, T, hno, .inl ⟨st.keep _ _ ea nha, fun dx n ne => q.2 F' H' dx u st hh' n ne (ru.dp q.1)⟩⟩
  | err c x h' => rw [z] at q; exact q.elim
  | stuck => rw [z] at q; exact q.elim
end
/-! ### comparisons as tests -/
theorem tV_imp {G : Gh} {g : Rho → M D} {σ : St} {H : Hp} {Q : Bool → Hp → Prop} (h : tT G (tV g) σ H Q) : tE G g σ H fun x H1 => ∃ c, x = .bl c ∧ Q c H1 := by
  obtain ⟨F, hs, ρ, R, p⟩ := h
  refine (rd_bind R p).mono ?_
  rintro x H1 ⟨F1, hs1, d, R1, s1, r1, p1⟩
  rw [show asB d = bnd (asB d) ret from (bnd_ret_right _).symm] at p1
  obtain ⟨c, ex, p2⟩ := asB_post R1 r1 p1
  exact ⟨c, ex, post_ret R1 p2 rfl⟩
section
variable {X : Cx} {G : Gh} {pos : Pos} {a b c : Expr} {ga gb gc : Rho → M D} {r r' : R2} {f f' : D → D → Option D}
theorem b2_imp {σ : St} {H : Hp} {Q : VK} (hf : R2ok G.K r f) (h : tE G (b2 f ga gb) σ H Q) : tOp r (tE G ga) (tE G gb) σ H Q := by
  refine (two_vals (k := op2 f) h).mono fun v H1 h1 => h1.mono ?_
  rintro w H2 ⟨F, hs, ρ, x, y, R, r1, r2, p⟩
  exact op2_post R r1 r2 p hf
theorem T_cmp {op : CmpOp} (ho : OpR X (compareOp op) r) (hf : R2ok G.K r f) (ha : PE X a (tE G ga)) (hb : PE X b (tE G gb)) (hm : behindInMarks op b = false := by first | exact nomark _ | rfl) : PT X (.Compare a [op] [b] pos) (tT G (tV (b2 f ga gb))) :=
  ptI (pt_cmpR ho ha hb hm) fun σ H Q h => b2_imp hf (tV_imp h)
theorem ch3_imp {σ : St} {H : Hp} {Q : VK} (hf : R2ok G.K r f) (hf' : R2ok G.K r' f') (h : tE G (ch3 f f' ga gb gc) σ H Q) : tChain r r' (tE G ga) (tE G gb) (tE G gc) σ H Q := by
  obtain ⟨F, hs, ρ, R, p⟩ := h
  refine (rd_bind R p).mono ?_
  rintro v H1 ⟨F1, hs1, x, R1, s1, r1, p1⟩
  refine (rd_bind R1 p1).mono ?_
  rintro w H2 ⟨F2, hs2, y, R2, s2, r2, p2⟩
  refine op2_bind R2 (r1.same s2.ff) r2 p2 hf _ fun z F3 H3 d3 R3 s3 dd p3 => ?_
  obtain ⟨k, ek, p4⟩ := asB_post R3 (.inl dd) p3
  refine ⟨k, ek, ?_⟩
  cases k with
  | false => exact iteF (post_ret R3 p4 (.inl (.bl false)))
  | true =>
    refine iteT ((rd_bind R3 p4).mono ?_)
    rintro t H4 ⟨F4, hs4, z4, R4, s4, r4, p5⟩
    exact op2_post R4 ((r2.same s3.ff).same s4.ff) r4 p5 hf'
theorem T_chain {op op' : CmpOp} (ho : OpR X (compareOp op) r) (hf : R2ok G.K r f) (ho' : OpR X (compareOp op') r') (hf' : R2ok G.K r' f') (ha : PE X a (tE G ga)) (hb : PE X b (tE G gb)) (hc : PE X c (tE G gc))
    (hm : lastMarks [op, op'] [b, c] = false := by with_unfolding_all rfl) : PT X (.Compare a [op, op'] [b, c] pos) (tT G (tV (ch3 f f' ga gb gc))) :=
  ptI (pt_chain ho ho' ha hb hc hm) fun σ H Q h => ch3_imp hf hf' (tV_imp h)
end
theorem E_globI {X : Cx} {G : Gh} {pos : Pos} {x : Str} {i : Int} (hg : Gl X x) (hm : ∃ tk, X.mg x = some (.int i tk)) (hd : (x == ("__debug__" : Str)) = false := by decide) : PE X (.Name x pos) (tE G (cK (.int i))) := by
  obtain ⟨tk, hm⟩ := hm
  exact e_glob hg hm ⟨_, rfl⟩ hd
/-! ### loops, once more -/
theorem p_for' {X : Cx} {G : Gh} {st : Stmt} {g : Rho → M D} {gt : TG} {t : Tgt} {s : MS} (vs : List Nat) (hK : G.K = X.K) (ht : GOk G vs gt t) (h : PS X st (tFor (iSeq X.K (tE G g)) gt (tS G s))) : PS X st (tS G (sFor g t s)) := by
  refine psI h ?_
  rintro E σ H ⟨F, hs, ρ, R, p⟩
  rw [← hK]
  refine iSeq_of (k := fun _ _ _ _ => True) R ?_
  unfold sFor sExp at p
  cases z : g ρ hs with
  | ok d h' =>
    rw [z] at p
    simp only at p
    cases w : itemsOf d with
    | none => rw [w] at p; exact p.elim
    | some ds =>
      rw [w] at p
      exact ⟨ds, w, fun F' H' J st hh S => for_inv ht (R.step st hh) S (postS.after st.ff p)⟩
  | err c d h' =>
    rw [z] at p
    exact fun F' H' dx v s h hx hn dp => p F' H' σ dx v s.ff (R.step s h) hx hn dp
  | stuck => rw [z] at p; exact p.elim
/-! ### the hand -/
/-- a draw: the next figure's rest by n -/
def mDraw : List D → M D
  | [.dict [], .int n] => fun h => if n = 0 then .stuck else .ok (.int (if h.row.length ≤ h.pos then 0 else (h.row.getD h.pos 0).fmod n)) ⟨h.row, h.pos + 1⟩
  | _ => stk
theorem mDraw_shape {ds : List D} {h : HS} (q : mDraw ds h ≠ .stuck) : ∃ n : Int, ds = [tok, .int n] ∧ n ≠ 0 := by
  unfold mDraw at q
  split at q
  · rename_i n
    refine ⟨n, rfl, fun e => q ?_⟩
    rw [if_pos e]
  · exact absurd rfl q
theorem row_at : ¬ (Str.ofString "row" = Str.ofString "at") := by decide
/-- the hand is made -/
def spHand (K : PySem.W.Frag) : Sp := fun vs H Q _ => ∃ (a : Addr) (ns : List Int), vs = [.ref a] ∧ SqL K H a (ns.map V.int) ∧ ns.length ≤ 63 ∧
  ∀ (H' : Hp) (d r : Addr) (row : List Int), r ≠ d → H' d = some (.dK [(.inr "row", .ref r), (.inr "at", .int 0)]) → H' r = some (.lst (row.map V.int)) → (∀ x ∈ row, 0 ≤ x ∧ x < 30) → row.length ≤ 720 → Q (.ref d) H'
/-- the law's promise -/
def spLaw (K : PySem.W.Frag) : Sp := fun vs H Q _ => ∃ (a : Addr) (ns : List Int), vs = [.ref a] ∧ SqL K H a (ns.map V.int) ∧ ns.length ≤ 63 ∧ ∀ H', Q (.bl true) H'
/-- a row of figures -/
def GoodRow (row : List Int) : Prop := ∀ x ∈ row, 0 ≤ x ∧ x < 30
/-! ### the law -/
def tAnyS (K : PySem.W.Frag) (cl : Nat → Addr) (fld : Nat → Str) (E : XK) (s : MS) : TS := fun D σ H => ∃ ha H0 F0, tS (gS K cl fld ha H0 F0 E) s D σ H
theorem p_any {X : Cx} {K : PySem.W.Frag} {cl : Nat → Addr} {fld : Nat → Str} {E : XK} {s : MS} {sts : List Stmt} (h : ∀ ha H0 F0, PSs X sts (tS (gS K cl fld ha H0 F0 E) s)) : PSs X sts (tAnyS K cl fld E s) :=
  ⟨fun pins sh σ H D I ⟨ha, H0, F0, q⟩ => (h ha H0 F0).run pins sh σ H D I q⟩
end L2.AR
set_option Elab.async false
set_option linter.all false
set_option maxRecDepth 100000
set_option maxHeartbeats 4000000
/-! Fw14: reckoning with the functions: one step each. -/
namespace L2.AR
open PySem PySem.Spec PyProof.Rows

/-! ### ends of statements, the state left aside -/
def okS (f : Fl) (ρ : Rho) : HS → OutS := fun h => .ok f ρ h
def errS (c : Nat) (d : D) (ρ : Rho) : HS → OutS := fun h => .err c d ρ h
def stkS : HS → OutS := fun _ => .stuck
def bndS {α : Type} (x : M α) (ρ : Rho) (k : α → MS) : HS → OutS := fun h =>
  match x h with
  | .ok a h' => k a ρ h'
  | .err c d h' => .err c d ρ h'
  | .stuck => .stuck
def seqS (o : HS → OutS) (t : MS) : HS → OutS := fun h =>
  match o h with
  | .ok .nx ρ' h' => t ρ' h'
  | x => x
@[simp] theorem bndS_ret {α : Type} (a : α) (ρ : Rho) (k : α → MS) : bndS (ret a) ρ k = k a ρ := rfl
@[simp] theorem bndS_fail {α : Type} (c : Nat) (d : D) (ρ : Rho) (k : α → MS) : bndS (fail c d) ρ k = errS c d ρ := rfl
@[simp] theorem seqS_nx (ρ : Rho) (t : MS) : seqS (okS .nx ρ) t = t ρ := rfl
@[simp] theorem seqS_rt (d : D) (ρ : Rho) (t : MS) : seqS (okS (.rt d) ρ) t = okS (.rt d) ρ := rfl
@[simp] theorem seqS_bk (ρ : Rho) (t : MS) : seqS (okS .bk ρ) t = okS .bk ρ := rfl
@[simp] theorem seqS_ct (ρ : Rho) (t : MS) : seqS (okS .ct ρ) t = okS .ct ρ := rfl
@[simp] theorem seqS_err (c : Nat) (d : D) (ρ : Rho) (t : MS) : seqS (errS c d ρ) t = errS c d ρ := rfl
theorem seqS_if {c : Prop} [Decidable c] (a b : HS → OutS) (t : MS) : seqS (if c then a else b) t = if c then seqS a t else seqS b t := by split <;> rfl
@[simp] theorem x_seq (s t : MS) (ρ : Rho) : sSeq s t ρ = seqS (s ρ) t := rfl
@[simp] theorem x_exp {α : Type} (g : Rho → M α) (k : α → MS) (ρ : Rho) : sExp g k ρ = bndS (g ρ) ρ k := rfl
@[simp] theorem x_skip (ρ : Rho) : sSkip ρ = okS .nx ρ := rfl
@[simp] theorem x_brk (ρ : Rho) : sBrk ρ = okS .bk ρ := rfl
@[simp] theorem x_cnt (ρ : Rho) : sCnt ρ = okS .ct ρ := rfl
@[simp] theorem x_put (i : Nat) (d : D) (ρ : Rho) : sPut i d ρ = okS .nx (ρ.set i (.dat d)) := rfl
@[simp] theorem x_set (i : Nat) (g : Rho → M D) (ρ : Rho) : sSet i g ρ = bndS (g ρ) ρ (sPut i) := rfl
theorem x_ret (g : Rho → M D) (ρ : Rho) : sRet g ρ = bndS (g ρ) ρ fun d ρ => okS (.rt d) ρ := rfl
@[simp] theorem x_ret' (g : Rho → M D) : sRet g = fun ρ => bndS (g ρ) ρ fun d ρ => okS (.rt d) ρ := rfl
@[simp] theorem x_do (g : Rho → M D) (ρ : Rho) : sDo g ρ = bndS (g ρ) ρ fun _ => sSkip := rfl
@[simp] theorem x_if (c : Rho → M Bool) (s t : MS) (ρ : Rho) : sIf c s t ρ = bndS (c ρ) ρ fun b => if b = true then s else t := rfl
@[simp] theorem x_asg (g : Rho → M D) (t : Tgt) (ρ : Rho) : sAsg g t ρ = bndS (g ρ) ρ (sTo t) := rfl
def toS (o : Option Rho) : HS → OutS :=
  match o with
  | some ρ' => okS .nx ρ'
  | none => stkS
@[simp] theorem toS_some (ρ : Rho) : toS (some ρ) = okS .nx ρ := rfl
@[simp] theorem x_to (t : Tgt) (d : D) (ρ : Rho) : sTo t d ρ = toS (t d ρ) := by
  unfold sTo toS
  cases t d ρ <;> rfl
@[simp] theorem x_tgN (i : Nat) (d : D) (ρ : Rho) : tgN i d ρ = some (ρ.set i (.dat d)) := rfl
@[simp] theorem x_tgT (ts : List Tgt) (ds : List D) (ρ : Rho) : tgT ts (.tuple ds) ρ = tgAll ts ds ρ := rfl
@[simp] theorem x_tgAll0 (ρ : Rho) : tgAll [] [] ρ = some ρ := rfl
@[simp] theorem x_tgAll1 (t : Tgt) (ts : List Tgt) (d : D) (ds : List D) (ρ : Rho) : tgAll (t :: ts) (d :: ds) ρ = (t d ρ).bind (tgAll ts ds) := rfl
def par2 (i j : Nat) (ds : List D) : MS := fun ρ h => match ds with | [x, y] => .ok .nx ((ρ.set i (.dat x)).set j (.dat y)) h | _ => .stuck
@[simp] theorem par2_is (i j : Nat) (x y : D) (ρ : Rho) : par2 i j [x, y] ρ = okS .nx ((ρ.set i (.dat x)).set j (.dat y)) := rfl
@[simp] theorem x_par (i j : Nat) (gs : Rho → M (List D)) (ρ : Rho) : sPar i j gs ρ = bndS (gs ρ) ρ (par2 i j) := rfl
@[simp] theorem x_new (i : Nat) (ρ : Rho) : sNew i ρ = okS .nx (ρ.set i (.own [])) := rfl
theorem x_raise (c : Nat) (g : Rho → M D) (ρ : Rho) : sRaise c g ρ = bndS (g ρ) ρ fun d => errS c d := rfl
@[simp] theorem x_raise' (c : Nat) (g : Rho → M D) : sRaise c g = fun ρ => bndS (g ρ) ρ fun d => errS c d := rfl
theorem x_frz_own {i : Nat} {ρ : Rho} {ds : List D} (e : ρ[i]? = some (.own ds)) : sFrz i ρ = okS .nx (ρ.set i (.dat (.list ds))) := by
  funext h
  unfold sFrz
  rw [e]
  rfl
theorem x_app {i : Nat} {g : Rho → M D} {ρ : Rho} {ds : List D} {d : D} (e : ρ[i]? = some (.own ds)) (eg : g ρ = ret d) (t : isTok d = false) (l : ds.length < 1000000) : sApp i g ρ = okS .nx (ρ.set i (.own (ds ++ [d]))) := by
  funext h
  unfold sApp
  rw [e]
  simp only [x_exp, eg, bndS_ret]
  rw [if_pos ⟨t, l⟩]
  rfl
/-- a turn's end -/
def turnS (o : HS → OutS) (t : MS) : HS → OutS := fun h =>
  match o h with
  | .ok .nx ρ2 h2 => t ρ2 h2
  | .ok .ct ρ2 h2 => t ρ2 h2
  | .ok .bk ρ2 h2 => .ok .nx ρ2 h2
  | x => x
@[simp] theorem turnS_nx (ρ : Rho) (t : MS) : turnS (okS .nx ρ) t = t ρ := rfl
@[simp] theorem turnS_ct (ρ : Rho) (t : MS) : turnS (okS .ct ρ) t = t ρ := rfl
@[simp] theorem turnS_bk (ρ : Rho) (t : MS) : turnS (okS .bk ρ) t = okS .nx ρ := rfl
@[simp] theorem turnS_rt (d : D) (ρ : Rho) (t : MS) : turnS (okS (.rt d) ρ) t = okS (.rt d) ρ := rfl
@[simp] theorem turnS_err (c : Nat) (d : D) (ρ : Rho) (t : MS) : turnS (errS c d ρ) t = errS c d ρ := rfl
@[simp] theorem x_loop0 (t : Tgt) (b : MS) (ρ : Rho) : loopL t b [] ρ = okS .nx ρ := rfl
theorem x_loop1 {t : Tgt} {b : MS} {d : D} {ds : List D} {ρ ρ1 : Rho} (e : t d ρ = some ρ1) : loopL t b (d :: ds) ρ = turnS (b ρ1) (loopL t b ds) := by
  funext h
  unfold turnS
  simp only [loopL]
  rw [e] <;> (try simp only) <;> (cases b ρ1 h with
    | ok f _ _ => cases f <;> rfl
    | err _ _ _ _ => rfl
    | stuck => rfl)
@[simp] theorem x_loopN (i : Nat) (b : MS) (d : D) (ds : List D) (ρ : Rho) : loopL (tgN i) b (d :: ds) ρ = turnS (b (ρ.set i (.dat d))) (loopL (tgN i) b ds) := x_loop1 rfl
@[simp] theorem x_for (g : Rho → M D) (t : Tgt) (b : MS) (ρ : Rho) : sFor g t b ρ = bndS (g ρ) ρ fun d => orStuck (loopL t b) (itemsOf d) := rfl
@[simp] theorem x_forR (g : Rho → M (List D)) (t : Tgt) (b : MS) (ρ : Rho) : sForR g t b ρ = bndS (g ρ) ρ fun d => orStuck (loopL t b) (rangeOf d) := rfl
@[simp] theorem orStuck_some {α : Type} (k : α → MS) (a : α) : orStuck k (some a) = k a := rfl
@[simp] theorem items_list (ds : List D) : itemsOf (.list ds) = some ds := rfl
@[simp] theorem items_tuple (ds : List D) : itemsOf (.tuple ds) = some ds := rfl
/-! a def's end -/
def endB (o : HS → OutS) : M D := fun h =>
  match o h with
  | .ok (.rt d) _ h' => .ok d h'
  | .ok .nx _ h' => .ok .none h'
  | .err c d _ h' => .err c d h'
  | _ => .stuck
@[simp] theorem endB_rt (d : D) (ρ : Rho) : endB (okS (.rt d) ρ) = ret d := rfl
@[simp] theorem endB_nx (ρ : Rho) : endB (okS .nx ρ) = ret .none := rfl
@[simp] theorem endB_err (c : Nat) (d : D) (ρ : Rho) : endB (errS c d ρ) = fail c d := rfl
theorem endB_if {c : Prop} [Decidable c] (a b : HS → OutS) : endB (if c then a else b) = if c then endB a else endB b := by split <;> rfl
theorem runB_is {n k : Nat} {s : MS} {ds : List D} (l : ds.length = k) : runB n k s ds = endB (s (ds.map Sl.dat ++ List.replicate (n - k) .no)) := by
  funext h
  unfold runB endB
  rw [if_pos l] <;> (cases s (ds.map Sl.dat ++ List.replicate (n - k) .no) h with
    | ok f _ _ => cases f <;> rfl
    | err _ _ _ _ => rfl
    | stuck => rfl)
/-! expressions -/
@[simp] theorem x_cK (d : D) (ρ : Rho) : cK d ρ = ret d := rfl
@[simp] theorem x_b2 (f : D → D → Option D) (a b : Rho → M D) (ρ : Rho) : b2 f a b ρ = bnd (a ρ) fun x => bnd (b ρ) fun y => op2 f x y := rfl
@[simp] theorem x_aN (ρ : Rho) : aN ρ = ret [] := rfl
@[simp] theorem x_aC (g : Rho → M D) (gs : Rho → M (List D)) (ρ : Rho) : aC g gs ρ = bnd (g ρ) fun d => bnd (gs ρ) fun ds => ret (d :: ds) := rfl
@[simp] theorem x_cA (f : List D → Option D) (gs : Rho → M (List D)) (ρ : Rho) : cA f gs ρ = bnd (gs ρ) (opA f) := rfl
@[simp] theorem x_cM (m : List D → M D) (gs : Rho → M (List D)) (ρ : Rho) : cM m gs ρ = bnd (gs ρ) m := rfl
@[simp] theorem x_cI (Ts : List String) (g : Rho → M D) (ρ : Rho) : cI Ts g ρ = bnd (g ρ) (gIsi Ts) := rfl
@[simp] theorem x_tV (g : Rho → M D) (ρ : Rho) : tV g ρ = bnd (g ρ) asB := rfl
@[simp] theorem x_tNo (u : Rho → M Bool) (ρ : Rho) : tNo u ρ = bnd (u ρ) fun c => ret (!c) := rfl
@[simp] theorem x_tAn (u v : Rho → M Bool) (ρ : Rho) : tAn u v ρ = bnd (u ρ) fun c => if c = true then v ρ else ret false := rfl
@[simp] theorem x_tOr (u v : Rho → M Bool) (ρ : Rho) : tOr' u v ρ = bnd (u ρ) fun c => if c = true then ret true else v ρ := rfl
@[simp] theorem x_tYs (ρ : Rho) : tYs ρ = ret true := rfl
@[simp] theorem x_vAn (a b : Rho → M D) (ρ : Rho) : vAn a b ρ = bnd (a ρ) fun x => bnd (asB x) fun c => if c = true then b ρ else ret (.bool false) := rfl
@[simp] theorem x_vOr (a b : Rho → M D) (ρ : Rho) : vOr a b ρ = bnd (a ρ) fun x => bnd (asB x) fun c => if c = true then ret (.bool true) else b ρ := rfl
@[simp] theorem x_vNo (a : Rho → M D) (ρ : Rho) : vNo a ρ = bnd (a ρ) fun x => bnd (asB x) fun c => ret (.bool (!c)) := rfl
@[simp] theorem x_vNeg (a : Rho → M D) (ρ : Rho) : vNeg a ρ = bnd (a ρ) negD := rfl
@[simp] theorem negD_int (i : Int) : negD (.int i) = ret (.int (-i)) := rfl
@[simp] theorem asB_bool (b : Bool) : asB (.bool b) = ret b := rfl
@[simp] theorem x_sl (g : Rho → M D) (l h : Rho → M (Option Int)) (ρ : Rho) : sl g l h ρ = bnd (g ρ) fun d => bnd (l ρ) fun a => bnd (h ρ) fun b => sliceD d a b := rfl
@[simp] theorem x_oNo (ρ : Rho) : oNo ρ = ret none := rfl
@[simp] theorem x_oSo (g : Rho → M D) (ρ : Rho) : oSo g ρ = bnd (g ρ) asI := rfl
@[simp] theorem asI_int (i : Int) : asI (.int i) = ret (some i) := rfl
@[simp] theorem nerr_ret {α : Type} (a : α) : nerr (ret a) = ret a := rfl
@[simp] theorem bnd_if {α β : Type} {c : Prop} [Decidable c] (a b : M α) (f : α → M β) : bnd (if c then a else b) f = if c then bnd a f else bnd b f := by split <;> rfl
@[simp] theorem bndS_if {α : Type} {c : Prop} [Decidable c] (a b : M α) (ρ : Rho) (f : α → MS) : bndS (if c then a else b) ρ f = if c then bndS a ρ f else bndS b ρ f := by split <;> rfl
theorem gVar_is {i : Nat} {ρ : Rho} {d : D} (e : ρ[i]? = some (.dat d)) : gVar i ρ = ret d := by
  unfold gVar
  rw [e]
@[simp] theorem gVar0 (d : D) (ρ : Rho) : gVar 0 (.dat d :: ρ) = ret d := rfl
@[simp] theorem gVarS (i : Nat) (s : Sl) (ρ : Rho) : gVar (i + 1) (s :: ρ) = gVar i ρ := by
  unfold gVar
  simp
/-! operations -/
@[simp] theorem tok_int (i : Int) : isTok (.int i) = false := rfl
@[simp] theorem tok_str (i : Str) : isTok (.str i) = false := rfl
@[simp] theorem tok_bool (i : Bool) : isTok (.bool i) = false := rfl
@[simp] theorem tok_none : isTok .none = false := rfl
@[simp] theorem tok_tuple (i : List D) : isTok (.tuple i) = false := rfl
@[simp] theorem tok_list (i : List D) : isTok (.list i) = false := rfl
@[simp] theorem o_add (a b : Int) : op2 fAdd (.int a) (.int b) = ret (.int (a + b)) := rfl
@[simp] theorem o_sub (a b : Int) : op2 fSub (.int a) (.int b) = ret (.int (a - b)) := rfl
@[simp] theorem o_lt (a b : Int) : op2 fLt (.int a) (.int b) = ret (.bool (decide (a < b))) := rfl
@[simp] theorem o_le (a b : Int) : op2 fLe (.int a) (.int b) = ret (.bool (decide (a ≤ b))) := rfl
@[simp] theorem o_gt (a b : Int) : op2 fGt (.int a) (.int b) = ret (.bool (decide (b < a))) := rfl
@[simp] theorem o_ge (a b : Int) : op2 fGe (.int a) (.int b) = ret (.bool (decide (b ≤ a))) := rfl
theorem o_mul {a b : Int} (h : small64 a = true ∨ small64 b = true) : op2 fMul (.int a) (.int b) = ret (.int (a * b)) := by
  have e : (small64 a || small64 b || decide (a.natAbs.log2 + b.natAbs.log2 < 1000000)) = true := by
    rcases h with h | h <;> simp [h]
  show lift (if (small64 a || small64 b || decide (a.natAbs.log2 + b.natAbs.log2 < 1000000)) = true then some (PyData.int (a * b)) else none) = _
  rw [if_pos e]
  rfl
theorem o_div {a b : Int} (h : 0 < b) (h2 : b.natAbs.log2 < 9000) : op2 fDiv (.int a) (.int b) = ret (.int (a / b)) := by
  show lift (if (decide (0 < b) && decide (b.natAbs.log2 < 9000)) = true then some (PyData.int (a / b)) else none) = _
  rw [if_pos (by simp [h, h2])]
  rfl
theorem o_mod {a b : Int} (h : 0 < b) : op2 fMod (.int a) (.int b) = ret (.int (a % b)) := by
  show lift (if decide (b ≠ 0) = true then some (PyData.int (a.fmod b)) else none) = _
  rw [if_pos (by simp; omega), Int.fmod_eq_emod_of_nonneg a (by omega)]
  rfl
theorem o_eqI (a b : Int) : op2 fEq (.int a) (.int b) = ret (.bool (a == b)) := by
  show lift (if SeqAt.shaped (PyData.int a) = true ∧ SeqAt.shaped (PyData.int b) = true then some (PyData.bool (PyData.eqv (.int a) (.int b))) else none) = _
  have s : ∀ i : Int, SeqAt.shaped (PyData.int i) = true := fun i => by simp [SeqAt.shaped, PyData.canLay0, PyData.depth]
  rw [if_pos ⟨s a, s b⟩]
  rfl
@[simp] theorem o_eqS (a b : Str) : op2 fEq (.str a) (.str b) = ret (.bool (a == b)) := rfl
@[simp] theorem o_neS (a b : Str) : op2 fNe (.str a) (.str b) = ret (.bool (!(a == b))) := rfl
theorem o_neI (a b : Int) : op2 fNe (.int a) (.int b) = ret (.bool (!(a == b))) := by
  show lift (if SeqAt.shaped (PyData.int a) = true ∧ SeqAt.shaped (PyData.int b) = true then some (PyData.bool (!PyData.eqv (.int a) (.int b))) else none) = _
  have s : ∀ i : Int, SeqAt.shaped (PyData.int i) = true := fun i => by simp [SeqAt.shaped, PyData.canLay0, PyData.depth]
  rw [if_pos ⟨s a, s b⟩]
  rfl
@[simp] theorem o_int (i : Int) : opA fInt [.int i] = ret (.int i) := rfl
@[simp] theorem o_tupL (ds : List D) : opA fTuple [.list ds] = ret (.tuple ds) := rfl
@[simp] theorem o_tupT (ds : List D) : opA fTuple [.tuple ds] = ret (.tuple ds) := rfl
@[simp] theorem o_lstL (ds : List D) : opA fList [.list ds] = ret (.list ds) := rfl
@[simp] theorem o_lstT (ds : List D) : opA fList [.tuple ds] = ret (.list ds) := rfl
@[simp] theorem o_lenL (ds : List D) : opA fLen [.list ds] = ret (.int ds.length) := rfl
@[simp] theorem o_lenT (ds : List D) : opA fLen [.tuple ds] = ret (.int ds.length) := rfl
@[simp] theorem o_gcd (a b : Int) : opA fGcd [.int a, .int b] = ret (.int ((Nat.gcd a.natAbs b.natAbs : Nat) : Int)) := rfl
theorem o_mkT {ds : List D} (h : ds.any isTok = false) (l : ds.length ≤ 1000000) : opA mkTup ds = ret (.tuple ds) := by
  unfold opA mkTup
  rw [h, if_pos l]
  rfl
theorem o_mkL {ds : List D} (h : ds.any isTok = false) (l : ds.length ≤ 1000000) : opA mkLst ds = ret (.list ds) := by
  unfold opA mkLst
  rw [h, if_pos l]
  rfl
theorem o_ixT {ds : List D} {i : Int} {d : D} (e : atI ds i = some d) : op2 fIx (.tuple ds) (.int i) = ret d := by
  show lift (atI ds i) = _
  rw [e]
  rfl
theorem o_ixL {ds : List D} {i : Int} {d : D} (e : atI ds i = some d) : op2 fIx (.list ds) (.int i) = ret d := by
  show lift (atI ds i) = _
  rw [e]
  rfl
theorem i_of {Ts : List String} {d : D} {b : Bool} (t : isTok d = false) (e : isiAny Ts d = some b) : gIsi Ts d = ret (.bool b) := by
  unfold gIsi
  rw [t, e]
  rfl
section
open PyData
@[simp] theorem i_int_int (i : Int) : gIsi ["int"] (.int i) = ret (.bool true) := i_of rfl (by simp [isiAny, kindD, kit_ii])
@[simp] theorem i_int_bool (i : Bool) : gIsi ["int"] (.bool i) = ret (.bool true) := i_of rfl (by simp [isiAny, kindD, kit_bi])
@[simp] theorem i_int_none : gIsi ["int"] .none = ret (.bool false) := i_of rfl (by simp [isiAny, kindD, kit_ni])
@[simp] theorem i_int_str (x : Str) : gIsi ["int"] (.str x) = ret (.bool false) := i_of rfl (by simp [isiAny, kindD, kit_si])
@[simp] theorem i_int_list (x : List D) : gIsi ["int"] (.list x) = ret (.bool false) := i_of rfl (by simp [isiAny, kindD, kit_li])
@[simp] theorem i_int_tuple (x : List D) : gIsi ["int"] (.tuple x) = ret (.bool false) := i_of rfl (by simp [isiAny, kindD, kit_ti])
@[simp] theorem i_bool_int (i : Int) : gIsi ["bool"] (.int i) = ret (.bool false) := i_of rfl (by simp [isiAny, kindD, kit_ib])
@[simp] theorem i_bool_bool (i : Bool) : gIsi ["bool"] (.bool i) = ret (.bool true) := i_of rfl (by simp [isiAny, kindD, kit_bb])
@[simp] theorem i_bool_none : gIsi ["bool"] .none = ret (.bool false) := i_of rfl (by simp [isiAny, kindD, kit_nb])
@[simp] theorem i_tup_int (i : Int) : gIsi ["tuple"] (.int i) = ret (.bool false) := i_of rfl (by simp [isiAny, kindD, kit_it])
@[simp] theorem i_tup_bool (i : Bool) : gIsi ["tuple"] (.bool i) = ret (.bool false) := i_of rfl (by simp [isiAny, kindD, kit_bt])
@[simp] theorem i_tup_none : gIsi ["tuple"] .none = ret (.bool false) := i_of rfl (by simp [isiAny, kindD, kit_nt])
@[simp] theorem i_tup_str (x : Str) : gIsi ["tuple"] (.str x) = ret (.bool false) := i_of rfl (by simp [isiAny, kindD, kit_st])
@[simp] theorem i_tup_list (x : List D) : gIsi ["tuple"] (.list x) = ret (.bool false) := i_of rfl (by simp [isiAny, kindD, kit_lt])
@[simp] theorem i_tup_tuple (x : List D) : gIsi ["tuple"] (.tuple x) = ret (.bool true) := i_of rfl (by simp [isiAny, kindD, kit_tt])
@[simp] theorem i_str_str (x : Str) : gIsi ["str"] (.str x) = ret (.bool true) := i_of rfl (by simp [isiAny, kindD, kit_ss])
@[simp] theorem i_str_int (x : Int) : gIsi ["str"] (.int x) = ret (.bool false) := i_of rfl (by simp [isiAny, kindD, kit_is])
@[simp] theorem i_str_tuple (x : List D) : gIsi ["str"] (.tuple x) = ret (.bool false) := i_of rfl (by simp [isiAny, kindD, kit_ts])
@[simp] theorem i_str_none : gIsi ["str"] .none = ret (.bool false) := i_of rfl (by simp [isiAny, kindD, kit_ns])
end
theorem m_plain {n : Nat} {d : D} (h : okP n d = true) : mPlain n [d] = ret (plainD d) := by
  unfold mPlain
  simp [h]
end L2.AR
set_option Elab.async false
set_option linter.all false
set_option maxRecDepth 100000
set_option maxHeartbeats 4000000
/-! Fw15: data that may be told apart and shown. -/
namespace L2.AR
open PySem PySem.Spec PyProof.Rows
def jI (i : Int) : Bool := decide (i.natAbs < 2 ^ 200)
def jS (x : Str) : Bool := PyData.strOk x && decide (x.length ≤ 100)
/-- plain data at most n deep, its numbers and texts small -/
def J : Nat → D → Bool
  | _, .none => true
  | _, .bool _ => true
  | _, .int i => jI i
  | _, .str x => jS x
  | n + 1, .list ds => ds.all (J n)
  | n + 1, .tuple ds => ds.all (J n)
  | _, _ => false
mutual
/-- no less than the text's length -/
def sz : D → Nat
  | .str _ => 1020
  | .list ds => szA ds + 10
  | .tuple ds => szA ds + 10
  | _ => 220
def szA : List D → Nat
  | [] => 0
  | d :: ds => sz d + 2 + szA ds
end
theorem textFrom_is : ∀ (ts : List Str) (k : Nat) (acc : Str), (textFrom k acc ts).length ≤ acc.length + (ts.map fun t => t.length + 2).sum
  | [], k, acc => by simp [textFrom]
  | t :: r, k, acc => by
    have ih := textFrom_is r (k + 1) (acc ++ (if k > 0 then ", " else "" : String) ++ t)
    have e : (acc ++ (if k > 0 then ", " else "" : String) ++ t).length ≤ acc.length + 2 + t.length := by
      rw [strLen_append, strLen_append]
      have : ((if k > 0 then ", " else "" : String) : Str).length ≤ 2 := by split <;> decide
      omega
    show (textFrom (k + 1) _ r).length ≤ _
    rw [List.map_cons, List.sum_cons]
    omega
theorem listText_le (ts : List Str) : (listText ts).length ≤ piled ts + 10 := by
  unfold listText piled
  rw [strLen_append]
  have h := textFrom_is ts 0 "["
  have e1 : (("[" : String) : Str).length = 1 := rfl
  have e2 : (("]" : String) : Str).length = 1 := rfl
  rw [e1] at h
  rw [e2]
  omega
theorem tupleText_le (ts : List Str) : (tupleText ts).length ≤ piled ts + 10 := by
  unfold tupleText
  rw [strLen_append, strLen_append]
  have e1 : ((("(" : String) : Str)).length = 1 := rfl
  have e3 : (((if ts.length == 1 then ",)" else ")" : String) : Str)).length ≤ 2 := by split <;> decide
  by_cases h : ts = []
  · subst h
    decide
  · have := join_length_add ts h
    omega
structure JIs (n : Nat) (d : D) : Prop where
  lay : d.canLay0 = true
  dp : d.depth ≤ n
  sh : d.showable = true
  len : d.shown.length ≤ sz d
structure JAll (n : Nat) (ds : List D) : Prop where
  lay : PyData.canLayAll0 ds = true
  dp : PyData.depthAll ds ≤ n
  sh : PyData.showableAll ds = true
  len : piled (PyData.shownAll ds) ≤ szA ds
theorem j_is : ∀ (n : Nat) (d : D), J n d = true → JIs n d := by
  intro n
  induction n with
  | zero =>
    intro d h
    cases d with
    | none => exact ⟨by simp [PyData.canLay0], by simp [PyData.depth], by simp [PyData.showable], by simp only [PyData.shown, sz]; decide⟩
    | bool b => exact ⟨by simp [PyData.canLay0], by simp [PyData.depth], by simp [PyData.showable], by cases b <;> simp only [PyData.shown, sz] <;> decide⟩
    | int i =>
      have h1 : i.natAbs < 2 ^ 200 := by simpa [J, jI] using h
      have l : i.natAbs.log2 < 200 := by
        by_cases z : i.natAbs = 0
        · rw [z]; decide
        · exact (Nat.log2_lt z).mpr h1
      refine ⟨by simp [PyData.canLay0], by simp [PyData.depth], by simp only [PyData.showable, decide_eq_true_eq]; omega, ?_⟩
      simp only [PyData.shown, sz]
      have e := int_text_length_le (k := 200) (by decide) l
      rw [PySem.ofString_length]
      omega
    | str x =>
      have h1 : PyData.strOk x = true ∧ x.length ≤ 100 := by simpa [J, jS] using h
      refine ⟨by simpa [PyData.canLay0] using h1.1, by simp [PyData.depth], by simp [PyData.showable], ?_⟩
      simp only [PyData.shown, sz]
      have e := StrLaws.reprText_len x (fun c m => by
        have q := h1.1
        unfold PyData.strOk at q
        rw [← Array.all_toList, List.all_eq_true] at q
        have := q c m
        simp at this
        omega)
      omega
    | list ds => simp [J] at h
    | tuple ds => simp [J] at h
    | dict kvs => simp [J] at h
  | succ n ih =>
    have all : ∀ ds : List D, ds.all (J n) = true → JAll n ds := by
      intro ds
      induction ds with
      | nil => exact fun _ => ⟨by simp [PyData.canLayAll0], by simp [PyData.depthAll], by simp [PyData.showableAll], by simp [PyData.shownAll, szA, piled]⟩
      | cons d ds ihd =>
        intro h
        rw [List.all_cons, Bool.and_eq_true] at h
        have a := ih d h.1
        have b := ihd h.2
        refine ⟨by simp [PyData.canLayAll0, a.lay, b.lay], ?_, by simp [PyData.showableAll, a.sh, b.sh], ?_⟩
        · have := a.dp
          have := b.dp
          simp only [PyData.depthAll]
          omega
        · have := a.len
          have := b.len
          simp only [PyData.shownAll, szA, piled_cons]
          omega
    intro d h
    cases d with
    | none => exact ⟨by simp [PyData.canLay0], by simp [PyData.depth], by simp [PyData.showable], by simp only [PyData.shown, sz]; decide⟩
    | bool b => exact ⟨by simp [PyData.canLay0], by simp [PyData.depth], by simp [PyData.showable], by cases b <;> simp only [PyData.shown, sz] <;> decide⟩
    | int i =>
      have h1 : i.natAbs < 2 ^ 200 := by simpa [J, jI] using h
      have l : i.natAbs.log2 < 200 := by
        by_cases z : i.natAbs = 0
        · rw [z]; decide
        · exact (Nat.log2_lt z).mpr h1
      refine ⟨by simp [PyData.canLay0], by simp [PyData.depth], by simp only [PyData.showable, decide_eq_true_eq]; omega, ?_⟩
      simp only [PyData.shown, sz]
      have e := int_text_length_le (k := 200) (by decide) l
      rw [PySem.ofString_length]
      omega
    | str x =>
      have h1 : PyData.strOk x = true ∧ x.length ≤ 100 := by simpa [J, jS] using h
      refine ⟨by simpa [PyData.canLay0] using h1.1, by simp [PyData.depth], by simp [PyData.showable], ?_⟩
      simp only [PyData.shown, sz]
      have e := StrLaws.reprText_len x (fun c m => by
        have q := h1.1
        unfold PyData.strOk at q
        rw [← Array.all_toList, List.all_eq_true] at q
        have := q c m
        simp at this
        omega)
      omega
    | list ds =>
      have a := all ds (by simpa [J] using h)
      refine ⟨by simpa [PyData.canLay0] using a.lay, ?_, by simpa [PyData.showable] using a.sh, ?_⟩
      · have := a.dp
        simp only [PyData.depth]
        omega
      · have := a.len
        have := listText_le (PyData.shownAll ds)
        simp only [PyData.shown, sz]
        omega
    | tuple ds =>
      have a := all ds (by simpa [J] using h)
      refine ⟨by simpa [PyData.canLay0] using a.lay, ?_, by simpa [PyData.showable] using a.sh, ?_⟩
      · have := a.dp
        simp only [PyData.depth]
        omega
      · have := a.len
        have := tupleText_le (PyData.shownAll ds)
        simp only [PyData.shown, sz]
        omega
    | dict kvs => simp [J] at h
theorem j_tok {n : Nat} {d : D} (h : J n d = true) : isTok d = false := by
  cases d with
  | dict kvs => cases n <;> simp [J] at h
  | _ => rfl
theorem j_shaped {n : Nat} {d : D} (h : J n d = true) (hn : n ≤ 40) : SeqAt.shaped d = true := by
  have a := j_is n d h
  unfold SeqAt.shaped
  rw [a.lay]
  have := a.dp
  simp
  omega
theorem j_eq {n : Nat} {d e : D} (h : J n d = true) (h' : J n e = true) (hn : n ≤ 40) : op2 fEq d e = ret (.bool (PyData.eqv d e)) := by
  have key : fEq d e = some (.bool (PyData.eqv d e)) := by
    unfold fEq fst2
    have eD : fEqD d e = some (.bool (PyData.eqv d e)) := by
      unfold fEqD
      rw [if_pos ⟨j_shaped h hn, j_shaped h' hn⟩]
    cases d <;> cases e <;> first | exact eD | (simp only [fEqS, Option.orElse, PyData.eqv])
  unfold op2
  rw [j_tok h, j_tok h', key]
  rfl
theorem j_ne {n : Nat} {d e : D} (h : J n d = true) (h' : J n e = true) (hn : n ≤ 40) : op2 fNe d e = ret (.bool (!PyData.eqv d e)) := by
  have key : fNe d e = some (.bool (!PyData.eqv d e)) := by
    unfold fNe fst2
    have eD : fNeD d e = some (.bool (!PyData.eqv d e)) := by
      unfold fNeD
      rw [if_pos ⟨j_shaped h hn, j_shaped h' hn⟩]
    cases d <;> cases e <;> first | exact eD | (simp only [fNeS, Option.orElse, PyData.eqv])
  unfold op2
  rw [j_tok h, j_tok h', key]
  rfl
theorem j_self {n : Nat} {d : D} (h : J n d = true) : PyData.eqv d d = true := SeqAt.eqv_refl d (j_is n d h).lay
theorem j_repr {n : Nat} {d : D} (h : J n d = true) (hn : n ≤ 40) (hz : sz d ≤ 16777216) : opA fRepr [d] = ret (.str d.shown) := by
  have a := j_is n d h
  have s : shows d = true := by
    unfold shows
    have := a.dp
    have := a.len
    rw [j_tok h, a.sh, PyData.hasDict_of_canLay d a.lay]
    simp
    omega
  have key : fRepr [d] = some (.str d.shown) := if_pos s
  unfold opA
  rw [key]
  simp [j_tok h]
end L2.AR
set_option Elab.async false
set_option linter.all false
set_option maxRecDepth 100000
set_option maxHeartbeats 4000000
/-! Fw16: reckoning: try, the caught error, comprehensions, drawing. -/
namespace L2.AR
open PySem PySem.Spec PyProof.Rows
def tryS (n : Nat) (hs : List Hnd) (o : HS → OutS) : HS → OutS := fun h =>
  match o h with
  | .err c d ρ' h' => if c < n ∧ ρ'.any isExc = false then clean (tryH hs c d ρ' h') else .stuck
  | o => o
def clS (o : HS → OutS) : HS → OutS := fun h => clean (o h)
def huS (o : HS → OutS) : HS → OutS := fun h => hush (o h)
def unS (i : Nat) (o : HS → OutS) : HS → OutS := fun h => unR i (o h)
@[simp] theorem x_try (n : Nat) (b : MS) (hs : List Hnd) (ρ : Rho) : sTry n b hs ρ = tryS n hs (b ρ) := rfl
@[simp] theorem try_ok (n : Nat) (hs : List Hnd) (f : Fl) (ρ : Rho) : tryS n hs (okS f ρ) = okS f ρ := rfl
@[simp] theorem try_err (n : Nat) (hs : List Hnd) (c : Nat) (d : D) (ρ : Rho) : tryS n hs (errS c d ρ) = if c < n ∧ ρ.any isExc = false then clS (tryH hs c d ρ) else stkS := by
  funext h
  show (if c < n ∧ ρ.any isExc = false then clean (tryH hs c d ρ h) else .stuck) = _
  split <;> rfl
@[simp] theorem clS_ok (f : Fl) (ρ : Rho) : clS (okS f ρ) = if ρ.any isExc = false then okS f ρ else stkS := by
  funext h
  show (if ρ.any isExc = false then OutS.ok f ρ h else .stuck) = _
  split <;> rfl
@[simp] theorem huS_ok (f : Fl) (ρ : Rho) : huS (okS f ρ) = okS f ρ := rfl
@[simp] theorem unS_ok (i : Nat) (f : Fl) (ρ : Rho) : unS i (okS f ρ) = okS f (ρ.set i .no) := rfl
@[simp] theorem tryH_some (t : Nat → Bool) (i : Nat) (s : MS) (r : List Hnd) (c : Nat) (d : D) (ρ : Rho) : tryH (⟨t, some i, s⟩ :: r) c d ρ = if t c = true then unS i (huS (s (ρ.set i (.exc c d)))) else tryH r c d ρ := by
  funext h
  simp only [tryH]
  split <;> rfl
@[simp] theorem tryH_none (t : Nat → Bool) (s : MS) (r : List Hnd) (c : Nat) (d : D) (ρ : Rho) : tryH (⟨t, none, s⟩ :: r) c d ρ = if t c = true then huS (s ρ) else tryH r c d ρ := by
  funext h
  simp only [tryH]
  split <;> rfl
@[simp] theorem exc_dat (d : D) : isExc (.dat d) = false := rfl
@[simp] theorem exc_no : isExc .no = false := rfl
@[simp] theorem exc_own (l : List D) : isExc (.own l) = false := rfl
@[simp] theorem gExc0 (cs : List Nat) (f : Nat → D → M D) (c : Nat) (d : D) (ρ : Rho) : gExc cs f 0 (.exc c d :: ρ) = if cs.contains c = true then f c d else stk := rfl
@[simp] theorem gExcS (cs : List Nat) (f : Nat → D → M D) (i : Nat) (s : Sl) (ρ : Rho) : gExc cs f (i + 1) (s :: ρ) = gExc cs f i ρ := by
  unfold gExc
  simp
@[simp] theorem x_comp (vs : List Nat) (gi : Rho → M D) (t : Tgt) (c : Rho → M Bool) (g : Rho → M D) (ρ : Rho) : gComp vs gi t c g ρ = bnd (gi ρ) fun d => orStk (fun ds => comp1 t c g (wipeR ρ vs) ds []) (itemsOf d) := rfl
@[simp] theorem orStk_some {α β : Type} (k : α → M β) (a : α) : orStk k (some a) = k a := rfl
@[simp] theorem comp_nil (t : Tgt) (c : Rho → M Bool) (g : Rho → M D) (ρ : Rho) (acc : List D) : comp1 t c g ρ [] acc = ret (.list acc) := rfl
@[simp] theorem comp_cons (i : Nat) (g : Rho → M D) (ρ : Rho) (d : D) (ds acc : List D) : comp1 (tgN i) tYs g ρ (d :: ds) acc = bnd (nerr (g (ρ.set i (.dat d)))) fun y => if isTok y = false ∧ acc.length < 1000000 then comp1 (tgN i) tYs g ρ ds (acc ++ [y]) else stk := rfl
@[simp] theorem o_addL (a b : List D) : op2 fAdd (.list a) (.list b) = if a.length + b.length ≤ 1000000 then ret (.list (a ++ b)) else stk := by
  show lift (if a.length + b.length ≤ 1000000 then some (PyData.list (a ++ b)) else none) = _
  split <;> rfl
/-! drawing -/
theorem draw_is (n : Int) (h0 : 0 < n) (h : HS) : ∃ r h', mDraw [tok, .int n] h = .ok (.int r) h' ∧ 0 ≤ r ∧ r < n := by
  have e : mDraw [tok, .int n] h = if n = 0 then .stuck else .ok (.int (if h.row.length ≤ h.pos then 0 else (h.row.getD h.pos 0).fmod n)) ⟨h.row, h.pos + 1⟩ := rfl
  rw [if_neg (by omega)] at e
  refine ⟨_, _, e, ?_, ?_⟩
  · split
    · omega
    · rw [Int.fmod_eq_emod_of_nonneg _ (by omega)]
      exact Int.emod_nonneg _ (by omega)
  · split
    · omega
    · rw [Int.fmod_eq_emod_of_nonneg _ (by omega)]
      exact Int.emod_lt_of_pos _ h0
theorem bnd_at {α β : Type} {x : M α} {f : α → M β} {h h' : HS} {a : α} (e : x h = .ok a h') : bnd x f h = f a h' := by
  unfold bnd
  rw [e]
theorem bndS_at {α : Type} {x : M α} {ρ : Rho} {k : α → MS} {h h' : HS} {a : α} (e : x h = .ok a h') : bndS x ρ k h = k a ρ h' := by
  unfold bndS
  rw [e]
theorem seqS_at {o : HS → OutS} {t : MS} {h h' : HS} {ρ : Rho} (e : o h = .ok .nx ρ h') : seqS o t h = t ρ h' := by
  unfold seqS
  rw [e]
end L2.AR
set_option Elab.async false
set_option linter.all false
set_option maxRecDepth 100000
set_option maxHeartbeats 4000000
/-! Fw17: a dict of whole numbers that a def makes and fills, its own. -/
namespace L2.AR
open PySem PySem.Spec PyProof.Rows
def getE (es : List (Int × D)) (k : Int) : Option D := (es.find? fun e => decide (e.1 = k)).map (·.2)
def putE (es : List (Int × D)) (k : Int) (d : D) : List (Int × D) :=
  if (es.any fun e => decide (e.1 = k)) = true then es.map (fun e => if e.1 = k then (e.1, d) else e) else es ++ [(k, d)]
section
variable {K : PySem.W.Frag} {F : Hp} {kvs : List (Key × V)} {es : List (Int × D)}
theorem inl_dec (a b : Int) : decide ((Sum.inl a : Key) = .inl b) = decide (a = b) := by
  by_cases h : a = b <;> simp [h]
theorem KvR.get (h : KvR K F kvs es) (k : Int) : match getE es k with
    | some d => ∃ v, valV kvs (.inl k) = some v ∧ Dq K F v d
    | none => valV kvs (.inl k) = none := by
  induction h with
  | nil => rfl
  | cons r rr ih =>
    rename_i k' v d kr er
    by_cases e : k' = k
    · subst e
      have e1 : getE ((k', d) :: er) k' = some d := by simp [getE]
      rw [e1]
      exact ⟨v, valV_pos rfl, r⟩
    · have e1 : getE ((k', d) :: er) k = getE er k := by simp [getE, List.find?_cons, e]
      have e2 : valV ((.inl k', v) :: kr) (.inl k) = valV kr (.inl k) := valV_neg (fun z => e (Sum.inl.inj z))
      rw [e1, e2]
      exact ih
theorem KvR.len (h : KvR K F kvs es) : kvs.length = es.length := by
  induction h with
  | nil => rfl
  | cons _ _ ih => simp [ih]
theorem KvR.any (h : KvR K F kvs es) (k : Int) : (kvs.any fun kv => decide (kv.1 = .inl k)) = es.any fun e => decide (e.1 = k) := by
  induction h with
  | nil => rfl
  | cons _ _ ih => rw [List.any_cons, List.any_cons, ih, inl_dec]
theorem KvR.map (h : KvR K F kvs es) (k : Int) {v : V} {d : D} (r : Dq K F v d) : KvR K F (kvs.map fun kv => if kv.1 = .inl k then (kv.1, v) else kv) (es.map fun e => if e.1 = k then (e.1, d) else e) := by
  induction h with
  | nil => exact .nil
  | cons r1 _ ih =>
    rename_i k' v' d' kr er _
    rw [List.map_cons, List.map_cons]
    by_cases e : k' = k
    · subst e
      rw [if_pos rfl, if_pos rfl]
      exact .cons r ih
    · rw [if_neg (fun z => e (Sum.inl.inj z)), if_neg e]
      exact .cons r1 ih
theorem KvR.snoc (h : KvR K F kvs es) (k : Int) {v : V} {d : D} (r : Dq K F v d) : KvR K F (kvs ++ [(.inl k, v)]) (es ++ [(k, d)]) := by
  induction h with
  | nil => exact .cons r .nil
  | cons r1 _ ih => exact .cons r1 ih
theorem KvR.put (h : KvR K F kvs es) (k : Int) {v : V} {d : D} (r : Dq K F v d) : KvR K F (putK kvs (.inl k) v) (putE es k d) := by
  unfold putK putE
  rw [h.any]
  split
  · exact h.map k r
  · exact h.snoc k r
theorem KvR.keys (h : KvR K F kvs es) : kvs.map (·.1) = (es.map (·.1)).map Sum.inl := by
  induction h with
  | nil => rfl
  | cons _ _ ih => simp [ih]
end
/-! what the statements and expressions say -/
def sNewD (i : Nat) : MS := fun ρ h => .ok .nx (ρ.set i (.owd [])) h
def sPutD (i : Nat) (gk gv : Rho → M D) : MS := sExp gv fun d ρ h =>
  match ρ[i]? with
  | some (.owd es) => sExp gk (fun k ρ h => match k with
    | .int n => if isTok d = false ∧ es.length < 1000000 then .ok .nx (ρ.set i (.owd (putE es n d))) h else .stuck
    | _ => .stuck) ρ h
  | _ => .stuck
def gInD (neg : Bool) (i : Nat) (gk : Rho → M D) : Rho → M D := fun ρ => bnd (gk ρ) fun k =>
  match ρ[i]?, k with
  | some (.owd es), .int n => ret (.bool (if neg then !(getE es n).isSome else (getE es n).isSome))
  | _, _ => stk
def gGetD (i : Nat) (gk : Rho → M D) : Rho → M D := fun ρ =>
  match ρ[i]? with
  | some (.owd es) => bnd (gk ρ) fun k => (match k with
    | .int n => (match getE es n with
      | some d => ret d
      | none => stk)
    | _ => stk)
  | _ => stk
def insI (x : Int) : List Int → List Int
  | [] => [x]
  | y :: r => if x ≤ y then x :: y :: r else y :: insI x r
def sortI : List Int → List Int
  | [] => []
  | x :: r => insI x (sortI r)
theorem insI_perm (x : Int) : ∀ l : List Int, (insI x l).Perm (x :: l)
  | [] => .refl _
  | y :: r => by
    unfold insI
    split
    · exact .refl _
    · exact ((insI_perm x r).cons y).trans (.swap x y r)
theorem sortI_perm : ∀ l : List Int, (sortI l).Perm l
  | [] => .refl _
  | x :: r => (insI_perm x _).trans ((sortI_perm r).cons x)
theorem insI_srt (x : Int) : ∀ l : List Int, l.Pairwise (· ≤ ·) → (insI x l).Pairwise (· ≤ ·)
  | [], _ => by simp [insI]
  | y :: r, h => by
    unfold insI
    split
    · rename_i c
      refine List.pairwise_cons.mpr ⟨fun z hz => ?_, h⟩
      rcases List.mem_cons.mp hz with rfl | hz
      · exact c
      · have := (List.pairwise_cons.mp h).1 z hz
        omega
    · rename_i c
      refine List.pairwise_cons.mpr ⟨fun z hz => ?_, insI_srt x r (List.pairwise_cons.mp h).2⟩
      rcases List.mem_cons.mp ((insI_perm x r).mem_iff.mp hz) with rfl | hz
      · omega
      · exact (List.pairwise_cons.mp h).1 z hz
theorem sortI_srt : ∀ l : List Int, (sortI l).Pairwise (· ≤ ·)
  | [] => .nil
  | x :: r => insI_srt x _ (sortI_srt r)
theorem srt_unique : ∀ {a b : List Int}, a.Perm b → a.Pairwise (· ≤ ·) → b.Pairwise (· ≤ ·) → a = b
  | [], b, p, _, _ => by rw [List.nil_perm.mp p]
  | x :: r, [], p, _, _ => by cases List.perm_nil.mp p
  | x :: r, y :: s, p, ha, hb => by
    have h1 : x ≤ y := by
      rcases List.mem_cons.mp (p.mem_iff.mpr (List.mem_cons_self (a := y))) with e | m
      · omega
      · exact (List.pairwise_cons.mp ha).1 y m
    have h2 : y ≤ x := by
      rcases List.mem_cons.mp (p.mem_iff.mp (List.mem_cons_self (a := x))) with e | m
      · omega
      · exact (List.pairwise_cons.mp hb).1 x m
    have e : x = y := by omega
    subst e
    rw [srt_unique (List.Perm.cons_inv p) (List.pairwise_cons.mp ha).2 (List.pairwise_cons.mp hb).2]
def gSortD (i : Nat) : Rho → M D := fun ρ =>
  match ρ[i]? with
  | some (.owd es) => if es.length < 64 then ret (.list ((sortI (es.map (·.1))).map .int)) else stk
  | _ => stk
/-! what keeps the relation -/
section
variable {G : Gh} {F H : Hp} {hs : HS} {ρ : Rho} {σ : St}
theorem Rel.freshD (R : Rel G F H hs ρ σ) {p : Addr} (np : H p = none) (i : Nat) : Rel G F (upd H p (.dK [])) hs (ρ.set i (.owd [])) (σ.set i (some (.ref p))) := by
  have R' := R.pstep (PStep.garb R.sub np (o := .dK []))
  have fp : F p = none := R.sub.free np
  have hp : G.ha ≠ some p := fun e => by
    obtain ⟨_, r, _, h2, _⟩ := R.hand p e
    rw [np] at h2; cases h2
  have h0 : G.H0 p = none := by
    cases q : G.H0 p with
    | none => rfl
    | some o =>
      have := R.base p o q hp
      rw [np] at this; cases this
  refine ⟨R'.sub, R'.hand, R'.base, R'.f0, R'.new0, by simpa using R.len, fun j s e => ?_, fun j k x y a hjk e1 e2 o1 o2 e3 => ?_⟩
  · rw [List.getElem?_set] at e ⊢
    by_cases hij : i = j
    · subst hij
      rw [if_pos rfl] at e ⊢
      split at e
      · rename_i hl
        cases e
        rw [if_pos (by rw [R.len]; exact hl)]
        exact ⟨p, [], rfl, upd_same, fp, h0, hp, .nil⟩
      · cases e
    · rw [if_neg hij] at e ⊢
      exact R'.slots j s e
  · have old : ∀ (j : Nat) (x : Sl) (a : Addr), ρ[j]? = some x → isOwn x = true → σ[j]? = some (some (.ref a)) → a ≠ p := by
      rintro j x a e o e' rfl
      obtain ⟨b, vs, eb, hb, _⟩ := (R.slots j _ e).at o
      rw [e'] at eb
      cases eb
      rw [np] at hb; cases hb
    rw [List.getElem?_set] at e1 e2 e3 ⊢
    by_cases hj : i = j
    · rw [if_pos hj] at e1 e3
      have hk : ¬ i = k := fun z => hjk (hj.symm.trans z)
      rw [if_neg hk] at e2 ⊢
      split at e3
      · cases e3
        exact fun z => old k y p e2 o2 z rfl
      · cases e3
    · rw [if_neg hj] at e1 e3
      by_cases hk : i = k
      · rw [if_pos hk] at e2 ⊢
        split
        · intro z
          cases z
          exact old j x _ e1 o1 e3 rfl
        · intro z; cases z
      · rw [if_neg hk] at e2 ⊢
        exact R.apart j k x y a hjk e1 e2 o1 o2 e3
/-- an own dict gets an entry -/
theorem Rel.putD (R : Rel G F H hs ρ σ) {i : Nat} {a : Addr} {xs : List (Int × D)} {kvs : List (Key × V)} {v : V} {d : D} {n : Int} (e : ρ[i]? = some (.owd xs)) (es : σ[i]? = some (some (.ref a))) (ha : H a = some (.dK kvs)) (r : Dq G.K F v d) :
    Rel G F (upd H a (.dK (putK kvs (.inl n) v))) hs (ρ.set i (.owd (putE xs n d))) σ := by
  obtain ⟨b, ws, eb, h1, h2, h3, h4, h5⟩ := R.slots i _ e
  rw [es] at eb
  cases eb
  rw [ha] at h1
  cases h1
  have ne : ∀ {b : Addr} {o : HO}, F b = some o → b ≠ a := fun z => ne_of_none z h2
  refine ⟨fun b o z => by rw [upd_ne (ne z)]; exact R.sub b o z, fun b z => ?_, fun b o z n => ?_, R.f0, R.new0, by simpa using R.len, fun j s z => ?_, fun j k x y c hjk z1 z2 o1 o2 z3 => ?_⟩
  · obtain ⟨q1, q, q2, q3, q4⟩ := R.hand b z
    have hb : b ≠ a := fun w => h4 (by rw [z, w])
    exact ⟨q1, q, q2, by rw [upd_ne hb]; exact q3, q4⟩
  · rw [upd_ne (ne_of_none z h3)]
    exact R.base b o z n
  · rw [List.getElem?_set] at z
    by_cases hij : i = j
    · subst hij
      rw [if_pos rfl] at z
      split at z
      · cases z
        exact ⟨a, _, es, upd_same, h2, h3, h4, h5.put n r⟩
      · cases z
    · rw [if_neg hij] at z
      have q := R.slots j s z
      cases s with
      | no => trivial
      | dat x => exact q
      | own xs =>
        obtain ⟨c, us, ec, g1, g2, g3, g4, g5⟩ := q
        have hc : c ≠ a := fun w => R.apart i j _ _ a hij e z rfl rfl es (by rw [ec, w])
        exact ⟨c, us, ec, by rw [upd_ne hc]; exact g1, g2, g3, g4, g5⟩
      | owd xs =>
        obtain ⟨c, us, ec, g1, g2, g3, g4, g5⟩ := q
        have hc : c ≠ a := fun w => R.apart i j _ _ a hij e z rfl rfl es (by rw [ec, w])
        exact ⟨c, us, ec, by rw [upd_ne hc]; exact g1, g2, g3, g4, g5⟩
      | exc x y =>
        obtain ⟨g1, g2, dx, u, g0, g3, g4, g5⟩ := q
        have hc : dx ≠ a := fun w => by rw [w, ha] at g3; cases g3
        exact ⟨g1, g2, dx, u, g0, by rw [upd_ne hc]; exact g3, g4, g5⟩
  · rw [List.getElem?_set] at z1 z2
    by_cases hj : i = j
    · subst hj
      rw [if_pos rfl] at z1
      rw [if_neg hjk] at z2
      exact R.apart i k _ y c hjk e z2 rfl o2 z3
    · rw [if_neg hj] at z1
      by_cases hk : i = k
      · subst hk
        intro w
        exact R.apart i j _ x c (fun q => hj q) e z1 rfl o1 w z3
      · rw [if_neg hk] at z2
        exact R.apart j k x y c hjk z1 z2 o1 o2 z3
end
end L2.AR
set_option Elab.async false
set_option linter.all false
set_option maxRecDepth 100000
set_option maxHeartbeats 4000000
/-! Fw18: rules for own dicts. -/
namespace L2.AR
open PySem PySem.Spec PyProof.Rows
section
variable {X : Cx} {G : Gh} {pos : Pos}
theorem p_newD (i : Nat) {x : Str} {pos' pos2 : Pos} (hN : X.N.Nodup) (hi : X.N[i]? = some x := by rfl) (hx : Loc X.env.scope x := by first | exact Or.inl rfl | exact Or.inr rfl)
    (hs : swapsWith (.Dict [] [] pos2) (some (.Name x pos')) pos.line X.env = pure false := by rfl) (hf : X.fn x = true ∨ X.env.scope.names.lookup x = some .local := by first | exact .inl rfl | exact .inr rfl | assumption) :
    PS X (.Assign [.Name x pos'] (.Dict [] [] pos2) pos) (tS G (sNewD i)) := by
  refine psI (ps_set hN hi hx pe_dnewK hs hf) ?_
  rintro E σ H ⟨F, hs, ρ, R, p⟩
  exact fun a na => p F _ _ (Same.refl F) (R.freshD na i)
theorem int_val {K : PySem.W.Frag} {F : Hp} {ha : Option Addr} {v : V} {n : Int} (r : Rp K F ha v (.int n)) : v = .int n := by
  cases r.dp rfl
  rfl
theorem p_putD (i : Nat) {o k e : Expr} {gk gv : Rho → M D} {pos' : Pos} (hu : X.A.units + 1 < cLine) (ho : PE X o (tVar i)) (hk : PE X k (tE G gk)) (hv : PE X e (tE G gv)) (hs : swapsWith e (some (.Subscript o k pos')) pos.line X.env = pure false := by rfl) :
    PS X (.Assign [.Subscript o k pos'] e pos) (tS G (sPutD i gk gv)) := by
  refine psI (ps_dput hu ho hk hv hs) fun E σ H q => ?_
  refine (exp_then (rel := relE G) q).mono ?_
  rintro v H1 ⟨F, hs, ρ, d, R, r, p⟩
  cases e : ρ[i]? with
  | none => rw [e] at p; exact p.elim
  | some s =>
    cases s with
    | owd es =>
      rw [e] at p
      obtain ⟨a, kvs, ea, h1, h2, h3, h4, h5⟩ := R.slots i _ e
      refine ⟨.ref a, ea, ?_⟩
      simp only at p
      unfold sExp at p
      refine ⟨F, hs, ρ, R, ?_⟩
      cases z : gk ρ hs with
      | ok y hs' =>
        rw [z] at p
        intro F' H' u s hh ru
        have R' := R.step s hh
        cases y with
        | int n =>
          simp only at p
          by_cases c : isTok d = false ∧ es.length < 1000000
          · rw [if_pos c] at p
            obtain ⟨a', kvs', ea', g1, g2, g3, g4, g5⟩ := R'.slots i _ e
            rw [ea] at ea'
            cases ea'
            cases int_val ru
            refine ⟨a, _, rfl, DPut.k (k := .inl n) g1 (by rw [g5.len]; exact line_of (Nat.le_of_lt c.2)), ?_⟩
            exact p _ _ _ s.ff (R'.putD e ea g1 ((r.same s.ff).dp c.1))
          · rw [if_neg c] at p
            exact p.elim
        | _ => exact p.elim
      | err c x hs' =>
        rw [z] at p
        exact fun F' H' dx u s h hx hn dp => p F' H' σ dx u s.ff (R.step s h) hx hn dp
      | stuck => rw [z] at p; exact p.elim
    | _ => rw [e] at p; exact p.elim
theorem inD_imp {neg : Bool} {i : Nat} {gk : Rho → M D} {σ : St} {H : Hp} {Q : VK} (h : tE G (gInD neg i gk) σ H Q) :
    tE G gk σ H fun y H1 => tVar i σ H1 fun x H2 => ∃ a o, x = .ref a ∧ DGet H2 a y o ∧ Q (.bl (if neg then !o.isSome else o.isSome)) H2 := by
  obtain ⟨F, hs, ρ, R, p⟩ := h
  refine (rd_bind (rel := relE G) R p).mono ?_
  rintro v H1 ⟨F1, hs1, k, R1, s1, r1, p1⟩
  cases e : ρ[i]? with
  | none => rw [e] at p1; exact p1.elim
  | some s =>
    cases s with
    | owd es =>
      rw [e] at p1
      cases k with
      | int n =>
        simp only at p1
        obtain ⟨a, kvs, ea, h1, h2, h3, h4, h5⟩ := R1.slots i _ e
        cases int_val r1
        refine ⟨.ref a, ea, a, _, rfl, DGet.k (k := .inl n) h1, ?_⟩
        have g := h5.get n
        cases w : getE es n with
        | none =>
          rw [w] at g p1
          rw [g]
          exact post_ret R1 p1 (.inl (.bl _))
        | some d =>
          rw [w] at g p1
          obtain ⟨u, eu, _⟩ := g
          rw [eu]
          exact post_ret R1 p1 (.inl (.bl _))
      | _ => exact p1.elim
    | _ => rw [e] at p1; exact p1.elim
theorem T_inD {i : Nat} {k o : Expr} {gk : Rho → M D} (hu : X.A.units + 1 < cLine) (hk : PE X k (tE G gk)) (ho : PE X o (tVar i)) (hm : behindInMarks .In o = false := by first | exact nomark _ | rfl) : PT X (.Compare k [.In] [o] pos) (tT G (tV (gInD false i gk))) :=
  ptI (pt_cmp (pc_din hu hk ho) hm) fun σ H Q h => inD_imp (tV_imp h)
theorem T_ninD {i : Nat} {k o : Expr} {gk : Rho → M D} (hu : X.A.units + 1 < cLine) (hk : PE X k (tE G gk)) (ho : PE X o (tVar i)) (hm : behindInMarks .NotIn o = false := by first | exact nomark _ | rfl) : PT X (.Compare k [.NotIn] [o] pos) (tT G (tV (gInD true i gk))) :=
  ptI (pt_cmp (pc_dnotin hu hk ho) hm) fun σ H Q h => inD_imp (tV_imp h)
theorem e_getD {i : Nat} {k o : Expr} {gk : Rho → M D} (hu : X.A.units + 1 < cLine) (ho : PE X o (tVar i)) (hk : PE X k (tE G gk)) (hs : NoSl k := by intro _ _; rfl) : PE X (.Subscript o k pos) (tE G (gGetD i gk)) := by
  refine peI (pe_dget hu ho hk hs) ?_
  rintro σ H Q ⟨F, hs, ρ, R, p⟩
  unfold gGetD at p
  cases e : ρ[i]? with
  | none => rw [e] at p; exact p.elim
  | some s =>
    cases s with
    | owd es =>
      rw [e] at p
      simp only at p
      obtain ⟨a, kvs, ea, h1, h2, h3, h4, h5⟩ := R.slots i _ e
      refine ⟨.ref a, ea, ?_⟩
      refine (rd_bind (rel := relE G) R p).mono ?_
      rintro v H1 ⟨F1, hs1, y, R1, s1, r1, p1⟩
      cases y with
      | int n =>
        simp only at p1
        obtain ⟨a', kvs', ea', g1, g2, g3, g4, g5⟩ := R1.slots i _ e
        rw [ea] at ea'
        cases ea'
        cases int_val r1
        have g := g5.get n
        cases w : getE es n with
        | none => rw [w] at p1; exact p1.elim
        | some d =>
          rw [w] at g p1
          obtain ⟨u, eu, ru⟩ := g
          refine ⟨a, u, rfl, ?_, post_ret R1 p1 (.inl ru)⟩
          rw [← eu]
          exact DGet.k (k := .inl n) g1
      | _ => exact p1.elim
    | _ => rw [e] at p; exact p.elim
def rSortD : List V → Hp → VK → Prop := fun xs H Q => ∃ (a : Addr) (kvs : List (Key × V)) (ks : List Int), xs = [.ref a] ∧ Rd H a (.dK kvs) ∧ kvs.map (·.1) = ks.map Sum.inl ∧ ks.length < 64 ∧
    ∀ (ys : List Int) (p : Addr), ys.Perm ks → ys.Pairwise (· ≤ ·) → H p = none → Q (.ref p) (upd H p (.lst (ys.map V.int)))
theorem ints_dq {K : PySem.W.Frag} {F : Hp} : ∀ ns : List Int, DqAll K F (ns.map V.int) (ns.map PyData.int)
  | [] => .nil
  | n :: r => .cons (.int n) (ints_dq r)
theorem e_sortD {i : Nat} {e : Expr} (h : PE X e (tCB rSortD (tCons (tVar i) tNil))) : PE X e (tE G (gSortD i)) := by
  refine peI h ?_
  rintro σ H Q ⟨F, hs, ρ, R, p⟩
  unfold gSortD at p
  cases e : ρ[i]? with
  | none => rw [e] at p; exact p.elim
  | some s =>
    cases s with
    | owd es =>
      rw [e] at p
      simp only at p
      obtain ⟨a, kvs, ea, h1, h2, h3, h4, h5⟩ := R.slots i _ e
      by_cases c : es.length < 64
      · rw [if_pos c] at p
        refine ⟨.ref a, ea, a, kvs, es.map (·.1), rfl, .inl h1, h5.keys, by simpa using c, fun ys q pm sr nq => ?_⟩
        have ey : ys = sortI (es.map (·.1)) := srt_unique (pm.trans (sortI_perm _).symm) sr (sortI_srt _)
        subst ey
        exact post_ret' R p (PStep.alloc R.sub nq) (.inl (.lst upd_same (ints_dq _)))
      · rw [if_neg c] at p
        exact p.elim
    | _ => rw [e] at p; exact p.elim
end
end L2.AR
set_option Elab.async false
set_option linter.all false
set_option maxRecDepth 100000
set_option maxHeartbeats 4000000
/-! Fw19: range with a step. -/
namespace L2.AR
open PySem PySem.Spec PyProof.Rows
/-- lo, lo + c, .. -/
def stepTo (lo c : Int) (n : Nat) : List D := (List.range n).map fun (k : Nat) => .int (lo + (k : Int) * c)
def rangeOf3 : List D → Option (List D)
  | [.int i, .int j, .int c] => if c ≠ 0 ∧ c.natAbs < 1073741824 ∧ Builtin.Range.small i j c = true ∧ 0 ≤ Builtin.Range.rangeSize i j c then some (stepTo i c (Builtin.Range.rangeSize i j c).toNat) else none
  | _ => none
def sForR3 (gs : Rho → M (List D)) (t : Tgt) (body : MS) : MS := sExp gs fun ds => orStuck (loopL t body) (rangeOf3 ds)
def gCompR3 (vs : List Nat) (gi : Rho → M (List D)) (t : Tgt) (c : Rho → M Bool) (g : Rho → M D) (ρ : Rho) : M D := bnd (gi ρ) fun d => orStk (fun ds => comp1 t c g (wipeR ρ vs) ds []) (rangeOf3 d)
@[simp] theorem x_forR3 (g : Rho → M (List D)) (t : Tgt) (b : MS) (ρ : Rho) : sForR3 g t b ρ = bndS (g ρ) ρ fun d => orStuck (loopL t b) (rangeOf3 d) := rfl
@[simp] theorem x_comp3 (vs : List Nat) (gi : Rho → M (List D)) (t : Tgt) (c : Rho → M Bool) (g : Rho → M D) (ρ : Rho) : gCompR3 vs gi t c g ρ = bnd (gi ρ) fun d => orStk (fun ds => comp1 t c g (wipeR ρ vs) ds []) (rangeOf3 d) := rfl
@[simp] theorem x_compR (vs : List Nat) (gi : Rho → M (List D)) (t : Tgt) (c : Rho → M Bool) (g : Rho → M D) (ρ : Rho) : gCompR vs gi t c g ρ = bnd (gi ρ) fun d => orStk (fun ds => comp1 t c g (wipeR ρ vs) ds []) (rangeOf d) := rfl
theorem src_rangeC {K : PySem.W.Frag} {F : Hp} (lo c : Int) (n : Nat) : Src K (Itc lo c n) (stepTo lo c n) F := by
  refine ⟨fun F' H _ _ => ?_, fun F' H i d _ _ e => ?_⟩
  · show n ≤ (stepTo lo c n).length
    simp [stepTo]
  · unfold stepTo at e
    rw [List.getElem?_map] at e
    by_cases hi : i < n
    · rw [List.getElem?_eq_getElem (by simpa using hi)] at e
      simp only [List.getElem_range, Option.map_some, Option.some.injEq] at e
      subst e
      refine ⟨hi, fun x H' y => ?_⟩
      obtain ⟨rfl, rfl⟩ := y
      exact ⟨rfl, .int _⟩
    · rw [List.getElem?_eq_none (by simpa using hi)] at e
      cases e
section
variable {X : Cx} {G : Gh} {pos : Pos}
theorem rng3_of {gs : Rho → M (List D)} {σ : St} {F H : Hp} {hs : HS} {ρ : Rho} {R : It → Hp → Prop} (r : Rel G F H hs ρ σ)
    (q : match gs ρ hs with
      | .ok as h' => ∃ ds, rangeOf3 as = some ds ∧ ∀ F' H' lo c n, Step G.ha F H F' H' → HandOK G.ha F' H' h' → ds = stepTo lo c n → R (Itc lo c n) H'
      | .err c d h' => ∀ F' H' dx v, Step G.ha F H F' H' → HandOK G.ha F' H' h' → H' dx = some (.xd [(G.fld c, v)]) → G.ha ≠ some dx → Dq G.K F' v d → G.W (.ref (G.cl c)) (some dx) σ H'
      | .stuck => False) : iRng3 (tA G gs) σ H R := by
  refine ⟨F, hs, ρ, r, ?_⟩
  cases z : gs ρ hs with
  | ok as h' =>
    rw [z] at q
    obtain ⟨ds, e, q⟩ := q
    have key : ∃ i j c : Int, as = [.int i, .int j, .int c] := by
      unfold rangeOf3 at e
      split at e
      · exact ⟨_, _, _, rfl⟩
      · cases e
    obtain ⟨i, j, c, rfl⟩ := key
    have e : (if c ≠ 0 ∧ c.natAbs < 1073741824 ∧ Builtin.Range.small i j c = true ∧ 0 ≤ Builtin.Range.rangeSize i j c then some (stepTo i c (Builtin.Range.rangeSize i j c).toNat) else none) = some ds := e
    by_cases hb : c ≠ 0 ∧ c.natAbs < 1073741824 ∧ Builtin.Range.small i j c = true ∧ 0 ≤ Builtin.Range.rangeSize i j c
    · rw [if_pos hb] at e
      cases e
      intro F' H' v s hh rv
      cases rv with
      | cons r1 r2 =>
        cases r2 with
        | cons r2 r3 =>
          cases r3 with
          | cons r3 r4 =>
            cases r4
            cases r1.dp rfl
            cases r2.dp rfl
            cases r3.dp rfl
            exact ⟨i, j, c, _, rfl, ⟨hb.1, hb.2.1, hb.2.2.1, (Int.toNat_of_nonneg hb.2.2.2).symm⟩, q F' H' i c _ s hh rfl⟩
    · rw [if_neg hb] at e
      cases e
  | err c d h' => rw [z] at q; exact q
  | stuck => rw [z] at q; exact q.elim
theorem p_forR3 {tg iter : Expr} {body : List Stmt} {gs : Rho → M (List D)} {gt : TG} {t : Tgt} {s : MS} (vs : List Nat) (ht : GOk G vs gt t)
    (h : PS X (.For tg iter body [] pos) (tFor (iRng3 (tA G gs)) gt (tS G s))) : PS X (.For tg iter body [] pos) (tS G (sForR3 gs t s)) := by
  refine psI h ?_
  rintro E σ H ⟨F, hs, ρ, R, p⟩
  refine rng3_of R ?_
  unfold sForR3 sExp at p
  cases z : gs ρ hs with
  | ok as h' =>
    rw [z] at p
    simp only at p
    cases w : rangeOf3 as with
    | none => rw [w] at p; exact p.elim
    | some ds =>
      rw [w] at p
      refine ⟨ds, w, fun F' H' lo c n st hh e => ?_⟩
      subst e
      exact for_inv ht (R.step st hh) (src_rangeC lo c n) (postS.after st.ff p)
  | err c d h' =>
    rw [z] at p
    exact fun F' H' dx v s h hx hn dp => p F' H' σ dx v s.ff (R.step s h) hx hn dp
  | stuck => rw [z] at p; exact p.elim
theorem comp_rng3 {gi : Rho → M (List D)} {gt : TG} {t : Tgt} {vs : List Nat} {c : Rho → M Bool} {g : Rho → M D} {σ : St} {H : Hp} {Q : VK} (ht : GOk G vs gt t) (h : tE G (gCompR3 vs gi t c g) σ H Q) : tLc (iRng3 (tA G gi)) gt (tT G.mute c) (tE G.mute g) vs σ H Q := by
  obtain ⟨F, hs, ρ, R, p⟩ := h
  refine rng3_of R ?_
  unfold gCompR3 bnd at p
  cases z : gi ρ hs with
  | ok as h' =>
    rw [z] at p
    simp only at p
    cases w : rangeOf3 as with
    | none => rw [w] at p; exact p.elim
    | some ds =>
      rw [w] at p
      refine ⟨ds, w, fun F' H' lo c n st hh e Dd nD => ?_⟩
      subst e
      exact comp_inv ht (R.step st hh) (src_rangeC lo c n) nD (p.after st)
  | err c d h' => rw [z] at p; exact p
  | stuck => rw [z] at p; exact p.elim
theorem e_lcR3 {e : Expr} {gi : Rho → M (List D)} {gt : TG} {t : Tgt} {vs : List Nat} {c : Rho → M Bool} {g : Rho → M D} (ht : GOk G vs gt t) (h : PE X e (tLc (iRng3 (tA G gi)) gt (tT G.mute c) (tE G.mute g) vs)) : PE X e (tE G (gCompR3 vs gi t c g)) := peI h fun _ _ _ q => comp_rng3 ht q
end
end L2.AR
set_option Elab.async false
set_option linter.all false
set_option maxRecDepth 100000
set_option maxHeartbeats 4000000
/-! Fw20: min, max, sum of a list of whole numbers; sorted of whole numbers. -/
namespace L2.AR
open PySem PySem.Spec PyProof.Rows
variable {K : PySem.W.Frag}
def intsOf : List D → Option (List Int)
  | [] => some []
  | .int b :: ds => (intsOf ds).map (b :: ·)
  | _ => none
theorem intsOf_vals {F : Hp} : ∀ {vs : List V} {ds : List D} {bs : List Int}, DqAll K F vs ds → intsOf ds = some bs → vs = bs.map V.int
  | _, _, bs, .nil, e => by cases e; rfl
  | _, _, bs, .cons (d := d) (ds := ds) r t, e => by
    cases d with
    | int b =>
      cases r
      have e' : (intsOf ds).map (b :: ·) = some bs := e
      cases c : intsOf ds with
      | none => rw [c] at e'; cases e'
      | some cs =>
        rw [c] at e'
        cases e'
        rw [intsOf_vals t c]
        rfl
    | _ => cases e
theorem intsOf_map : ∀ ns : List Int, intsOf (ns.map PyData.int) = some ns
  | [] => rfl
  | n :: r => by
    show (intsOf (r.map PyData.int)).map (n :: ·) = _
    rw [intsOf_map r]
    rfl
def minI : List Int → Int
  | [] => 0
  | [x] => x
  | x :: y :: r => if x ≤ minI (y :: r) then x else minI (y :: r)
theorem minI_mem : ∀ {l : List Int}, l ≠ [] → minI l ∈ l ∧ ∀ y ∈ l, minI l ≤ y
  | [], h => absurd rfl h
  | [x], _ => by simp [minI]
  | x :: y :: r, _ => by
    have ih := minI_mem (l := y :: r) (by simp)
    unfold minI
    split
    · rename_i c
      exact ⟨List.mem_cons_self .., fun z hz => by
        rcases List.mem_cons.mp hz with rfl | hz
        · omega
        · have := ih.2 z hz
          omega⟩
    · rename_i c
      exact ⟨List.mem_cons_of_mem _ ih.1, fun z hz => by
        rcases List.mem_cons.mp hz with rfl | hz
        · omega
        · exact ih.2 z hz⟩
def fMinL : List D → Option D
  | [.list ds] => (intsOf ds).bind fun ns => if ns = [] then none else some (.int (minI ns))
  | _ => none
theorem minL_ok : RAok K (rMin K) fMinL := by
  intro F H vs ds z Q s h e q
  unfold fMinL at e
  split at e
  · rename_i xs
    obtain ⟨v, rfl, r⟩ := one_val h
    cases c : intsOf xs with
    | none => rw [c] at e; cases e
    | some bs =>
      rw [c] at e
      have e : (if bs = [] then none else some (PyData.int (minI bs))) = some z := e
      by_cases hb : bs = []
      · rw [if_pos hb] at e; cases e
      · rw [if_neg hb] at e
        cases e
        cases r with
        | lst h1 h2 =>
          have ev := intsOf_vals h2 c
          have mm := minI_mem hb
          refine ⟨_, bs, rfl, ?_, List.length_pos_iff.mpr hb, fun m hm hle => ?_⟩
          · rw [← ev]
            exact SqL.of (s _ _ h1)
          · have : m = minI bs := by
              have h1 := hle _ mm.1
              have h2 := mm.2 _ hm
              omega
            subst this
            exact q _ _ _ (PStep.refl s) (.int _)
  · cases e
def fSumL : List D → Option D
  | [.list ds] => (intsOf ds).map fun ns => .int ns.sum
  | _ => none
theorem sumL_ok : RAok K (rSum K) fSumL := by
  intro F H vs ds z Q s h e q
  unfold fSumL at e
  split at e
  · rename_i xs
    obtain ⟨v, rfl, r⟩ := one_val h
    cases c : intsOf xs with
    | none => rw [c] at e; cases e
    | some bs =>
      rw [c] at e
      cases e
      cases r with
      | lst h1 h2 =>
        have ev := intsOf_vals h2 c
        refine ⟨_, bs, rfl, ?_, q _ _ _ (PStep.refl s) (.int _)⟩
        rw [← ev]
        exact SqL.of (s _ _ h1)
  · cases e
def fSortL : List D → Option D
  | [.list ds] => (intsOf ds).map fun ns => .list ((sortI ns).map .int)
  | _ => none
end L2.AR
set_option Elab.async false
set_option linter.all false
set_option maxRecDepth 100000
set_option maxHeartbeats 4000000
/-! Fw21: sorted of tuples of whole numbers, all of one length. -/
namespace SrtO
open PySem PySem.Spec PyProof.Rows L2
theorem lexLt_asym : ∀ {a b : List Int}, HT.lexLt a b = true → HT.lexLt b a = false
  | [], [], h => by cases h
  | [], _ :: _, _ => rfl
  | _ :: _, [], h => by cases h
  | x :: a, y :: b, h => by
    rw [HT.lexLt_cons] at h ⊢
    by_cases e : x = y
    · subst e
      rw [if_pos rfl] at h ⊢
      exact lexLt_asym h
    · rw [if_neg e] at h
      rw [if_neg (fun z => e z.symm)]
      have := of_decide_eq_true h
      exact decide_eq_false (by omega)
theorem lexLt_total : ∀ {a b : List Int}, HT.lexLt a b = false → HT.lexLt b a = false → a = b
  | [], [], _, _ => rfl
  | [], _ :: _, h, _ => by cases h
  | _ :: _, [], _, h => by cases h
  | x :: a, y :: b, h, h2 => by
    rw [HT.lexLt_cons] at h h2
    by_cases e : x = y
    · subst e
      rw [if_pos rfl] at h h2
      rw [lexLt_total h h2]
    · rw [if_neg e] at h
      rw [if_neg (fun z => e z.symm)] at h2
      have := of_decide_eq_false h
      have := of_decide_eq_false h2
      omega
theorem lexLt_tr : ∀ {a b c : List Int}, HT.lexLt b a = false → HT.lexLt c b = false → HT.lexLt c a = false
  | [], b, [], _, _ => rfl
  | [], b, _ :: _, _, _ => rfl
  | x :: a, [], c, h, _ => by cases h
  | x :: a, y :: b, [], _, h => by cases h
  | x :: a, y :: b, z :: c, h1, h2 => by
    rw [HT.lexLt_cons] at h1 h2 ⊢
    by_cases e : y = x
    · subst e
      rw [if_pos rfl] at h1
      by_cases e2 : z = y
      · subst e2
        rw [if_pos rfl] at h2 ⊢
        exact lexLt_tr h1 h2
      · rw [if_neg e2] at h2 ⊢
        exact h2
    · rw [if_neg e] at h1
      have := of_decide_eq_false h1
      by_cases e2 : z = y
      · subst e2
        rw [if_neg e]
        exact h1
      · rw [if_neg e2] at h2
        have := of_decide_eq_false h2
        rw [if_neg (by omega)]
        exact decide_eq_false (by omega)
theorem swo_lexL (k : α → List Int) : Swo fun v u => HT.lexLt (k v) (k u) := ⟨fun _ _ h => lexLt_asym h, fun _ _ _ h1 h2 => lexLt_tr h1 h2⟩
section
variable {prog : Program} {w : World} {A : Around} {s : Shared} {Q : Bool → Shared → Prop}
theorem oneI (c : Bool) {p q : Int} {t u : Tok} (h : Q (decide (p < q)) s) : wpAny (model prog w) A (oneLt' c (.int p t) (.int q u)) Q (fun _ _ => False) s := by
  cases c with
  | true => exact oneLt_int h
  | false => exact PySem.W.kat_one _ _ (PyProof.Rows.lt_int (Q := PySem.W.BoolBack Q) h)
end
/-- a tuple of whole numbers -/
def IsTupI (h : Heap) (v : Value) (ns : List Int) : Prop := ∃ (a : Addr) (o : Obj) (xs : Array Value) (n : Nat), v = .ref a ∧ h.get? a = some o ∧ o.cls = .type "tuple" ∧ o.data = .seq xs n ∧ IntsAre xs.toList ns
theorem IsTupI.keeps {h h' : Heap} {v : Value} {ns : List Int} (p : IsTupI h v ns) (k : ∀ b o, h.get? b = some o → o.cls = .type "tuple" → h'.get? b = some o) : IsTupI h' v ns := by
  obtain ⟨a, o, xs, n, e, ho, hc, hd, i⟩ := p
  exact ⟨a, o, xs, n, e, k _ _ ho hc, hc, hd, i⟩
section
variable {prog : Program} {w : World} {A : Around} {E : Value → Shared → Prop} {s : Shared} {Q : Bool → Shared → Prop}
theorem lexI {b : Bool} {xs ys : List Value} {ns ms : List Int} (i : Nat) (hx : IntsAre xs ns) (hy : IntsAre ys ms) (hl : ns.length = ms.length)
    (h : Q (HT.lexLt ns ms) s) : PySem.W.KatLex prog w A b false Q (xs.zip ys) i s := by
  induction hx generalizing ys ms i with
  | nil =>
    cases hy with
    | nil => exact PySem.W.kat_nil h
    | cons q u hy => simp at hl
  | @cons p t xs ns hx ih =>
    cases hy with
    | nil => simp at hl
    | @cons q u ys ms hy =>
      have hl' : ns.length = ms.length := by simpa using hl
      show PySem.W.KatLex prog w A b false Q ((Value.int p t, Value.int q u) :: xs.zip ys) i s
      refine PySem.W.kat_cons (wpAny_eqBool_int ?_)
      rw [HT.lexLt_cons] at h
      by_cases e : p = q
      · subst e
        rw [beq_self_eq_true]
        rw [if_pos rfl] at h
        refine PySem.W.kat_yes ?_
        exact ih (i + 1) hy hl' h
      · rw [show (p == q) = false from beq_eq_false_iff_ne.mpr e]
        rw [if_neg e] at h
        exact PySem.W.kat_no (oneI _ h)
theorem cmpI {vs : List Value} {k : Value → List Int} {d : Nat} (hp : ∀ v ∈ vs, IsTupI s.heap v (k v) ∧ (k v).length = d) : Cmp prog w A s (tuples' true) (fun p => p.1 ∈ vs) (lt2 fun v u => HT.lexLt (k v) (k u)) := by
  intro p q hm hm'
  have h1 := hp _ hm
  have h2 := hp _ hm'
  show wpAny (model prog w) A (keyLt' (tuples' true) p.1 q.1) (fun r s' => s' = s ∧ r = HT.lexLt (k p.1) (k q.1)) (fun _ _ => False) s
  obtain ⟨⟨a, o, xs, n, e, ho, hc, hd, i⟩, l1⟩ := h1
  obtain ⟨⟨a', o', xs', n', e', ho', hc', hd', i'⟩, l2⟩ := h2
  rw [e, e']
  refine PySem.W.kat_lt ho hd ho' hd' ?_
  have le : xs.size = xs'.size := by
    have a1 := i.length
    have a2 := i'.length
    rw [Array.length_toList] at a1 a2
    omega
  have f : decide (xs.size < xs'.size) = false := decide_eq_false (by omega)
  rw [f, ← e, ← e']
  exact lexI 0 i i' (by omega) ⟨rfl, rfl⟩
theorem firstsI {h : Heap} {k : Value → List Int} : ∀ {vs : List Value}, (∀ v ∈ vs, IsTupI h v (k v) ∧ 0 < (k v).length) → ∃ fs : List Value, PySem.W.KatTups h vs fs ∧ fs.length = vs.length ∧ ∀ f ∈ fs, ∃ x t, f = Value.int x t
  | [], _ => ⟨[], PySem.W.KatTups.nil, rfl, fun _ hm => by simp at hm⟩
  | v :: vs, hp => by
    obtain ⟨fs, h1, h2, h3⟩ := firstsI (vs := vs) fun v' hm => hp v' (List.mem_cons_of_mem _ hm)
    obtain ⟨⟨a, o, xs, n, e, ho, hc, hd, i⟩, l⟩ := hp v (List.mem_cons_self ..)
    obtain ⟨y, ys, ey⟩ : ∃ y ys, xs.toList = y :: ys := by
      cases q : xs.toList with
      | nil =>
        rw [q] at i
        have l2 := i.length
        rw [List.length_nil] at l2
        omega
      | cons y ys => exact ⟨y, ys, rfl⟩
    obtain ⟨m, t, hy⟩ := i.all y (by rw [ey]; exact List.mem_cons_self ..)
    rw [e]
    refine ⟨y :: fs, PySem.W.KatTups.cons ho hc hd ?_ h1, by simp [h2], fun f hm => ?_⟩
    · rw [← Array.getElem?_toList, ey]
      rfl
    · rcases List.mem_cons.mp hm with rfl | hm
      · exact ⟨m, t, hy⟩
      · exact h3 f hm
theorem tups_sortableO {a : Addr} {vs : List Value} {k : Value → List Int} {d : Nat} (h0 : 0 < vs.length) (d0 : 0 < d) (hp : ∀ v ∈ vs, IsTupI s.heap v (k v) ∧ (k v).length = d) (ha : ∀ o, s.heap.get? a = some o → o.cls ≠ .type "tuple") : SortableO prog w A s a vs fun v u => HT.lexLt (k v) (k u) := by
  intro h' keep
  have hp' : ∀ v ∈ vs, IsTupI h' v (k v) ∧ (k v).length = d := fun v hm => ⟨(hp v hm).1.keeps fun b o e c => keep b o (fun z => by subst z; exact ha o e c) e, (hp v hm).2⟩
  obtain ⟨fs, h1, h2, h3⟩ := firstsI fun v hm => ⟨(hp' v hm).1, by rw [(hp' v hm).2]; exact d0⟩
  refine ⟨tuples' true, fun Q E hq => ?_, cmpI hp'⟩
  refine PySem.W.kat_kind (T := .type "int") h1 (by omega) (fun f hm => ?_) (by rfl) ?_
  · obtain ⟨x, t, rfl⟩ := h3 f hm
    exact PySem.W.Looks.now
  · have e : (Value.type "int" != Value.type "tuple") = true := by first | decide +kernel | rfl | decide
    rw [e]
    exact hq
theorem sorted_tupsO {l : Addr} {vs : List Value} {k : Value → List Int} {d : Nat} {Q : Value → Shared → Prop} (hl : s.heap.IsList l vs.toArray) (hz : vs.length ≤ sizeLine) (d0 : 0 < d) (hp : ∀ v ∈ vs, IsTupI s.heap v (k v) ∧ (k v).length = d)
    (h : ∀ (h' : Heap) (d : Addr) (out : List Value), Srtd (fun v u => HT.lexLt (k v) (k u)) out → Stb (fun v u => HT.lexLt (k v) (k u)) out vs → (∀ b o, s.heap.get? b = some o → h'.get? b = some o) → s.heap.objs.size ≤ d → (∃ n, h'.get? d = some (seqObj "list" out.toArray n)) → Q (.ref d) { s with heap := h' }) :
    wpAny (model prog w) A (call (.builtin "sorted") [.ref l]) Q E s := by
  refine sorted_ord (swo_lexL k) hl hz (fun h2 h₁ a ha kk => ?_) fun out hs hb => ?_
  · refine tups_sortableO (s := { s with heap := h₁ }) (by omega) d0 (fun v hm => ⟨(hp v hm).1.keeps fun b o e _ => (kk b o e).2, (hp v hm).2⟩) fun o e => ?_
    have e' : some o = some (seqObj "list" vs.toArray 0) := e.symm.trans ha
    cases e'
    intro c
    exact absurd (Value.type.inj c) (by decide)
  · exact h _ _ out hs hb (fun b o e => sortedAll_old e) (Nat.le_succ _) (sortedAll_at s.heap vs out.toArray)
end
end SrtO
namespace SrtO
open PySem PySem.Spec PyProof.Rows L2
theorem ints_uniq : ∀ {vs : List Value} {ns ms : List Int}, IntsAre vs ns → IntsAre vs ms → ns = ms
  | _, _, _, .nil, .nil => rfl
  | _, _, _, .cons n t h, .cons _ _ h' => by rw [ints_uniq h h']
theorem tupI_uniq {h : Heap} {v : Value} {ns ms : List Int} (a : IsTupI h v ns) (b : IsTupI h v ms) : ns = ms := by
  obtain ⟨a, o, xs, n, rfl, ho, hc, hd, i⟩ := a
  obtain ⟨a', o', xs', n', e, ho', hc', hd', i'⟩ := b
  cases e
  rw [ho] at ho'
  cases ho'
  rw [hd] at hd'
  cases hd'
  exact ints_uniq i i'
end SrtO
namespace L2.AR
open PySem PySem.Spec PyProof.Rows
/-- x is a tuple of these d whole numbers -/
def TupV (K : PySem.W.Frag) (H : Hp) (d : Nat) (x : V) (l : List Int) : Prop := ∃ t, x = V.ref t ∧ SqT K H t (l.map V.int) ∧ l.length = d
/-- sorted(xs), xs a list of tuples of ints, all of one length: a new list -/
def rSortedT (K : PySem.W.Frag) : List V → Hp → VK → Prop := fun vs H Q => ∃ (a : Addr) (xs : List V) (ls : List (List Int)) (d : Nat), vs = [V.ref a] ∧ SqL K H a xs ∧ 0 < d ∧ Paired (TupV K H d) xs ls ∧
  ∀ ys ls' p, ls'.Perm ls → ls'.Pairwise (fun x y => HT.lexLt y x = false) → (∀ R : V → List Int → Prop, Paired R xs ls → Paired R ys ls') → H p = none → Q (.ref p) (upd H p (.lst ys))
theorem paired_mem {α β : Type} {R : α → β → Prop} : ∀ {xs : List α} {ys : List β}, Paired R xs ys → ∀ x ∈ xs, ∃ y, R x y
  | _, _, .cons r h, x, m => by
    rcases List.mem_cons.mp m with rfl | m
    · exact ⟨_, r⟩
    · exact paired_mem h x m
theorem paired_map {α β : Type} {R : α → β → Prop} {k : α → β} : ∀ {xs : List α} {ys : List β}, Paired R xs ys → (∀ x y, R x y → y = k x) → ys = xs.map k
  | _, _, .nil, _ => rfl
  | _, _, .cons r h, e => by rw [List.map_cons, e _ _ r, paired_map h e]
theorem paired_of {α β : Type} {R : α → β → Prop} {k : α → β} : ∀ {xs : List α}, (∀ x ∈ xs, R x (k x)) → Paired R xs (xs.map k)
  | [], _ => .nil
  | x :: xs, h => .cons (h x (by simp)) (paired_of fun y m => h y (by simp [m]))
theorem paired_self {α β : Type} {R : α → β → Prop} {k : α → β} : ∀ {xs : List α}, Paired R xs (xs.map k) → ∀ x ∈ xs, R x (k x)
  | [], _, x, m => by cases m
  | y :: ys, .cons r h, x, m => by
    rcases List.mem_cons.mp m with rfl | m
    · exact r
    · exact paired_self h x m
section
variable {X : Cx}
open Classical in
theorem cr_sortedT : CallR X (.builtin "sorted") (rSortedT X.K) := by
  intro pins s σ H vs us Q I r h
  obtain ⟨a, xs, ls, d, rfl, hs, d0, hx, q⟩ := h
  obtain ⟨its, rv, hl, hz⟩ := I.list hs
  obtain ⟨u, rfl, ru⟩ := vals1 r
  obtain rfl : u = Value.ref a := ru
  obtain ⟨e1, e2⟩ := refs_back rv fun x m => by
    obtain ⟨l, t, e, _⟩ := paired_mem hx x m
    exact ⟨t, e⟩
  -- the ints at an address, as the heap has them
  let kv : Value → List Int := fun u => if h : ∃ ns, SrtO.IsTupI s.heap u ns then h.choose else []
  have kvs : ∀ {u ns}, SrtO.IsTupI s.heap u ns → kv u = ns := fun {u ns} i => by
    have ex : ∃ ns, SrtO.IsTupI s.heap u ns := ⟨ns, i⟩
    show (if h : ∃ ns, SrtO.IsTupI s.heap u ns then h.choose else []) = ns
    rw [dif_pos ex]
    exact SrtO.tupI_uniq ex.choose_spec i
  have tup : ∀ {t l}, SqT X.K H t (l.map V.int) → SrtO.IsTupI s.heap (.ref t) l := fun {t l} ht => by
    obtain ⟨its2, r2, p2, _⟩ := I.tuple ht
    obtain ⟨o, ho, hc, n, hd⟩ := p2
    exact ⟨t, o, its2.toArray, n, rfl, ho, hc, hd, by rw [List.toList_toArray]; exact intsAre_of r2⟩
  let k : V → List Int := fun x => match x with
    | .ref t => kv (.ref t)
    | _ => []
  have kx : ∀ x l, TupV X.K H d x l → l = k x := by
    rintro x l ⟨t, rfl, ht, _⟩
    exact (kvs (tup ht)).symm
  have els := paired_map hx kx
  have all : ∀ x ∈ xs, TupV X.K H d x (k x) := fun x m => by
    obtain ⟨l, r⟩ := paired_mem hx x m
    rw [← kx x l r]
    exact r
  refine SrtO.sorted_tupsO (k := kv) (d := d) hl.isList (by rw [← rv.length]; exact hz) d0 (fun v hv => ?_) fun h' d' out h1 h2 kp hd hn => ?_
  · obtain ⟨t, rfl⟩ := e2 v hv
    have hm : V.ref t ∈ xs := by rw [e1]; exact List.mem_map.mpr ⟨_, hv, rfl⟩
    obtain ⟨t', e, ht, hlen⟩ := all _ hm
    cases e
    exact ⟨tup ht, hlen⟩
  · have h3 : ∀ u ∈ out, ∃ a, u = Value.ref a := fun u hu => e2 u (h2.perm.mem_iff.mp hu)
    obtain ⟨n, hn⟩ := hn
    have hb : (out.map backV).Perm xs := by
      rw [e1]
      exact h2.perm.map backV
    have same : ∀ {l : List Value}, (∀ u ∈ l, ∃ a, u = Value.ref a) → (l.map backV).map k = l.map kv := fun {l} h => by
      rw [List.map_map]
      refine List.map_congr_left fun u m => ?_
      obtain ⟨a, rfl⟩ := h u m
      rfl
    refine ⟨.ref d', upd H d' (.lst (out.map backV)), I.laid (t' := s.toks) kp hd ⟨?_, out, n, vals_back h3, hn⟩, rfl, q _ ((out.map backV).map k) d' ?_ ?_ (fun R pr => paired_of fun x m => by
      rw [els] at pr
      exact paired_self pr x (hb.mem_iff.mp m)) (I.hok.fresh hd)⟩
    · rw [hb.length_eq]
      exact hz
    · rw [els]
      exact hb.map k
    · rw [same h3]
      exact List.pairwise_map.mpr h1
end
end L2.AR
set_option Elab.async false
set_option linter.all false
set_option maxRecDepth 100000
set_option maxHeartbeats 4000000
/-! Fw22: sorted of tuples, the function. -/
namespace L2.AR
open PySem PySem.Spec PyProof.Rows
def tupI : D → Option (List Int)
  | .tuple ds => intsOf ds
  | _ => none
def tupsI : List D → Option (List (List Int))
  | [] => some []
  | d :: ds => match tupI d, tupsI ds with
    | some l, some ls => some (l :: ls)
    | _, _ => none
def tupD (l : List Int) : D := .tuple (l.map .int)
def insT (x : List Int) : List (List Int) → List (List Int)
  | [] => [x]
  | y :: r => if HT.lexLt y x = true then y :: insT x r else x :: y :: r
def sortT : List (List Int) → List (List Int)
  | [] => []
  | x :: r => insT x (sortT r)
abbrev SrtT (l : List (List Int)) : Prop := l.Pairwise (fun x y => HT.lexLt y x = false)
theorem insT_perm (x : List Int) : ∀ l, (insT x l).Perm (x :: l)
  | [] => .refl _
  | y :: r => by
    unfold insT
    split
    · exact ((insT_perm x r).cons y).trans (.swap x y r)
    · exact .refl _
theorem sortT_perm : ∀ l, (sortT l).Perm l
  | [] => .refl _
  | x :: r => (insT_perm x _).trans ((sortT_perm r).cons x)
theorem insT_srt (x : List Int) : ∀ l, SrtT l → SrtT (insT x l)
  | [], _ => by simp [insT]
  | y :: r, h => by
    unfold insT
    split
    · rename_i c
      refine List.pairwise_cons.mpr ⟨fun z hz => ?_, insT_srt x r (List.pairwise_cons.mp h).2⟩
      rcases List.mem_cons.mp ((insT_perm x r).mem_iff.mp hz) with rfl | hz
      · exact SrtO.lexLt_asym c
      · exact (List.pairwise_cons.mp h).1 z hz
    · rename_i c
      have c' : HT.lexLt y x = false := by simpa using c
      refine List.pairwise_cons.mpr ⟨fun z hz => ?_, h⟩
      rcases List.mem_cons.mp hz with rfl | hz
      · exact c'
      · exact SrtO.lexLt_tr c' ((List.pairwise_cons.mp h).1 z hz)
theorem sortT_srt : ∀ l, SrtT (sortT l)
  | [] => .nil
  | x :: r => insT_srt x _ (sortT_srt r)
theorem lex_refl (x : List Int) : HT.lexLt x x = false := by
  cases h : HT.lexLt x x with
  | false => rfl
  | true => rw [SrtO.lexLt_asym h] at h; cases h
theorem srtT_unique : ∀ {a b : List (List Int)}, a.Perm b → SrtT a → SrtT b → a = b
  | [], b, p, _, _ => by rw [List.nil_perm.mp p]
  | x :: r, [], p, _, _ => by cases List.perm_nil.mp p
  | x :: r, y :: s, p, ha, hb => by
    have h1 : HT.lexLt y x = false := by
      rcases List.mem_cons.mp (p.mem_iff.mpr (List.mem_cons_self (a := y))) with e | m
      · rw [e]; exact lex_refl x
      · exact (List.pairwise_cons.mp ha).1 y m
    have h2 : HT.lexLt x y = false := by
      rcases List.mem_cons.mp (p.mem_iff.mp (List.mem_cons_self (a := x))) with e | m
      · rw [e]; exact lex_refl y
      · exact (List.pairwise_cons.mp hb).1 x m
    have e : x = y := SrtO.lexLt_total h2 h1
    subst e
    rw [srtT_unique (List.Perm.cons_inv p) (List.pairwise_cons.mp ha).2 (List.pairwise_cons.mp hb).2]
def oneLen (d : Nat) (ls : List (List Int)) : Bool := ls.all fun l => l.length == d
def fSortT : List D → Option D
  | [.list ds] => match tupsI ds with
    | some ls => if (ls.all fun l => l.length == (ls.headD [0]).length && decide (0 < l.length)) = true then some (.list ((sortT ls).map tupD)) else none
    | none => none
  | _ => none
section
variable {K : PySem.W.Frag} {F : Hp}
theorem tupI_val {v : V} {d : D} {l : List Int} (r : Dq K F v d) (e : tupI d = some l) : ∃ t, v = .ref t ∧ SqT K F t (l.map V.int) := by
  cases d with
  | tuple ds =>
    cases r with
    | tup h1 h2 => exact ⟨_, rfl, by rw [← intsOf_vals h2 e]; exact h1⟩
  | _ => cases e
theorem tupsI_vals : ∀ {vs : List V} {ds : List D} {ls : List (List Int)} {d : Nat}, DqAll K F vs ds → tupsI ds = some ls → (∀ l ∈ ls, l.length = d) → Paired (TupV K F d) vs ls
  | _, _, ls, d, .nil, e, _ => by cases e; exact .nil
  | _, _, ls, d, .cons (d := x) (ds := xs) r t, e, hl => by
    have e' : (match tupI x, tupsI xs with
      | some l, some ls => some (l :: ls)
      | _, _ => none) = some ls := e
    cases c : tupI x with
    | none => rw [c] at e'; cases e'
    | some l =>
      cases c2 : tupsI xs with
      | none => rw [c, c2] at e'; cases e'
      | some ls2 =>
        rw [c, c2] at e'
        cases e'
        obtain ⟨a, ea, ha⟩ := tupI_val r c
        exact .cons ⟨a, ea, ha, hl l (by simp)⟩ (tupsI_vals t c2 fun z m => hl z (by simp [m]))
theorem tups_dq {d : Nat} : ∀ {ys : List V} {ls : List (List Int)}, Paired (TupV K F d) ys ls → DqAll K F ys (ls.map tupD)
  | _, _, .nil => .nil
  | _, _, .cons ⟨t, e, h, _⟩ r => by
    subst e
    exact .cons (.tup h (ints_dq _)) (tups_dq r)
theorem sortT_ok : RAok K (rSortedT K) fSortT := by
  intro F H vs ds z Q s h e q
  unfold fSortT at e
  split at e
  · rename_i xs
    obtain ⟨v, rfl, r⟩ := one_val h
    cases c : tupsI xs with
    | none => rw [c] at e; cases e
    | some ls =>
      rw [c] at e
      simp only at e
      by_cases hb : (ls.all fun l => l.length == (ls.headD [0]).length && decide (0 < l.length)) = true
      · rw [if_pos hb] at e
        cases e
        have hl : ∀ l ∈ ls, l.length = (ls.headD [0]).length := fun l m => by
          have := List.all_eq_true.mp hb l m
          rw [Bool.and_eq_true] at this
          exact eq_of_beq this.1
        have d0 : 0 < (ls.headD [0]).length := by
          cases ls with
          | nil => simp
          | cons l r =>
            have := List.all_eq_true.mp hb l (by simp)
            simp at this
            simpa using this
        cases r with
        | lst h1 h2 =>
          rename_i a ws
          have pr := tupsI_vals h2 c hl
          have same : ∀ {x l}, TupV K F (ls.headD [0]).length x l → TupV K H (ls.headD [0]).length x l := fun {x l} ⟨t, e, h, n⟩ => ⟨t, e, sqt_same s h, n⟩
          have lift : ∀ {xs : List V} {ms : List (List Int)}, Paired (TupV K F (ls.headD [0]).length) xs ms → Paired (TupV K H (ls.headD [0]).length) xs ms := by
            intro xs ms p
            induction p with
            | nil => exact .nil
            | cons r _ ih => exact .cons (same r) ih
          refine ⟨a, ws, ls, _, rfl, SqL.of (s _ _ h1), d0, lift pr, fun ys ls' p pm sr py np => ?_⟩
          have el : ls' = sortT ls := srtT_unique (pm.trans (sortT_perm _).symm) sr (sortT_srt _)
          subst el
          have q1 := tups_dq (py _ pr)
          refine q _ _ _ (PStep.alloc s np (o := .lst ys)) (.lst upd_same (dpAll_same (PStep.alloc s np (o := .lst ys)).ff _ _ q1))
      · rw [if_neg hb] at e
        cases e
  · cases e
end
end L2.AR
set_option Elab.async false
set_option linter.all false
set_option maxRecDepth 100000
set_option maxHeartbeats 4000000
/-! Fw23: more reckoning: while, own dicts, ranges, what surely ends so (the hand's state left aside). -/
namespace L2.AR
open PySem PySem.Spec PyProof.Rows
theorem x_while0 (c : Rho → M Bool) (s : MS) (n : Nat) (ρ : Rho) : loopW c s (n + 1) ρ = bndS (c ρ) ρ fun b ρ => if b = true then turnS (s ρ) (loopW c s n) else okS .nx ρ := by
  funext h
  simp only [loopW, sExp, bndS]
  cases c ρ h with
  | ok b h' =>
    cases b
    · rfl
    · simp only [if_true, turnS]
      all_goals (cases s ρ h' with
        | ok f ρ2 h2 => cases f <;> rfl
        | err _ _ _ _ => rfl
        | stuck => rfl)
  | err _ _ _ => rfl
  | stuck => rfl
/-! own dicts -/
@[simp] theorem x_newD (i : Nat) (ρ : Rho) : sNewD i ρ = okS .nx (ρ.set i (.owd [])) := rfl
@[simp] theorem exc_owd (l : List (Int × D)) : isExc (.owd l) = false := rfl
theorem x_putD {i : Nat} {gk gv : Rho → M D} {ρ : Rho} {es : List (Int × D)} {d : D} {n : Int} (e : ρ[i]? = some (.owd es)) (ev : gv ρ = ret d) (ek : gk ρ = ret (.int n)) (t : isTok d = false) (l : es.length < 1000000) :
    sPutD i gk gv ρ = okS .nx (ρ.set i (.owd (putE es n d))) := by
  funext h
  unfold sPutD
  simp only [x_exp, ev, bndS_ret]
  rw [e]
  simp only [x_exp, ek, bndS_ret]
  rw [if_pos ⟨t, l⟩]
  rfl
theorem x_inD {neg : Bool} {i : Nat} {gk : Rho → M D} {ρ : Rho} {es : List (Int × D)} {n : Int} (e : ρ[i]? = some (.owd es)) (ek : gk ρ = ret (.int n)) : gInD neg i gk ρ = ret (.bool (if neg then !(getE es n).isSome else (getE es n).isSome)) := by
  unfold gInD
  rw [ek, bnd_ret, e]
theorem x_getD {i : Nat} {gk : Rho → M D} {ρ : Rho} {es : List (Int × D)} {n : Int} {d : D} (e : ρ[i]? = some (.owd es)) (ek : gk ρ = ret (.int n)) (eg : getE es n = some d) : gGetD i gk ρ = ret d := by
  unfold gGetD
  rw [e]
  simp only
  rw [ek, bnd_ret]
  simp only
  rw [eg]
theorem x_sortD {i : Nat} {ρ : Rho} {es : List (Int × D)} (e : ρ[i]? = some (.owd es)) (l : es.length < 64) : gSortD i ρ = ret (.list ((sortI (es.map (·.1))).map .int)) := by
  unfold gSortD
  rw [e]
  simp only
  rw [if_pos l]
theorem getE_nil (k : Int) : getE [] k = none := rfl
theorem getE_snoc (es : List (Int × D)) (k n : Int) (d : D) : getE (es ++ [(k, d)]) n = (getE es n).orElse fun _ => if k = n then some d else none := by
  unfold getE
  rw [List.find?_append]
  cases h : es.find? fun e => decide (e.1 = n) with
  | some x => simp
  | none =>
    by_cases e : k = n
    · simp [e]
    · simp [e]
theorem putE_new {es : List (Int × D)} {k : Int} {d : D} (h : getE es k = none) : putE es k d = es ++ [(k, d)] := by
  have : (es.any fun e => decide (e.1 = k)) = false := by
    unfold getE at h
    rw [Option.map_eq_none_iff, List.find?_eq_none] at h
    rw [List.any_eq_false]
    exact h
  unfold putE
  simp [this]
theorem getE_mem {es : List (Int × D)} {k : Int} : (getE es k).isSome = true ↔ k ∈ es.map (·.1) := by
  unfold getE
  rw [Option.isSome_map, List.find?_isSome]
  simp
/-! max, min, displays, ranges -/
@[simp] theorem o_max (a b : Int) : opA fMax [.int a, .int b] = ret (.int (if b > a then b else a)) := rfl
@[simp] theorem o_min (a b : Int) : opA fMin [.int a, .int b] = ret (.int (if b < a then b else a)) := rfl
theorem mkT (ds : List D) : opA mkTup ds = if ds.any isTok = false ∧ ds.length ≤ 1000000 then ret (.tuple ds) else stk := by
  unfold opA mkTup
  cases ds.any isTok
  · by_cases h : ds.length ≤ 1000000
    · simp [h]
    · simp [h]
  · simp
theorem mkL (ds : List D) : opA mkLst ds = if ds.any isTok = false ∧ ds.length ≤ 1000000 then ret (.list ds) else stk := by
  unfold opA mkLst
  cases ds.any isTok
  · by_cases h : ds.length ≤ 1000000
    · simp [h]
    · simp [h]
  · simp
@[simp] theorem o_addT (a b : List D) : op2 fAdd (.tuple a) (.tuple b) = if a.length + b.length ≤ 1000000 then ret (.tuple (a ++ b)) else stk := by
  show lift (if a.length + b.length ≤ 1000000 then some (PyData.tuple (a ++ b)) else none) = _
  split <;> rfl
theorem upTo_succ (lo : Int) (n : Nat) : upTo lo (n + 1) = .int lo :: upTo (lo + 1) n := by
  unfold upTo
  rw [List.range_succ_eq_map]
  simp only [List.map_cons, List.map_map]
  refine congr (congrArg _ (by simp)) ?_
  refine List.map_congr_left fun k _ => ?_
  show PyData.int _ = PyData.int _
  congr 1
  simp
  omega
theorem upTo_zero (lo : Int) : upTo lo 0 = [] := rfl
theorem upTo_len (lo : Int) (n : Nat) : (upTo lo n).length = n := by simp [upTo]
theorem range_2 {i j : Int} (h1 : -(2 ^ 62) ≤ i) (h2 : i < 2 ^ 62) (h3 : -(2 ^ 62) ≤ j) (h4 : j < 2 ^ 62) : rangeOf [.int i, .int j] = some (upTo i (j - i).toNat) := if_pos ⟨h1, h2, h3, h4⟩
theorem range_1' {j : Int} (h3 : -(2 ^ 62) ≤ j) (h4 : j < 2 ^ 62) : rangeOf [.int j] = some (upTo 0 j.toNat) := if_pos ⟨h3, h4⟩
/-- a comprehension without a condition, each turn known -/
theorem comp_map {i : Nat} {g : Rho → M D} {ρ : Rho} {f : D → D} : ∀ (ds acc : List D), (∀ d ∈ ds, g (ρ.set i (.dat d)) = ret (f d)) → (∀ d ∈ ds, isTok (f d) = false) → acc.length + ds.length ≤ 1000000 → comp1 (tgN i) tYs g ρ ds acc = ret (.list (acc ++ ds.map f))
  | [], acc, _, _, _ => by simp
  | d :: ds, acc, h, t, l => by
    rw [comp_cons, h d (by simp), nerr_ret, bnd_ret, if_pos ⟨t d (by simp), by simp at l; omega⟩, comp_map ds _ (fun x m => h x (by simp [m])) (fun x m => t x (by simp [m])) (by simp at l ⊢; omega)]
    simp
/-! ### surely ends so -/
def Ends {α : Type} (x : M α) (P : α → Prop) : Prop := ∀ h, ∃ a h', x h = .ok a h' ∧ P a
def EndsS (o : HS → OutS) (P : Fl → Rho → Prop) : Prop := ∀ h, ∃ f ρ h', o h = .ok f ρ h' ∧ P f ρ
section
variable {α β : Type} {x : M α} {f : α → M β} {a : α} {ρ : Rho} {k : α → MS} {o : HS → OutS} {t : MS}
theorem Ends.ret {P : α → Prop} (p : P a) : Ends (ret a) P := fun h => ⟨a, h, rfl, p⟩
theorem Ends.bnd {Q : α → Prop} {P : β → Prop} (e : Ends x Q) (k : ∀ a, Q a → Ends (f a) P) : Ends (bnd x f) P := fun h => by
  obtain ⟨a, h', e1, q⟩ := e h
  obtain ⟨b, h2, e2, p⟩ := k a q h'
  exact ⟨b, h2, by unfold L2.AR.bnd; rw [e1]; exact e2, p⟩
theorem Ends.mono {P Q : α → Prop} (e : Ends x P) (i : ∀ a, P a → Q a) : Ends x Q := fun h => by
  obtain ⟨a, h', e1, q⟩ := e h
  exact ⟨a, h', e1, i a q⟩
theorem EndsS.ok {P : Fl → Rho → Prop} {f : Fl} (p : P f ρ) : EndsS (okS f ρ) P := fun h => ⟨f, ρ, h, rfl, p⟩
theorem EndsS.bnd {Q : α → Prop} {P : Fl → Rho → Prop} (e : Ends x Q) (i : ∀ a, Q a → EndsS (k a ρ) P) : EndsS (bndS x ρ k) P := fun h => by
  obtain ⟨a, h', e1, q⟩ := e h
  obtain ⟨f, r, h2, e2, p⟩ := i a q h'
  exact ⟨f, r, h2, by unfold bndS; rw [e1]; exact e2, p⟩
theorem EndsS.mono {P Q : Fl → Rho → Prop} (e : EndsS o P) (i : ∀ f r, P f r → Q f r) : EndsS o Q := fun h => by
  obtain ⟨f, r, h', e1, q⟩ := e h
  exact ⟨f, r, h', e1, i f r q⟩
theorem EndsS.seq {Q : Rho → Prop} {P : Fl → Rho → Prop} (e : EndsS o fun f r => f = .nx ∧ Q r) (i : ∀ r, Q r → EndsS (t r) P) : EndsS (seqS o t) P := fun h => by
  obtain ⟨f, r, h', e1, rfl, q⟩ := e h
  obtain ⟨f, r2, h2, e2, p⟩ := i r q h'
  exact ⟨f, r2, h2, by unfold seqS; rw [e1]; exact e2, p⟩
theorem EndsS.turn {Q : Rho → Prop} {P : Fl → Rho → Prop} (e : EndsS o fun f r => f = .nx ∧ Q r) (i : ∀ r, Q r → EndsS (t r) P) : EndsS (turnS o t) P := fun h => by
  obtain ⟨f, r, h', e1, rfl, q⟩ := e h
  obtain ⟨f, r2, h2, e2, p⟩ := i r q h'
  exact ⟨f, r2, h2, by unfold turnS; rw [e1]; exact e2, p⟩
theorem Ends.endB {P : D → Prop} (e : EndsS o fun f _ => ∃ d, f = .rt d ∧ P d) : Ends (endB o) P := fun h => by
  obtain ⟨f, r, h', e1, d, rfl, p⟩ := e h
  exact ⟨d, h', by unfold L2.AR.endB; rw [e1], p⟩
end
theorem bndS_bnd {α β : Type} (x : M α) (f : α → M β) (ρ : Rho) (k : β → MS) : bndS (bnd x f) ρ k = bndS x ρ fun a ρ => bndS (f a) ρ k := by
  funext h
  unfold bndS bnd
  cases x h <;> rfl
theorem seqS_bndS {α : Type} (x : M α) (ρ : Rho) (k : α → MS) (t : MS) : seqS (bndS x ρ k) t = bndS x ρ fun a ρ => seqS (k a ρ) t := by
  funext h
  unfold seqS bndS
  cases x h <;> rfl
theorem turnS_bndS {α : Type} (x : M α) (ρ : Rho) (k : α → MS) (t : MS) : turnS (bndS x ρ k) t = bndS x ρ fun a ρ => turnS (k a ρ) t := by
  funext h
  unfold turnS bndS
  cases x h <;> rfl
theorem endB_bndS {α : Type} (x : M α) (ρ : Rho) (k : α → MS) : endB (bndS x ρ k) = bnd x fun a => endB (k a ρ) := by
  funext h
  unfold endB bndS bnd
  cases x h <;> rfl
theorem seqS_seqS (o : HS → OutS) (s t : MS) : seqS (seqS o s) t = seqS o fun ρ => seqS (s ρ) t := by
  funext h
  unfold seqS
  cases o h with
  | ok f _ _ => cases f <;> rfl
  | err _ _ _ _ => rfl
  | stuck => rfl
theorem turnS_if {c : Prop} [Decidable c] (a b : HS → OutS) (t : MS) : turnS (if c then a else b) t = if c then turnS a t else turnS b t := by split <;> rfl
theorem turnS_seqS (o : HS → OutS) (s t : MS) : turnS (seqS o s) t = turnS (seqS o s) t := rfl
theorem draw_ends (n : Int) (h0 : 0 < n) : Ends (mDraw [tok, .int n]) fun d => ∃ r, d = .int r ∧ 0 ≤ r ∧ r < n := fun h => by
  obtain ⟨r, h', e, a, b⟩ := draw_is n h0 h
  exact ⟨_, h', e, r, rfl, a, b⟩
end L2.AR
set_option Elab.async false
set_option linter.all false
set_option maxRecDepth 100000
set_option maxHeartbeats 8000000
namespace L2.AR.T
open PySem PySem.Spec PyProof.Rows

def topS (i : Nat) : Stmt := PySem.Challenge.pw_asinrealtime_k74_families_counted.main.body.getD i (.Pass ⟨0, 0, 0, 0⟩)
abbrev st_told_plainly : Stmt := topS 2
theorem sc_told_plainly : FnScope ["thing", "inner"] ["thing"] (defScope st_told_plainly) := ⟨rfl, rfl, rfl, by decide +kernel, rfl, by decide +kernel, by decide +kernel⟩
abbrev st_is_int : Stmt := topS 8
theorem sc_is_int : FnScope ["x"] ["x"] (defScope st_is_int) := ⟨rfl, rfl, rfl, by decide +kernel, rfl, by decide +kernel, by decide +kernel⟩
abbrev st_plain_form : Stmt := topS 9
theorem sc_plain_form : FnScope ["x"] ["x"] (defScope st_plain_form) := ⟨rfl, rfl, rfl, by decide +kernel, rfl, by decide +kernel, by decide +kernel⟩
abbrev st_check_number : Stmt := topS 10
theorem sc_check_number : FnScope ["x", "least"] ["x", "least"] (defScope st_check_number) := ⟨rfl, rfl, rfl, by decide +kernel, rfl, by decide +kernel, by decide +kernel⟩
abbrev st_are_beats : Stmt := topS 12
theorem sc_are_beats : FnScope ["told", "part"] ["told"] (defScope st_are_beats) := ⟨rfl, rfl, rfl, by decide +kernel, rfl, by decide +kernel, by decide +kernel⟩
abbrev st_check_beats : Stmt := topS 13
theorem sc_check_beats : FnScope ["beats", "told"] ["beats"] (defScope st_check_beats) := ⟨rfl, rfl, rfl, by decide +kernel, rfl, by decide +kernel, by decide +kernel⟩
abbrev st_are_fixed : Stmt := topS 16
theorem sc_are_fixed : FnScope ["beats", "other"] ["beats", "other"] (defScope st_are_fixed) := ⟨rfl, rfl, rfl, by decide +kernel, rfl, by decide +kernel, by decide +kernel⟩
abbrev st_are_narrow : Stmt := topS 17
theorem sc_are_narrow : FnScope ["beats", "other"] ["beats", "other"] (defScope st_are_narrow) := ⟨rfl, rfl, rfl, by decide +kernel, rfl, by decide +kernel, by decide +kernel⟩
abbrev st_ever_meet : Stmt := topS 18
theorem sc_ever_meet : FnScope ["beats", "other", "told", "other_told", "common", "rest"] ["beats", "other"] (defScope st_ever_meet) := ⟨rfl, rfl, rfl, by decide +kernel, rfl, by decide +kernel, by decide +kernel⟩
abbrev st_inverse_of : Stmt := topS 19
theorem sc_inverse_of : FnScope ["a", "b", "high", "low", "x", "y", "times"] ["a", "b"] (defScope st_inverse_of) := ⟨rfl, rfl, rfl, by decide +kernel, rfl, by decide +kernel, by decide +kernel⟩
abbrev st_family_of : Stmt := topS 20
theorem sc_family_of : FnScope ["beats", "other", "apart", "common", "a", "b", "m", "rest", "least", "first"] ["beats", "other", "apart"] (defScope st_family_of) := ⟨rfl, rfl, rfl, by decide +kernel, rfl, by decide +kernel, by decide +kernel⟩
abbrev st_families_of : Stmt := topS 21
theorem sc_families_of : FnScope ["beats", "other", "common", "low", "start", "apart"] ["beats", "other"] (defScope st_families_of) := ⟨rfl, rfl, rfl, by decide +kernel, rfl, by decide +kernel, by decide +kernel⟩
abbrev st_met_families : Stmt := topS 22
theorem sc_met_families : FnScope ["beats", "other", "told", "other_told"] ["beats", "other"] (defScope st_met_families) := ⟨rfl, rfl, rfl, by decide +kernel, rfl, by decide +kernel, by decide +kernel⟩
abbrev st_pairs_within : Stmt := topS 23
theorem sc_pairs_within : FnScope ["families", "k", "total", "apart", "i", "j", "di", "dj"] ["families", "k"] (defScope st_pairs_within) := ⟨rfl, rfl, rfl, by decide +kernel, rfl, by decide +kernel, by decide +kernel⟩
abbrev st_met_number : Stmt := topS 24
theorem sc_met_number : FnScope ["beats", "other", "k", "told", "other_told"] ["beats", "other", "k"] (defScope st_met_number) := ⟨rfl, rfl, rfl, by decide +kernel, rfl, by decide +kernel, by decide +kernel⟩
abbrev st_first_of_families : Stmt := topS 25
theorem sc_first_of_families : FnScope ["families", "family"] ["families"] (defScope st_first_of_families) := ⟨rfl, rfl, rfl, by decide +kernel, rfl, by decide +kernel, by decide +kernel⟩
abbrev st_first_met : Stmt := topS 26
theorem sc_first_met : FnScope ["beats", "other", "told", "other_told"] ["beats", "other"] (defScope st_first_met) := ⟨rfl, rfl, rfl, by decide +kernel, rfl, by decide +kernel, by decide +kernel⟩
abbrev st__law_hand : Stmt := topS 28
theorem sc__law_hand : FnScope ["script", "row", "at", "left", "turn"] ["script"] (defScope st__law_hand) := ⟨rfl, rfl, rfl, by decide +kernel, rfl, by decide +kernel, by decide +kernel⟩
abbrev st__law_draw : Stmt := topS 29
theorem sc__law_draw : FnScope ["hand", "many", "at"] ["hand", "many"] (defScope st__law_draw) := ⟨rfl, rfl, rfl, by decide +kernel, rfl, by decide +kernel, by decide +kernel⟩
abbrev st__law_just : Stmt := topS 30
theorem sc__law_just : FnScope ["told", "due"] ["told", "due"] (defScope st__law_just) := ⟨rfl, rfl, rfl, by decide +kernel, rfl, by decide +kernel, by decide +kernel⟩
abbrev st__law_common : Stmt := topS 31
theorem sc__law_common : FnScope ["a", "b", "turn"] ["a", "b"] (defScope st__law_common) := ⟨rfl, rfl, rfl, by decide +kernel, rfl, by decide +kernel, by decide +kernel⟩
abbrev st__law_small_row : Stmt := topS 32
theorem sc__law_small_row : FnScope ["hand", "c", "p"] ["hand"] (defScope st__law_small_row) := ⟨rfl, rfl, rfl, by decide +kernel, rfl, by decide +kernel, by decide +kernel⟩
abbrev st__law_families : Stmt := topS 33
theorem sc__law_families : FnScope ["one", "other", "common", "firsts", "i", "told", "apart", "j"] ["one", "other"] (defScope st__law_families) := ⟨rfl, rfl, rfl, by decide +kernel, rfl, by decide +kernel, by decide +kernel⟩
abbrev st__law_many : Stmt := topS 34
theorem sc__law_many : FnScope ["families", "k", "total", "apart", "i", "j", "di", "dj"] ["families", "k"] (defScope st__law_many) := ⟨rfl, rfl, rfl, by decide +kernel, rfl, by decide +kernel, by decide +kernel⟩
abbrev st__law_tried : Stmt := topS 35
theorem sc__law_tried : FnScope ["one", "other", "k", "total", "i", "j", "apart"] ["one", "other", "k"] (defScope st__law_tried) := ⟨rfl, rfl, rfl, by decide +kernel, rfl, by decide +kernel, by decide +kernel⟩
abbrev st__law_heard_beats : Stmt := topS 36
theorem sc__law_heard_beats : FnScope ["which", "one", "other", "k", "heard", "error"] ["which", "one", "other", "k"] (defScope st__law_heard_beats) := ⟨rfl, rfl, rfl, by decide +kernel, rfl, by decide +kernel, by decide +kernel⟩
abbrev st__law_two_right : Stmt := topS 37
theorem sc__law_two_right : FnScope ["hand", "one", "other", "families", "first", "given", "back", "turned", "k", "apart", "i", "j", "di", "dj", "family"] ["hand", "one", "other", "families"] (defScope st__law_two_right) := ⟨rfl, rfl, rfl, by decide +kernel, rfl, by decide +kernel, by decide +kernel⟩
abbrev st__law_small_right : Stmt := topS 38
theorem sc__law_small_right : FnScope ["hand", "families", "k", "one", "other"] ["hand"] (defScope st__law_small_right) := ⟨rfl, rfl, rfl, by decide +kernel, rfl, by decide +kernel, by decide +kernel⟩
abbrev st__law_great_right : Stmt := topS 39
theorem sc__law_great_right : FnScope ["hand", "common", "a", "b", "s", "t", "apart", "i", "j", "late", "one", "other"] ["hand"] (defScope st__law_great_right) := ⟨rfl, rfl, rfl, by decide +kernel, rfl, by decide +kernel, by decide +kernel⟩
abbrev st__law_wide_right : Stmt := topS 40
theorem sc__law_wide_right : FnScope ["hand", "due", "apart", "wide", "which", "c", "half", "one", "other", "m"] ["hand"] (defScope st__law_wide_right) := ⟨rfl, rfl, rfl, by decide +kernel, rfl, by decide +kernel, by decide +kernel⟩
abbrev st__law_refused : Stmt := topS 41
theorem sc__law_refused : FnScope ["hand", "bads", "which", "k", "good", "wide", "drift", "at", "bad", "due", "pairs", "one", "other"] ["hand"] (defScope st__law_refused) := ⟨rfl, rfl, rfl, by decide +kernel, rfl, by decide +kernel, by decide +kernel⟩
abbrev st_law : Stmt := topS 42
theorem sc_law : FnScope ["script", "hand"] ["script"] (defScope st_law) := ⟨rfl, rfl, rfl, by decide +kernel, rfl, by decide +kernel, by decide +kernel⟩
abbrev st_init_BadNumber : Stmt := inClass (topS 4) 0
theorem sc_init_BadNumber : FnScope ["self", "at"] ["self", "at"] (defScope st_init_BadNumber) := ⟨rfl, rfl, rfl, by decide +kernel, rfl, by decide +kernel, by decide +kernel⟩
abbrev st_init_BadBounds : Stmt := inClass (topS 5) 0
theorem sc_init_BadBounds : FnScope ["self", "at"] ["self", "at"] (defScope st_init_BadBounds) := ⟨rfl, rfl, rfl, by decide +kernel, rfl, by decide +kernel, by decide +kernel⟩
abbrev st_init_BadCase : Stmt := inClass (topS 6) 0
theorem sc_init_BadCase : FnScope ["self", "at"] ["self", "at"] (defScope st_init_BadCase) := ⟨rfl, rfl, rfl, by decide +kernel, rfl, by decide +kernel, by decide +kernel⟩

/-! ### what the defs say -/
/-- the j-th class is a base of the c-th, or itself -/
def isX (j c : Nat) : Bool := (j == 0 && (c == 0)) || (j == 1 && (c == 1)) || (j == 2 && (c == 2)) || (j == 3 && (c == 0 || c == 1 || c == 2 || c == 3))
def fldOf (c : Nat) : Str := ["at", "at", "at"].getD c "at"
def clOf (ad : Nat → Addr) (c : Nat) : Addr := ad (35 + c)
def m__law_draw : List D → M D := mDraw
def mId : List D → M D
  | [d] => ret d
  | _ => stk
def m_told_plainly : List D → M D := mPlain 12
def s_is_int : MS :=
 (sRet (vAn (cI ["int"] (gVar 0)) (vNo (cI ["bool"] (gVar 0)))))
def m_is_int : List D → M D := runB 1 1 s_is_int
def s_plain_form : MS :=
 (sRet (cM m_told_plainly (aC (gVar 0) aN)))
def m_plain_form : List D → M D := runB 1 1 s_plain_form
def s_check_number : MS :=
 (sSeq (sIf (tNo (tV (cM m_is_int (aC (gVar 0) aN))))
 (sRaise 0 fun ρ => bnd ((gVar 0) ρ) fun d => nerr (bnd (m_told_plainly [d]) fun z => if isTok z then stk else ret z))
 sSkip)
 (sSeq (sIf (tV (b2 fLt (gVar 0) (gVar 1)))
 (sRaise 0 fun ρ => bnd ((gVar 0) ρ) fun d => nerr (bnd (m_told_plainly [d]) fun z => if isTok z then stk else ret z))
 sSkip)
 (sRet (gVar 0))))
def m_check_number : List D → M D := runB 2 2 s_check_number
def s_are_beats : MS :=
 (sSeq (sIf (tOr' (tNo (tV (cI ["tuple"] (gVar 0)))) (tV (b2 fNe (cA fLen (aC (gVar 0) aN)) (cK (.int 4)))))
 (sRet (cK (.bool false)))
 sSkip)
 (sSeq (sIf (tOr' (tNo (tV (cI ["str"] (b2 fIx (gVar 0) (cK (.int 0)))))) (tV (b2 (fIn true) (b2 fIx (gVar 0) (cK (.int 0))) (cA mkTup (aC (cK (.str "fixed")) (aC (cK (.str "drift")) aN))))))
 (sRet (cK (.bool false)))
 sSkip)
 (sSeq (sFor (sl (gVar 0) (oSo (cK (.int 1))) oNo) (tgN 1)
 (sIf (tOr' (tNo (tV (cM m_is_int (aC (gVar 1) aN)))) (tV (b2 fLt (gVar 1) (cK (.int 0)))))
 (sRet (cK (.bool false)))
 sSkip))
 (sSeq (sIf (tV (b2 fLt (b2 fIx (gVar 0) (cK (.int 2))) (cK (.int 1))))
 (sRet (cK (.bool false)))
 sSkip)
 (sRet (vOr (b2 fEq (b2 fIx (gVar 0) (cK (.int 0))) (cK (.str "fixed"))) (b2 fLe (b2 fIx (gVar 0) (cK (.int 2))) (b2 fIx (gVar 0) (cK (.int 3))))))))))
def m_are_beats : List D → M D := runB 2 1 s_are_beats
def s_check_beats : MS :=
 (sSeq (sSet 1 (cM m_plain_form (aC (gVar 0) aN)))
 (sSeq (sIf (tNo (tV (cM m_are_beats (aC (gVar 1) aN))))
 (sRaise 1 fun ρ => bnd ((gVar 0) ρ) fun d => nerr (bnd (m_told_plainly [d]) fun z => if isTok z then stk else ret z))
 sSkip)
 (sRet (gVar 1))))
def m_check_beats : List D → M D := runB 2 1 s_check_beats
def s_are_fixed : MS :=
 (sRet (vAn (b2 fEq (b2 fIx (gVar 0) (cK (.int 0))) (cK (.str "fixed"))) (b2 fEq (b2 fIx (gVar 1) (cK (.int 0))) (cK (.str "fixed")))))
def m_are_fixed : List D → M D := runB 2 2 s_are_fixed
def s_are_narrow : MS :=
 (sRet (b2 fLe (b2 fAdd (b2 fIx (gVar 0) (cK (.int 3))) (b2 fIx (gVar 1) (cK (.int 3)))) (cK (.int 2000))))
def m_are_narrow : List D → M D := runB 2 2 s_are_narrow
def s_ever_meet : MS :=
 (sSeq (sSet 2 (cM m_check_beats (aC (gVar 0) aN)))
 (sSeq (sSet 3 (cM m_check_beats (aC (gVar 1) aN)))
 (sSeq (sIf (tNo (tV (cM m_are_fixed (aC (gVar 2) (aC (gVar 3) aN)))))
 (sRaise 2 fun ρ => bnd ((cK (.str "fixed")) ρ) fun d => nerr (bnd (m_told_plainly [d]) fun z => if isTok z then stk else ret z))
 sSkip)
 (sSeq (sSet 4 (cA fGcd (aC (b2 fIx (gVar 2) (cK (.int 2))) (aC (b2 fIx (gVar 3) (cK (.int 2))) aN))))
 (sSeq (sSet 5 (b2 fMod (cA fInt (aC (b2 fSub (b2 fIx (gVar 2) (cK (.int 1))) (b2 fIx (gVar 3) (cK (.int 1)))) aN)) (gVar 4)))
 (sRet (vOr (b2 fLe (gVar 5) (b2 fIx (gVar 3) (cK (.int 3)))) (b2 fLe (b2 fSub (gVar 4) (gVar 5)) (b2 fIx (gVar 2) (cK (.int 3)))))))))))
def m_ever_meet : List D → M D := runB 6 2 s_ever_meet
def s_inverse_of : MS :=
 (sSeq (sPar 2 3 (aC (cA fInt (aC (gVar 1) aN)) (aC (b2 fMod (cA fInt (aC (gVar 0) aN)) (cA fInt (aC (gVar 1) aN))) aN)))
 (sSeq (sAsg (cA mkTup (aC (cK (.int 0)) (aC (cK (.int 1)) aN))) (tgT [(tgN 4), (tgN 5)]))
 (sSeq (loopW (tV (b2 fGt (gVar 3) (cK (.int 0))))
 (sSeq (sSet 6 (b2 fDiv (gVar 2) (gVar 3)))
 (sSeq (sPar 2 3 (aC (gVar 3) (aC (b2 fSub (gVar 2) (b2 fMul (gVar 6) (gVar 3))) aN)))
 (sPar 4 5 (aC (gVar 5) (aC (b2 fSub (gVar 4) (b2 fMul (gVar 6) (gVar 5))) aN))))) 1000)
 (sRet (b2 fMod (cA fInt (aC (gVar 4) aN)) (cA fInt (aC (gVar 1) aN)))))))
def m_inverse_of : List D → M D := runB 7 2 s_inverse_of
def s_family_of : MS :=
 (sSeq (sSet 3 (cA fGcd (aC (b2 fIx (gVar 0) (cK (.int 2))) (aC (b2 fIx (gVar 1) (cK (.int 2))) aN))))
 (sSeq (sSet 4 (b2 fDiv (b2 fIx (gVar 0) (cK (.int 2))) (gVar 3)))
 (sSeq (sSet 5 (b2 fDiv (b2 fIx (gVar 1) (cK (.int 2))) (gVar 3)))
 (sSeq (sSet 6 (b2 fDiv (b2 fAdd (b2 fSub (gVar 2) (b2 fIx (gVar 0) (cK (.int 1)))) (b2 fIx (gVar 1) (cK (.int 1)))) (gVar 3)))
 (sSeq (sSet 7 (b2 fMod (cA fInt (aC (b2 fMul (gVar 6) (cM m_inverse_of (aC (gVar 4) (aC (gVar 5) aN)))) aN)) (gVar 5)))
 (sSeq (sSet 8 (cA fMax (aC (cK (.int 1)) (aC (vNeg (b2 fDiv (b2 fSub (vNeg (gVar 6)) (gVar 5)) (gVar 4))) aN))))
 (sSeq (sSet 9 (b2 fAdd (gVar 8) (b2 fMod (cA fInt (aC (b2 fSub (gVar 7) (gVar 8)) aN)) (gVar 5))))
 (sRet (cA mkTup (aC (gVar 2) (aC (gVar 9) (aC (b2 fDiv (b2 fSub (b2 fMul (gVar 9) (gVar 4)) (gVar 6)) (gVar 5)) (aC (gVar 5) (aC (gVar 4) aN))))))))))))))
def m_family_of : List D → M D := runB 10 3 s_family_of
def s_families_of : MS :=
 (sSeq (sSet 2 (cA fGcd (aC (b2 fIx (gVar 0) (cK (.int 2))) (aC (b2 fIx (gVar 1) (cK (.int 2))) aN))))
 (sSeq (sSet 3 (vNeg (b2 fIx (gVar 0) (cK (.int 3)))))
 (sSeq (sSet 4 (b2 fAdd (gVar 3) (b2 fMod (cA fInt (aC (b2 fSub (b2 fSub (b2 fIx (gVar 0) (cK (.int 1))) (b2 fIx (gVar 1) (cK (.int 1)))) (gVar 3)) aN)) (gVar 2))))
 (sRet (gCompR3 [5] (aC (gVar 4) (aC (b2 fAdd (b2 fIx (gVar 1) (cK (.int 3))) (cK (.int 1))) (aC (gVar 2) aN))) (tgN 5) tYs (cM m_family_of (aC (gVar 0) (aC (gVar 1) (aC (gVar 5) aN)))))))))
def m_families_of : List D → M D := runB 6 2 s_families_of
def s_met_families : MS :=
 (sSeq (sSet 2 (cM m_check_beats (aC (gVar 0) aN)))
 (sSeq (sSet 3 (cM m_check_beats (aC (gVar 1) aN)))
 (sSeq (sIf (tNo (tV (cM m_are_fixed (aC (gVar 2) (aC (gVar 3) aN)))))
 (sRaise 2 fun ρ => bnd ((cK (.str "fixed")) ρ) fun d => nerr (bnd (m_told_plainly [d]) fun z => if isTok z then stk else ret z))
 sSkip)
 (sSeq (sIf (tNo (tV (cM m_are_narrow (aC (gVar 2) (aC (gVar 3) aN)))))
 (sRaise 2 fun ρ => bnd ((cK (.str "wide")) ρ) fun d => nerr (bnd (m_told_plainly [d]) fun z => if isTok z then stk else ret z))
 sSkip)
 (sRet (cA fTuple (aC (cM m_families_of (aC (gVar 2) (aC (gVar 3) aN))) aN)))))))
def m_met_families : List D → M D := runB 4 2 s_met_families
def s_pairs_within : MS :=
 (sSeq (sSet 2 (cK (.int 0)))
 (sSeq (sFor (gVar 0) (tgT [(tgN 3), (tgN 4), (tgN 5), (tgN 6), (tgN 7)])
 (sSet 2 (b2 fAdd (gVar 2) (cA fMax (aC (cK (.int 0)) (aC (b2 fAdd (cK (.int 1)) (cA fMin (aC (b2 fDiv (b2 fSub (gVar 1) (gVar 4)) (gVar 6)) (aC (b2 fDiv (b2 fSub (gVar 1) (gVar 5)) (gVar 7)) aN)))) aN))))))
 (sRet (gVar 2))))
def m_pairs_within : List D → M D := runB 8 2 s_pairs_within
def s_met_number : MS :=
 (sSeq (sSet 3 (cM m_check_beats (aC (gVar 0) aN)))
 (sSeq (sSet 4 (cM m_check_beats (aC (gVar 1) aN)))
 (sSeq (sDo (cM m_check_number (aC (gVar 2) (aC (cK (.int 0)) aN))))
 (sSeq (sIf (tNo (tV (cM m_are_fixed (aC (gVar 3) (aC (gVar 4) aN)))))
 (sRaise 2 fun ρ => bnd ((cK (.str "fixed")) ρ) fun d => nerr (bnd (m_told_plainly [d]) fun z => if isTok z then stk else ret z))
 sSkip)
 (sSeq (sIf (tNo (tV (cM m_are_narrow (aC (gVar 3) (aC (gVar 4) aN)))))
 (sRaise 2 fun ρ => bnd ((cK (.str "wide")) ρ) fun d => nerr (bnd (m_told_plainly [d]) fun z => if isTok z then stk else ret z))
 sSkip)
 (sRet (cM m_pairs_within (aC (cM m_families_of (aC (gVar 3) (aC (gVar 4) aN))) (aC (gVar 2) aN)))))))))
def m_met_number : List D → M D := runB 5 3 s_met_number
def s_first_of_families : MS :=
 (sSeq (sIf (tV (b2 fEq (cA fLen (aC (gVar 0) aN)) (cK (.int 0))))
 (sRet (cK .none))
 sSkip)
 (sRet (cA fMinL (aC (gComp [1] (gVar 0) (tgN 1) tYs (cA fMax (aC (b2 fIx (gVar 1) (cK (.int 1))) (aC (b2 fIx (gVar 1) (cK (.int 2))) aN)))) aN))))
def m_first_of_families : List D → M D := runB 2 1 s_first_of_families
def s_first_met : MS :=
 (sSeq (sSet 2 (cM m_check_beats (aC (gVar 0) aN)))
 (sSeq (sSet 3 (cM m_check_beats (aC (gVar 1) aN)))
 (sSeq (sIf (tNo (tV (cM m_are_fixed (aC (gVar 2) (aC (gVar 3) aN)))))
 (sRaise 2 fun ρ => bnd ((cK (.str "fixed")) ρ) fun d => nerr (bnd (m_told_plainly [d]) fun z => if isTok z then stk else ret z))
 sSkip)
 (sSeq (sIf (tNo (tV (cM m_are_narrow (aC (gVar 2) (aC (gVar 3) aN)))))
 (sRaise 2 fun ρ => bnd ((cK (.str "wide")) ρ) fun d => nerr (bnd (m_told_plainly [d]) fun z => if isTok z then stk else ret z))
 sSkip)
 (sRet (cM m_first_of_families (aC (cM m_families_of (aC (gVar 2) (aC (gVar 3) aN))) aN)))))))
def m_first_met : List D → M D := runB 4 2 s_first_met
def s__law_just : MS :=
 (sRet (vAn (b2 fEq (gVar 0) (gVar 1)) (b2 fEq (cA fRepr (aC (gVar 0) aN)) (cA fRepr (aC (gVar 1) aN)))))
def m__law_just : List D → M D := runB 2 2 s__law_just
def s__law_common : MS :=
 (sSeq (sForR (aC (cK (.int 200)) aN) (tgN 2)
 (sSeq (sIf (tV (b2 fEq (gVar 1) (cK (.int 0))))
 sBrk
 sSkip)
 (sPar 0 1 (aC (gVar 1) (aC (b2 fMod (cA fInt (aC (gVar 0) aN)) (cA fInt (aC (gVar 1) aN))) aN)))))
 (sRet (gVar 0)))
def m__law_common : List D → M D := runB 3 2 s__law_common
def s__law_small_row : MS :=
 (sSeq (sSet 1 (b2 fIx (cA mkTup (aC (cK (.int 0)) (aC (cK (.int 2)) (aC (cK (.int 5)) (aC (cK (.int 1)) (aC (cK (.int 13)) (aC (cK (.int 20)) aN))))))) (cM m__law_draw (aC (gVar 0) (aC (cK (.int 6)) aN)))))
 (sSeq (sSet 2 (b2 fIx (cA mkTup (aC (cK (.int 6)) (aC (cK (.int 4)) (aC (cK (.int 9)) (aC (cK (.int 1)) (aC (cK (.int 2)) (aC (cK (.int 3)) (aC (cK (.int 5)) (aC (cK (.int 7)) (aC (cK (.int 8)) (aC (cK (.int 10)) (aC (cK (.int 11)) (aC (cK (.int 12)) aN))))))))))))) (cM m__law_draw (aC (gVar 0) (aC (cK (.int 12)) aN)))))
 (sRet (cA mkTup (aC (cK (.str "fixed")) (aC (gVar 1) (aC (gVar 2) (aC (b2 fIx (cA mkTup (aC (cK (.int 1)) (aC (cK (.int 0)) (aC (cK (.int 2)) (aC (cK (.int 5)) (aC (cK (.int 3)) aN)))))) (cM m__law_draw (aC (gVar 0) (aC (cK (.int 5)) aN)))) aN))))))))
def m__law_small_row : List D → M D := runB 3 1 s__law_small_row
def s__law_families : MS :=
 (sSeq (sSet 2 (cM m__law_common (aC (b2 fIx (gVar 0) (cK (.int 2))) (aC (b2 fIx (gVar 1) (cK (.int 2))) aN))))
 (sSeq (sNewD 3)
 (sSeq (sForR (aC (cK (.int 1)) (aC (cK (.int 61)) aN)) (tgN 4)
 (sForR (aC (cK (.int 1)) (aC (cK (.int 61)) aN)) (tgN 7)
 (sSeq (sSet 6 (b2 fSub (b2 fSub (b2 fAdd (b2 fIx (gVar 0) (cK (.int 1))) (b2 fMul (gVar 4) (b2 fIx (gVar 0) (cK (.int 2))))) (b2 fIx (gVar 1) (cK (.int 1)))) (b2 fMul (gVar 7) (b2 fIx (gVar 1) (cK (.int 2))))))
 (sIf (tAn (tV (ch3 fLe fLe (vNeg (b2 fIx (gVar 0) (cK (.int 3)))) (gVar 6) (b2 fIx (gVar 1) (cK (.int 3))))) (tV (gInD true 3 (gVar 6))))
 (sPutD 3 (gVar 6) (cA mkTup (aC (gVar 4) (aC (gVar 7) aN))))
 sSkip))))
 (sSeq (sNew 5)
 (sSeq (sFor (gSortD 3) (tgN 6)
 (sApp 5 (b2 fAdd (b2 fAdd (cA mkTup (aC (gVar 6) aN)) (gGetD 3 (gVar 6))) (cA mkTup (aC (b2 fDiv (b2 fIx (gVar 1) (cK (.int 2))) (gVar 2)) (aC (b2 fDiv (b2 fIx (gVar 0) (cK (.int 2))) (gVar 2)) aN))))))
 (sSeq (sFrz 5) (sRet (cA fTuple (aC (gVar 5) aN)))))))))
def m__law_families : List D → M D := runB 8 2 s__law_families
def s__law_many : MS :=
 (sSeq (sSet 2 (cK (.int 0)))
 (sSeq (sFor (gVar 0) (tgT [(tgN 3), (tgN 4), (tgN 5), (tgN 6), (tgN 7)])
 (sIf (tAn (tV (b2 fLe (gVar 4) (gVar 1))) (tV (b2 fLe (gVar 5) (gVar 1))))
 (sSet 2 (b2 fAdd (b2 fAdd (gVar 2) (cK (.int 1))) (cA fMin (aC (b2 fDiv (b2 fSub (gVar 1) (gVar 4)) (cA fMax (aC (cK (.int 1)) (aC (gVar 6) aN)))) (aC (b2 fDiv (b2 fSub (gVar 1) (gVar 5)) (cA fMax (aC (cK (.int 1)) (aC (gVar 7) aN)))) aN)))))
 sSkip))
 (sRet (gVar 2))))
def m__law_many : List D → M D := runB 8 2 s__law_many
def s__law_tried : MS :=
 (sSeq (sSet 3 (cK (.int 0)))
 (sSeq (sForR (aC (cK (.int 1)) (aC (b2 fAdd (gVar 2) (cK (.int 1))) aN)) (tgN 4)
 (sForR (aC (cK (.int 1)) (aC (b2 fAdd (gVar 2) (cK (.int 1))) aN)) (tgN 5)
 (sSeq (sSet 6 (b2 fSub (b2 fSub (b2 fAdd (b2 fIx (gVar 0) (cK (.int 1))) (b2 fMul (gVar 4) (b2 fIx (gVar 0) (cK (.int 2))))) (b2 fIx (gVar 1) (cK (.int 1)))) (b2 fMul (gVar 5) (b2 fIx (gVar 1) (cK (.int 2))))))
 (sIf (tV (ch3 fLe fLe (vNeg (b2 fIx (gVar 0) (cK (.int 3)))) (gVar 6) (b2 fIx (gVar 1) (cK (.int 3)))))
 (sSet 3 (b2 fAdd (gVar 3) (cK (.int 1))))
 sSkip))))
 (sRet (gVar 3))))
def m__law_tried : List D → M D := runB 7 3 s__law_tried
def s__law_heard_beats : MS :=
 (sSeq (sSet 4 (cA mkTup (aC (cK (.str "nothing")) aN)))
 (sSeq (sTry 3 (sIf (tV (b2 fEq (gVar 0) (cK (.int 0))))
 (sSet 4 (cA mkTup (aC (cK (.str "told")) (aC (cM m_met_families (aC (gVar 1) (aC (gVar 2) aN))) aN))))
 (sIf (tV (b2 fEq (gVar 0) (cK (.int 1))))
 (sSet 4 (cA mkTup (aC (cK (.str "told")) (aC (cM m_first_met (aC (gVar 1) (aC (gVar 2) aN))) aN))))
 (sIf (tV (b2 fEq (gVar 0) (cK (.int 2))))
 (sSet 4 (cA mkTup (aC (cK (.str "told")) (aC (cM m_ever_meet (aC (gVar 1) (aC (gVar 2) aN))) aN))))
 (sSet 4 (cA mkTup (aC (cK (.str "told")) (aC (cM m_met_number (aC (gVar 1) (aC (gVar 2) (aC (gVar 3) aN)))) aN)))))))
 [⟨isX 1, some 5, (sSet 4 (cA mkTup (aC (cK (.str "bounds")) (aC (gExc [1] (fun _ x => ret x) 5) (aC (gExc [1] (fun c _ => ret (.bool ((isX 3) c))) 5) (aC (gExc [1] (fun c _ => ret (.bool ((isX 0) c || (isX 2) c))) 5) aN))))))⟩,
 ⟨isX 0, some 5, (sSet 4 (cA mkTup (aC (cK (.str "number")) (aC (gExc [0] (fun _ x => ret x) 5) (aC (gExc [0] (fun c _ => ret (.bool ((isX 3) c))) 5) (aC (gExc [0] (fun c _ => ret (.bool ((isX 1) c || (isX 2) c))) 5) aN))))))⟩,
 ⟨isX 2, some 5, (sSet 4 (cA mkTup (aC (cK (.str "case")) (aC (gExc [2] (fun _ x => ret x) 5) (aC (gExc [2] (fun c _ => ret (.bool ((isX 3) c))) 5) (aC (gExc [2] (fun c _ => ret (.bool ((isX 0) c || (isX 1) c))) 5) aN))))))⟩,
 ⟨isX 3, none, (sSet 4 (cA mkTup (aC (cK (.str "else")) aN)))⟩])
 (sRet (gVar 4))))
def m__law_heard_beats : List D → M D := runB 6 4 s__law_heard_beats
def s__law_two_right : MS :=
 (sSeq (sSet 4 (cK .none))
 (sSeq (sIf (tV (b2 fGt (cA fLen (aC (gVar 3) aN)) (cK (.int 0))))
 (sSet 4 (cA fMinL (aC (gComp [14] (gVar 3) (tgN 14) tYs (cA fMax (aC (b2 fIx (gVar 14) (cK (.int 1))) (aC (b2 fIx (gVar 14) (cK (.int 2))) aN)))) aN)))
 sSkip)
 (sSeq (sSet 5 (b2 fIx (cA mkTup (aC (gVar 1) (aC (cA fList (aC (gVar 1) aN)) aN))) (cM m__law_draw (aC (gVar 0) (aC (cK (.int 2)) aN)))))
 (sSeq (sSet 6 (b2 fIx (cA mkTup (aC (cA fList (aC (gVar 2) aN)) (aC (gVar 2) aN))) (cM m__law_draw (aC (gVar 0) (aC (cK (.int 2)) aN)))))
 (sSeq (sIf (tNo (tV (cM m__law_just (aC (cM m__law_heard_beats (aC (cK (.int 0)) (aC (gVar 5) (aC (gVar 6) (aC (cK (.int 0)) aN))))) (aC (cA mkTup (aC (cK (.str "told")) (aC (gVar 3) aN))) aN)))))
 (sRet (cK (.bool false)))
 sSkip)
 (sSeq (sIf (tNo (tV (cM m__law_just (aC (cM m__law_heard_beats (aC (cK (.int 1)) (aC (gVar 5) (aC (gVar 6) (aC (cK (.int 0)) aN))))) (aC (cA mkTup (aC (cK (.str "told")) (aC (gVar 4) aN))) aN)))))
 (sRet (cK (.bool false)))
 sSkip)
 (sSeq (sIf (tNo (tV (cM m__law_just (aC (cM m__law_heard_beats (aC (cK (.int 2)) (aC (gVar 5) (aC (gVar 6) (aC (cK (.int 0)) aN))))) (aC (cA mkTup (aC (cK (.str "told")) (aC (b2 fGt (cA fLen (aC (gVar 3) aN)) (cK (.int 0))) aN))) aN)))))
 (sRet (cK (.bool false)))
 sSkip)
 (sSeq (sNew 7)
 (sSeq (sFor (gVar 3) (tgT [(tgN 9), (tgN 10), (tgN 11), (tgN 12), (tgN 13)])
 (sApp 7 (cA mkTup (aC (vNeg (gVar 9)) (aC (gVar 11) (aC (gVar 10) (aC (gVar 13) (aC (gVar 12) aN))))))))
 (sSeq (sFrz 7) (sSeq (sIf (tNo (tV (cM m__law_just (aC (cM m__law_heard_beats (aC (cK (.int 0)) (aC (gVar 6) (aC (gVar 5) (aC (cK (.int 0)) aN))))) (aC (cA mkTup (aC (cK (.str "told")) (aC (cA fTuple (aC (cA fSortT (aC (gVar 7) aN)) aN)) aN))) aN)))))
 (sRet (cK (.bool false)))
 sSkip)
 (sSeq (sFor (cA mkTup (aC (b2 fPow (cK (.int 10)) (cK (.int 9))) (aC (b2 fAdd (b2 fMul (cA fInt (aC (cM m__law_draw (aC (gVar 0) (aC (cK (.int 30)) aN))) aN)) (cK (.int 1000))) (cK (.int 999))) (aC (b2 fAdd (b2 fPow (cK (.int 10)) (cK (.int 6))) (cM m__law_draw (aC (gVar 0) (aC (cK (.int 30)) aN)))) aN)))) (tgN 8)
 (sIf (tNo (tV (cM m__law_just (aC (cM m__law_heard_beats (aC (cK (.int 3)) (aC (gVar 5) (aC (gVar 6) (aC (gVar 8) aN))))) (aC (cA mkTup (aC (cK (.str "told")) (aC (cM m__law_many (aC (gVar 3) (aC (gVar 8) aN))) aN))) aN)))))
 (sRet (cK (.bool false)))
 sSkip))
 (sRet (cM m__law_just (aC (gVar 5) (aC (b2 fIx (cA mkTup (aC (cA fList (aC (gVar 1) aN)) (aC (gVar 1) aN))) (cA fInt (aC (b2 fEq (gVar 5) (gVar 1)) aN))) aN))))))))))))))))
def m__law_two_right : List D → M D := runB 15 4 s__law_two_right
def s__law_small_right : MS :=
 (sSeq (sPar 3 4 (aC (cM m__law_small_row (aC (gVar 0) aN)) (aC (cM m__law_small_row (aC (gVar 0) aN)) aN)))
 (sSeq (sSet 1 (cM m__law_families (aC (gVar 3) (aC (gVar 4) aN))))
 (sSeq (sFor (cA mkTup (aC (b2 fAdd (b2 fMod (cA fInt (aC (cM m__law_draw (aC (gVar 0) (aC (cK (.int 30)) aN))) aN)) (cK (.int 21))) (cK (.int 5))) (aC (cM m__law_draw (aC (gVar 0) (aC (cK (.int 6)) aN))) aN))) (tgN 2)
 (sIf (tNo (tV (cM m__law_just (aC (cM m__law_heard_beats (aC (cK (.int 3)) (aC (gVar 3) (aC (gVar 4) (aC (gVar 2) aN))))) (aC (cA mkTup (aC (cK (.str "told")) (aC (cM m__law_tried (aC (gVar 3) (aC (gVar 4) (aC (gVar 2) aN)))) aN))) aN)))))
 (sRet (cK (.bool false)))
 sSkip))
 (sRet (cM m__law_two_right (aC (gVar 0) (aC (gVar 3) (aC (gVar 4) (aC (gVar 1) aN)))))))))
def m__law_small_right : List D → M D := runB 5 1 s__law_small_right
def s__law_great_right : MS :=
 (sSeq (sSet 1 (b2 fIx (cA mkTup (aC (cK (.int 6)) (aC (cK (.int 300)) (aC (cK (.int 1)) (aC (cK (.int 17)) (aC (cK (.int 2)) aN)))))) (cM m__law_draw (aC (gVar 0) (aC (cK (.int 5)) aN)))))
 (sSeq (sSet 2 (b2 fAdd (cK (.int 2)) (b2 fMul (cK (.int 33)) (cM m__law_draw (aC (gVar 0) (aC (cK (.int 30)) aN))))))
 (sSeq (sSet 3 (b2 fAdd (b2 fMul (gVar 2) (b2 fIx (cA mkTup (aC (cK (.int 1)) (aC (cK (.int 0)) aN))) (cM m__law_draw (aC (gVar 0) (aC (cK (.int 2)) aN))))) (cK (.int 1))))
 (sSeq (sSet 4 (cM m__law_draw (aC (gVar 0) (aC (cK (.int 30)) aN))))
 (sSeq (sSet 4 (b2 fMod (cA fInt (aC (gVar 4) aN)) (gVar 1)))
 (sSeq (sSet 5 (b2 fMod (cA fInt (aC (cM m__law_draw (aC (gVar 0) (aC (cK (.int 30)) aN))) aN)) (b2 fSub (gVar 1) (gVar 4))))
 (sSeq (sSet 6 (b2 fSub (b2 fMod (cA fInt (aC (cM m__law_draw (aC (gVar 0) (aC (cK (.int 30)) aN))) aN)) (b2 fAdd (b2 fAdd (gVar 4) (gVar 5)) (cK (.int 1)))) (gVar 4)))
 (sSeq (sSet 7 (b2 fAdd (cK (.int 1)) (b2 fMod (cA fInt (aC (b2 fAdd (b2 fMul (cK (.int 33)) (cM m__law_draw (aC (gVar 0) (aC (cK (.int 30)) aN)))) (cM m__law_draw (aC (gVar 0) (aC (cK (.int 30)) aN)))) aN)) (gVar 3))))
 (sSeq (sSet 8 (b2 fAdd (cK (.int 1)) (b2 fMul (cK (.int 7)) (cM m__law_draw (aC (gVar 0) (aC (cK (.int 30)) aN))))))
 (sSeq (sIf (tV (b2 fEq (cM m__law_draw (aC (gVar 0) (aC (cK (.int 2)) aN))) (cK (.int 1))))
 (sPar 7 8 (aC (b2 fAdd (cK (.int 1)) (b2 fMul (cK (.int 7)) (cM m__law_draw (aC (gVar 0) (aC (cK (.int 30)) aN))))) (aC (b2 fAdd (cK (.int 1)) (b2 fMod (cA fInt (aC (b2 fAdd (b2 fMul (cK (.int 33)) (cM m__law_draw (aC (gVar 0) (aC (cK (.int 30)) aN)))) (cM m__law_draw (aC (gVar 0) (aC (cK (.int 30)) aN)))) aN)) (gVar 2))) aN)))
 sSkip)
 (sSeq (sSet 9 (b2 fSub (b2 fSub (b2 fMul (b2 fMul (gVar 7) (gVar 2)) (gVar 1)) (b2 fMul (b2 fMul (gVar 8) (gVar 3)) (gVar 1))) (gVar 6)))
 (sSeq (sSet 10 (cA mkTup (aC (cK (.str "fixed")) (aC (cA fMax (aC (cK (.int 0)) (aC (vNeg (gVar 9)) aN))) (aC (b2 fMul (gVar 2) (gVar 1)) (aC (gVar 4) aN))))))
 (sSeq (sSet 11 (cA mkTup (aC (cK (.str "fixed")) (aC (cA fMax (aC (cK (.int 0)) (aC (gVar 9) aN))) (aC (b2 fMul (gVar 3) (gVar 1)) (aC (gVar 5) aN))))))
 (sRet (cM m__law_two_right (aC (gVar 0) (aC (gVar 10) (aC (gVar 11) (aC (cA mkTup (aC (cA mkTup (aC (gVar 6) (aC (gVar 7) (aC (gVar 8) (aC (gVar 3) (aC (gVar 2) aN)))))) aN)) aN)))))))))))))))))))
def m__law_great_right : List D → M D := runB 12 1 s__law_great_right
def s__law_wide_right : MS :=
 (sSeq (sPar 5 6 (aC (cM m__law_draw (aC (gVar 0) (aC (cK (.int 30)) aN))) (aC (b2 fAdd (cK (.int 970)) (cM m__law_draw (aC (gVar 0) (aC (cK (.int 30)) aN)))) aN)))
 (sSeq (sPar 7 8 (aC (cA mkTup (aC (cK (.str "fixed")) (aC (gVar 5) (aC (cK (.int 1)) (aC (gVar 6) aN))))) (aC (cA mkTup (aC (cK (.str "fixed")) (aC (cK (.int 0)) (aC (cK (.int 1)) (aC (b2 fSub (cK (.int 2000)) (gVar 6)) aN))))) aN)))
 (sSeq (sNew 1)
 (sSeq (sForR (aC (vNeg (gVar 6)) (aC (b2 fSub (cK (.int 2001)) (gVar 6)) aN)) (tgN 2)
 (sSeq (sSet 9 (b2 fSub (gVar 2) (gVar 5)))
 (sApp 1 (cA mkTup (aC (gVar 2) (aC (cA fMax (aC (cK (.int 1)) (aC (b2 fAdd (cK (.int 1)) (gVar 9)) aN))) (aC (cA fMax (aC (cK (.int 1)) (aC (b2 fSub (cK (.int 1)) (gVar 9)) aN))) (aC (cK (.int 1)) (aC (cK (.int 1)) aN)))))))))
 (sSeq (sFrz 1) (sSeq (sIf (tV (b2 fEq (cM m__law_draw (aC (gVar 0) (aC (cK (.int 6)) aN))) (cK (.int 5))))
 (sSeq (sFrz 1) (sSeq (sIf (tNo (tV (cM m__law_just (aC (cM m__law_heard_beats (aC (cK (.int 0)) (aC (gVar 7) (aC (gVar 8) (aC (cK (.int 0)) aN))))) (aC (cA mkTup (aC (cK (.str "told")) (aC (cA fTuple (aC (gVar 1) aN)) aN))) aN)))))
 (sRet (cK (.bool false)))
 sSkip)
 (sIf (tNo (tV (cM m__law_just (aC (cM m__law_heard_beats (aC (cK (.int 3)) (aC (gVar 7) (aC (gVar 8) (aC (cK (.int 7)) aN))))) (aC (cA mkTup (aC (cK (.str "told")) (aC (cK (.int 49)) aN))) aN)))))
 (sRet (cK (.bool false)))
 sSkip)))
 sSkip)
 (sSeq (sSet 3 (cA mkTup (aC (cK (.str "fixed")) (aC (cK (.int 0)) (aC (cK (.int 1)) (aC (b2 fSub (cK (.int 2001)) (gVar 6)) aN))))))
 (sSeq (sFor (cA mkTup (aC (cK (.int 0)) (aC (cK (.int 1)) (aC (cK (.int 3)) aN)))) (tgN 4)
 (sIf (tNo (tV (cM m__law_just (aC (cM m__law_heard_beats (aC (gVar 4) (aC (gVar 7) (aC (gVar 3) (aC (cK (.int 5)) aN))))) (aC (cA mkTup (aC (cK (.str "case")) (aC (cK (.str "wide")) (aC (cK (.bool true)) (aC (cK (.bool false)) aN))))) aN)))))
 (sRet (cK (.bool false)))
 sSkip))
 (sRet (cM m__law_just (aC (cM m__law_heard_beats (aC (cK (.int 2)) (aC (gVar 7) (aC (gVar 3) (aC (cK (.int 0)) aN))))) (aC (cA mkTup (aC (cK (.str "told")) (aC (cK (.bool true)) aN))) aN))))))))))))
def m__law_wide_right : List D → M D := runB 10 1 s__law_wide_right
def s__law_refused : MS :=
 (sSeq (sAsg (cA mkTup (aC (cA mkTup (aC (cK (.str "fixed")) (aC (cK (.int 0)) (aC (cK (.int 2)) (aC (cK (.int 1)) aN))))) (aC (cA mkTup (aC (cK (.str "fixed")) (aC (cK (.int 1)) (aC (cK (.int 3)) (aC (cK (.int 2500)) aN))))) (aC (cA mkTup (aC (cK (.str "drift")) (aC (cK (.int 0)) (aC (cK (.int 2)) (aC (cK (.int 3)) aN))))) aN)))) (tgT [(tgN 4), (tgN 5), (tgN 6)]))
 (sSeq (sSet 1 (cA mkTup (aC (cK .none) (aC (cK (.int 7)) (aC (cK (.str "fixed")) (aC (cA mkTup (aC (cK (.str "fixed")) (aC (cK (.int 1)) (aC (cK (.int 2)) aN)))) (aC (cA mkTup (aC (cK (.str "fixed")) (aC (vNeg (cK (.int 1))) (aC (cK (.int 2)) (aC (cK (.int 0)) aN))))) (aC (cA mkTup (aC (cK (.str "fixed")) (aC (cK (.int 0)) (aC (cK (.int 0)) (aC (cK (.int 1)) aN))))) (aC (cA mkTup (aC (cK (.str "fixed")) (aC (cK (.int 0)) (aC (cK (.int 1)) (aC (vNeg (cK (.int 1))) aN))))) (aC (cA mkTup (aC (cK (.str "drift")) (aC (cK (.int 0)) (aC (cK (.int 3)) (aC (cK (.int 2)) aN))))) aN))))))))))
 (sSeq (sSet 1 (b2 fAdd (gVar 1) (cA mkTup (aC (cA mkTup (aC (cK (.str "fixt")) (aC (cK (.int 0)) (aC (cK (.int 1)) (aC (cK (.int 0)) aN))))) (aC (cA mkTup (aC (cK (.str "fixed")) (aC (cK (.bool true)) (aC (cK (.int 1)) (aC (cK (.int 0)) aN))))) (aC (cA mkTup (aC (cK (.str "fixed")) (aC (cK (.int 0)) (aC (cK (.int 1)) (aC (cK (.int 0)) (aC (cK (.int 1)) aN)))))) (aC (cA mkTup (aC (cK (.str "drift")) (aC (cK (.int 0)) (aC (cK (.int 1)) (aC (cK .none) aN))))) (aC (cA mkTup aN) aN))))))))
 (sSeq (sForR (aC (cK (.int 4)) aN) (tgN 2)
 (sSeq (sForR (aC (cA fLen (aC (gVar 1) aN)) aN) (tgN 7)
 (sSeq (sSet 8 (b2 fIx (gVar 1) (gVar 7)))
 (sSeq (sSet 9 (cA mkTup (aC (cK (.str "bounds")) (aC (gVar 8) (aC (cK (.bool true)) (aC (cK (.bool false)) aN))))))
 (sSeq (sSet 10 (cA mkTup (aC (cA mkTup (aC (gVar 8) (aC (b2 fIx (gVar 1) (b2 fMod (cA fInt (aC (b2 fAdd (gVar 7) (cK (.int 1))) aN)) (cA fLen (aC (gVar 1) aN)))) aN))) (aC (cA mkTup (aC (gVar 4) (aC (gVar 8) aN))) (aC (cA mkTup (aC (gVar 6) (aC (gVar 8) aN))) aN)))))
 (sSeq (sAsg (b2 fIx (gVar 10) (b2 fMod (cA fInt (aC (b2 fAdd (gVar 7) (gVar 2)) aN)) (cK (.int 3)))) (tgT [(tgN 11), (tgN 12)]))
 (sIf (tNo (tV (cM m__law_just (aC (cM m__law_heard_beats (aC (gVar 2) (aC (gVar 11) (aC (gVar 12) (aC (vNeg (cK (.int 1))) aN))))) (aC (gVar 9) aN)))))
 (sRet (cK (.bool false)))
 sSkip))))))
 (sFor (cA mkTup (aC (cA mkTup (aC (gVar 6) (aC (gVar 5) aN))) (aC (cA mkTup (aC (gVar 5) (aC (gVar 6) aN))) (aC (cA mkTup (aC (gVar 6) (aC (gVar 6) aN))) aN)))) (tgT [(tgN 11), (tgN 12)])
 (sIf (tNo (tV (cM m__law_just (aC (cM m__law_heard_beats (aC (gVar 2) (aC (gVar 11) (aC (gVar 12) (aC (cK (.int 3)) aN))))) (aC (cA mkTup (aC (cK (.str "case")) (aC (cK (.str "fixed")) (aC (cK (.bool true)) (aC (cK (.bool false)) aN))))) aN)))))
 (sRet (cK (.bool false)))
 sSkip))))
 (sSeq (sFor (cA mkTup (aC (vNeg (cK (.int 1))) (aC (cK (.bool true)) (aC (cK .none) (aC (cK (.str "3")) aN))))) (tgN 3)
 (sFor (cA mkTup (aC (cA mkTup (aC (gVar 4) (aC (gVar 4) aN))) (aC (cA mkTup (aC (gVar 6) (aC (gVar 5) aN))) (aC (cA mkTup (aC (gVar 5) (aC (gVar 5) aN))) aN)))) (tgT [(tgN 11), (tgN 12)])
 (sIf (tNo (tV (cM m__law_just (aC (cM m__law_heard_beats (aC (cK (.int 3)) (aC (gVar 11) (aC (gVar 12) (aC (gVar 3) aN))))) (aC (cA mkTup (aC (cK (.str "number")) (aC (gVar 3) (aC (cK (.bool true)) (aC (cK (.bool false)) aN))))) aN)))))
 (sRet (cK (.bool false)))
 sSkip)))
 (sRet (cM m__law_just (aC (cM m__law_heard_beats (aC (cK (.int 3)) (aC (gVar 4) (aC (gVar 4) (aC (cK (.int 0)) aN))))) (aC (cA mkTup (aC (cK (.str "told")) (aC (cK (.int 0)) aN))) aN)))))))))
def m__law_refused : List D → M D := runB 13 1 s__law_refused
def s_law : MS :=
 (sSeq (sIf (tOr' (tNo (tV (cM m__law_small_right (aC (gVar 1) aN)))) (tNo (tV (cM m__law_great_right (aC (gVar 1) aN)))))
 (sRet (cK (.bool false)))
 sSkip)
 (sRet (vAn (cM m__law_wide_right (aC (gVar 1) aN)) (cM m__law_refused (aC (gVar 1) aN)))))

/-! ### what the top has left -/
structure Txt (K : PySem.W.Frag) (mg : Str → Option Value) (ad : Nat → Addr) (fd : Nat → FuncData) : Prop where
  F_told_plainly : Fun K "told_plainly" "told_plainly" st_told_plainly (ad 0) (fd 0)
  g_told_plainly : mg "told_plainly" = some (.ref (ad 0))
  b_told_plainly : Binds K (fd 0) ["thing"] []
  F_is_int : Fun K "is_int" "is_int" st_is_int (ad 1) (fd 1)
  g_is_int : mg "is_int" = some (.ref (ad 1))
  b_is_int : Binds K (fd 1) ["x"] []
  F_plain_form : Fun K "plain_form" "plain_form" st_plain_form (ad 2) (fd 2)
  g_plain_form : mg "plain_form" = some (.ref (ad 2))
  b_plain_form : Binds K (fd 2) ["x"] []
  F_check_number : Fun K "check_number" "check_number" st_check_number (ad 3) (fd 3)
  g_check_number : mg "check_number" = some (.ref (ad 3))
  b_check_number : Binds K (fd 3) ["x", "least"] []
  F_are_beats : Fun K "are_beats" "are_beats" st_are_beats (ad 4) (fd 4)
  g_are_beats : mg "are_beats" = some (.ref (ad 4))
  b_are_beats : Binds K (fd 4) ["told"] []
  F_check_beats : Fun K "check_beats" "check_beats" st_check_beats (ad 5) (fd 5)
  g_check_beats : mg "check_beats" = some (.ref (ad 5))
  b_check_beats : Binds K (fd 5) ["beats"] []
  F_are_fixed : Fun K "are_fixed" "are_fixed" st_are_fixed (ad 6) (fd 6)
  g_are_fixed : mg "are_fixed" = some (.ref (ad 6))
  b_are_fixed : Binds K (fd 6) ["beats", "other"] []
  F_are_narrow : Fun K "are_narrow" "are_narrow" st_are_narrow (ad 7) (fd 7)
  g_are_narrow : mg "are_narrow" = some (.ref (ad 7))
  b_are_narrow : Binds K (fd 7) ["beats", "other"] []
  F_ever_meet : Fun K "ever_meet" "ever_meet" st_ever_meet (ad 8) (fd 8)
  g_ever_meet : mg "ever_meet" = some (.ref (ad 8))
  b_ever_meet : Binds K (fd 8) ["beats", "other"] []
  F_inverse_of : Fun K "inverse_of" "inverse_of" st_inverse_of (ad 9) (fd 9)
  g_inverse_of : mg "inverse_of" = some (.ref (ad 9))
  b_inverse_of : Binds K (fd 9) ["a", "b"] []
  F_family_of : Fun K "family_of" "family_of" st_family_of (ad 10) (fd 10)
  g_family_of : mg "family_of" = some (.ref (ad 10))
  b_family_of : Binds K (fd 10) ["beats", "other", "apart"] []
  F_families_of : Fun K "families_of" "families_of" st_families_of (ad 11) (fd 11)
  g_families_of : mg "families_of" = some (.ref (ad 11))
  b_families_of : Binds K (fd 11) ["beats", "other"] []
  F_met_families : Fun K "met_families" "met_families" st_met_families (ad 12) (fd 12)
  g_met_families : mg "met_families" = some (.ref (ad 12))
  b_met_families : Binds K (fd 12) ["beats", "other"] []
  F_pairs_within : Fun K "pairs_within" "pairs_within" st_pairs_within (ad 13) (fd 13)
  g_pairs_within : mg "pairs_within" = some (.ref (ad 13))
  b_pairs_within : Binds K (fd 13) ["families", "k"] []
  F_met_number : Fun K "met_number" "met_number" st_met_number (ad 14) (fd 14)
  g_met_number : mg "met_number" = some (.ref (ad 14))
  b_met_number : Binds K (fd 14) ["beats", "other", "k"] []
  F_first_of_families : Fun K "first_of_families" "first_of_families" st_first_of_families (ad 15) (fd 15)
  g_first_of_families : mg "first_of_families" = some (.ref (ad 15))
  b_first_of_families : Binds K (fd 15) ["families"] []
  F_first_met : Fun K "first_met" "first_met" st_first_met (ad 16) (fd 16)
  g_first_met : mg "first_met" = some (.ref (ad 16))
  b_first_met : Binds K (fd 16) ["beats", "other"] []
  F__law_hand : Fun K "_law_hand" "_law_hand" st__law_hand (ad 17) (fd 17)
  g__law_hand : mg "_law_hand" = some (.ref (ad 17))
  b__law_hand : Binds K (fd 17) ["script"] []
  F__law_draw : Fun K "_law_draw" "_law_draw" st__law_draw (ad 18) (fd 18)
  g__law_draw : mg "_law_draw" = some (.ref (ad 18))
  b__law_draw : Binds K (fd 18) ["hand", "many"] []
  F__law_just : Fun K "_law_just" "_law_just" st__law_just (ad 19) (fd 19)
  g__law_just : mg "_law_just" = some (.ref (ad 19))
  b__law_just : Binds K (fd 19) ["told", "due"] []
  F__law_common : Fun K "_law_common" "_law_common" st__law_common (ad 20) (fd 20)
  g__law_common : mg "_law_common" = some (.ref (ad 20))
  b__law_common : Binds K (fd 20) ["a", "b"] []
  F__law_small_row : Fun K "_law_small_row" "_law_small_row" st__law_small_row (ad 21) (fd 21)
  g__law_small_row : mg "_law_small_row" = some (.ref (ad 21))
  b__law_small_row : Binds K (fd 21) ["hand"] []
  F__law_families : Fun K "_law_families" "_law_families" st__law_families (ad 22) (fd 22)
  g__law_families : mg "_law_families" = some (.ref (ad 22))
  b__law_families : Binds K (fd 22) ["one", "other"] []
  F__law_many : Fun K "_law_many" "_law_many" st__law_many (ad 23) (fd 23)
  g__law_many : mg "_law_many" = some (.ref (ad 23))
  b__law_many : Binds K (fd 23) ["families", "k"] []
  F__law_tried : Fun K "_law_tried" "_law_tried" st__law_tried (ad 24) (fd 24)
  g__law_tried : mg "_law_tried" = some (.ref (ad 24))
  b__law_tried : Binds K (fd 24) ["one", "other", "k"] []
  F__law_heard_beats : Fun K "_law_heard_beats" "_law_heard_beats" st__law_heard_beats (ad 25) (fd 25)
  g__law_heard_beats : mg "_law_heard_beats" = some (.ref (ad 25))
  b__law_heard_beats : Binds K (fd 25) ["which", "one", "other", "k"] []
  F__law_two_right : Fun K "_law_two_right" "_law_two_right" st__law_two_right (ad 26) (fd 26)
  g__law_two_right : mg "_law_two_right" = some (.ref (ad 26))
  b__law_two_right : Binds K (fd 26) ["hand", "one", "other", "families"] []
  F__law_small_right : Fun K "_law_small_right" "_law_small_right" st__law_small_right (ad 27) (fd 27)
  g__law_small_right : mg "_law_small_right" = some (.ref (ad 27))
  b__law_small_right : Binds K (fd 27) ["hand"] []
  F__law_great_right : Fun K "_law_great_right" "_law_great_right" st__law_great_right (ad 28) (fd 28)
  g__law_great_right : mg "_law_great_right" = some (.ref (ad 28))
  b__law_great_right : Binds K (fd 28) ["hand"] []
  F__law_wide_right : Fun K "_law_wide_right" "_law_wide_right" st__law_wide_right (ad 29) (fd 29)
  g__law_wide_right : mg "_law_wide_right" = some (.ref (ad 29))
  b__law_wide_right : Binds K (fd 29) ["hand"] []
  F__law_refused : Fun K "_law_refused" "_law_refused" st__law_refused (ad 30) (fd 30)
  g__law_refused : mg "_law_refused" = some (.ref (ad 30))
  b__law_refused : Binds K (fd 30) ["hand"] []
  F_law : Fun K "law" "law" st_law (ad 31) (fd 31)
  g_law : mg "law" = some (.ref (ad 31))
  b_law : Binds K (fd 31) ["script"] []
  F_init_BadNumber : Fun K "__init__" "BadNumber.__init__" st_init_BadNumber (ad 32) (fd 32)
  b_init_BadNumber : Binds K (fd 32) ["self", "at"] []
  F_init_BadBounds : Fun K "__init__" "BadBounds.__init__" st_init_BadBounds (ad 33) (fd 33)
  b_init_BadBounds : Binds K (fd 33) ["self", "at"] []
  F_init_BadCase : Fun K "__init__" "BadCase.__init__" st_init_BadCase (ad 34) (fd 34)
  b_init_BadCase : Binds K (fd 34) ["self", "at"] []
  n_bool : mg "bool" = none
  n_int : mg "int" = none
  n_isinstance : mg "isinstance" = none
  n_len : mg "len" = none
  n_list : mg "list" = none
  n_max : mg "max" = none
  n_min : mg "min" = none
  n_range : mg "range" = none
  n_repr : mg "repr" = none
  n_sorted : mg "sorted" = none
  n_str : mg "str" = none
  n_tuple : mg "tuple" = none
  g_WIDE_LIMIT : ∃ tk, mg "WIDE_LIMIT" = some (.int 2000 tk)
  g_gcd : mg "gcd" = some (.builtin "math.gcd")
  g_BadNumber : mg "BadNumber" = some (.ref (clOf ad 0))
  g_BadBounds : mg "BadBounds" = some (.ref (clOf ad 1))
  g_BadCase : mg "BadCase" = some (.ref (clOf ad 2))
  g_ClockError : mg "ClockError" = some (.ref (clOf ad 3))
  ox_BadNumber : OexC K (clOf ad 0)
  ic_BadNumber : PySem.W.findIn K (.ref (clOf ad 0)) "__init__" = some (some (.ref (ad 32)))
  ti_BadNumber : PySem.W.typeIn K (.ref (ad 32)) = some (.type "function")
  no_BadNumber : PySem.W.findIn K (.ref (clOf ad 0)) "at" = some none
  xf_BadNumber : XfC K (clOf ad 0)
  ox_BadBounds : OexC K (clOf ad 1)
  ic_BadBounds : PySem.W.findIn K (.ref (clOf ad 1)) "__init__" = some (some (.ref (ad 33)))
  ti_BadBounds : PySem.W.typeIn K (.ref (ad 33)) = some (.type "function")
  no_BadBounds : PySem.W.findIn K (.ref (clOf ad 1)) "at" = some none
  xf_BadBounds : XfC K (clOf ad 1)
  ox_BadCase : OexC K (clOf ad 2)
  ic_BadCase : PySem.W.findIn K (.ref (clOf ad 2)) "__init__" = some (some (.ref (ad 34)))
  ti_BadCase : PySem.W.typeIn K (.ref (ad 34)) = some (.type "function")
  no_BadCase : PySem.W.findIn K (.ref (clOf ad 2)) "at" = some none
  xf_BadCase : XfC K (clOf ad 2)
  ec : ∀ c, c < 3 → ExcC K (clOf ad c)
  exm : ∀ c j, c < 3 → j < 4 → PySem.W.exmOne K (.ref (clOf ad c)) (.ref (clOf ad j)) = some (isX j c)
  ko : ∀ c j, c < 3 → j < 4 → PySem.W.kitOne K (.ref (clOf ad c)) (.ref (clOf ad j)) = some (isX j c)
section
variable {P : Program} {w : World} {K : PySem.W.Frag} {mg : Str → Option Value} {base : Heap} {ad : Nat → Addr} {fd : Nat → FuncData}
theorem Txt.low__law_heard_beats_0 (T : Txt K mg ad fd) : ∀ c ∈ ([1] : List Nat), c < 3 := by decide
theorem Txt.xf__law_heard_beats_0 (T : Txt K mg ad fd) : ∀ c ∈ ([1] : List Nat), XfC K (clOf ad c) ∧ PySem.W.findIn K (.ref (clOf ad c)) "at" = some none ∧ fldOf c = "at" := by
  intro c m
  simp only [List.mem_cons, List.not_mem_nil, or_false] at m
  rcases m with rfl
  · exact ⟨T.xf_BadBounds, T.no_BadBounds, rfl⟩
theorem Txt.low__law_heard_beats_1 (T : Txt K mg ad fd) : ∀ c ∈ ([0] : List Nat), c < 3 := by decide
theorem Txt.xf__law_heard_beats_1 (T : Txt K mg ad fd) : ∀ c ∈ ([0] : List Nat), XfC K (clOf ad c) ∧ PySem.W.findIn K (.ref (clOf ad c)) "at" = some none ∧ fldOf c = "at" := by
  intro c m
  simp only [List.mem_cons, List.not_mem_nil, or_false] at m
  rcases m with rfl
  · exact ⟨T.xf_BadNumber, T.no_BadNumber, rfl⟩
theorem Txt.low__law_heard_beats_2 (T : Txt K mg ad fd) : ∀ c ∈ ([2] : List Nat), c < 3 := by decide
theorem Txt.xf__law_heard_beats_2 (T : Txt K mg ad fd) : ∀ c ∈ ([2] : List Nat), XfC K (clOf ad c) ∧ PySem.W.findIn K (.ref (clOf ad c)) "at" = some none ∧ fldOf c = "at" := by
  intro c m
  simp only [List.mem_cons, List.not_mem_nil, or_false] at m
  rcases m with rfl
  · exact ⟨T.xf_BadCase, T.no_BadCase, rfl⟩
theorem Txt.low__law_heard_beats_3 (T : Txt K mg ad fd) : ∀ c ∈ ([0, 1, 2] : List Nat), c < 3 := by decide
theorem Txt.xf__law_heard_beats_3 (T : Txt K mg ad fd) : ∀ c ∈ ([0, 1, 2] : List Nat), XfC K (clOf ad c) ∧ PySem.W.findIn K (.ref (clOf ad c)) "at" = some none ∧ fldOf c = "at" := by
  intro c m
  simp only [List.mem_cons, List.not_mem_nil, or_false] at m
  rcases m with rfl | rfl | rfl
  · exact ⟨T.xf_BadNumber, T.no_BadNumber, rfl⟩
  · exact ⟨T.xf_BadBounds, T.no_BadBounds, rfl⟩
  · exact ⟨T.xf_BadCase, T.no_BadCase, rfl⟩
end
end L2.AR.T
set_option Elab.async false
set_option linter.all false
set_option maxRecDepth 100000
set_option maxHeartbeats 8000000
namespace L2.AR.T
open PySem PySem.Spec PyProof.Rows
section
variable {P : Program} {w : World} {K : PySem.W.Frag} {mg : Str → Option Value} {base : Heap} {ad : Nat → Addr} {fd : Nat → FuncData}
/-! ### each def keeps its promise -/
theorem ok_pl (T : Txt K mg ad fd) : ∀ n : Nat, FnG P w K mg base (L2.CX P w) n (ad 0) (fd 0) ["thing"] (spM K (clOf ad) fldOf (mPl n))
  | 0 => FnG.nothing
  | n + 1 => okM T.F_told_plainly sc_told_plainly rfl (fun cdv A outer sh H E ha F0 qt hr => (p_cons (p_if (T_val (e_isi2 rfl (pe_callB call_isiT (by rfl) T.n_isinstance (by decide +kernel) (pa_cons (e_var 0) (pa_cons (pe_tup (pa_cons (pe_bltn (v := .ty "list") (by rfl) T.n_list (by decide +kernel) rfl) (pa_cons (pe_bltn (v := .ty "tuple") (by rfl) T.n_tuple (by decide +kernel) rfl) pa_nil))) pa_nil)))))
 (p_one (p_ret (E_callTy call_tuple_of tuple_ok (by rfl) T.n_tuple (by decide +kernel) (A_cons (e_lc (gN_ok) (pe_lc (own := [("inner", 1)]) (g := (gName 1)) rfl sc_told_plainly.nd (i_seq (e_var 0)) (blkOk_by (N := ["thing", "inner"]) (sc := defScope st_told_plainly) (by decide +kernel)) (fun _ _ _ _ _ => pg_name (i := 1) sc_told_plainly.nd rfl (by first | exact Or.inl rfl | exact Or.inr rfl)) (fun _ _ _ _ _ => Q_yes) (fun _ _ _ _ _ => (E_call qt takes0 (ok_pl T n) hr (by rfl) T.g_told_plainly T.F_told_plainly.kp T.b_told_plainly (A_cons (e_var 1) A_nil))))) A_nil))))
 p_nil)
 (p_one (p_ret (e_var 0)))))
theorem ok_told_plainly (T : Txt K mg ad fd) : FnG P w K mg base (L2.CX P w) 12 (ad 0) (fd 0) ["thing"] (spM K (clOf ad) fldOf m_told_plainly) := (ok_pl T 12).less (plain_sub 12)
theorem ok_init_BadNumber (T : Txt K mg ad fd) : FnG P w K mg base (L2.CX P w) 13 (ad 32) (fd 32) ["self", "at"] (spI K (clOf ad 0) (fldOf 0) m_told_plainly) :=
  okI (cl := clOf ad) (fld := fldOf) (g := (cM m_told_plainly (aC (gVar 1) aN))) T.F_init_BadNumber sc_init_BadNumber T.ox_BadNumber T.no_BadNumber (fun _ => rfl) (fun cdv A outer sh H E ha F0 qt hr => pss_one (ps_ost (pv 0) (E_call qt (takes_of rfl rfl rfl rfl) (ok_told_plainly T) (hr.mono (by decide)) (by rfl) T.g_told_plainly T.F_told_plainly.kp T.b_told_plainly (A_cons (e_var 1) A_nil))))
theorem ok_init_BadBounds (T : Txt K mg ad fd) : FnG P w K mg base (L2.CX P w) 13 (ad 33) (fd 33) ["self", "at"] (spI K (clOf ad 1) (fldOf 1) m_told_plainly) :=
  okI (cl := clOf ad) (fld := fldOf) (g := (cM m_told_plainly (aC (gVar 1) aN))) T.F_init_BadBounds sc_init_BadBounds T.ox_BadBounds T.no_BadBounds (fun _ => rfl) (fun cdv A outer sh H E ha F0 qt hr => pss_one (ps_ost (pv 0) (E_call qt (takes_of rfl rfl rfl rfl) (ok_told_plainly T) (hr.mono (by decide)) (by rfl) T.g_told_plainly T.F_told_plainly.kp T.b_told_plainly (A_cons (e_var 1) A_nil))))
theorem ok_init_BadCase (T : Txt K mg ad fd) : FnG P w K mg base (L2.CX P w) 13 (ad 34) (fd 34) ["self", "at"] (spI K (clOf ad 2) (fldOf 2) m_told_plainly) :=
  okI (cl := clOf ad) (fld := fldOf) (g := (cM m_told_plainly (aC (gVar 1) aN))) T.F_init_BadCase sc_init_BadCase T.ox_BadCase T.no_BadCase (fun _ => rfl) (fun cdv A outer sh H E ha F0 qt hr => pss_one (ps_ost (pv 0) (E_call qt (takes_of rfl rfl rfl rfl) (ok_told_plainly T) (hr.mono (by decide)) (by rfl) T.g_told_plainly T.F_told_plainly.kp T.b_told_plainly (A_cons (e_var 1) A_nil))))
theorem ok_is_int (T : Txt K mg ad fd) : FnG P w K mg base (L2.CX P w) 1 (ad 1) (fd 1) ["x"] (spM K (clOf ad) fldOf m_is_int) :=
  okM T.F_is_int sc_is_int rfl (fun cdv A outer sh H E ha F0 qt hr => (p_one (p_ret (E_and (e_isi (te := .Constant .none 0 ⟨0, 0, 0, 0⟩) rfl (pe_callB call_isi (by rfl) T.n_isinstance (by decide +kernel) (pa_cons (e_var 0) (pa_cons (pe_bltn (v := .ty "int") (by rfl) T.n_int (by decide +kernel) rfl) pa_nil)))) (E_one (E_not (e_isi (te := .Constant .none 0 ⟨0, 0, 0, 0⟩) rfl (pe_callB call_isi (by rfl) T.n_isinstance (by decide +kernel) (pa_cons (e_var 0) (pa_cons (pe_bltn (v := .ty "bool") (by rfl) T.n_bool (by decide +kernel) rfl) pa_nil))))))))))
theorem ok_plain_form (T : Txt K mg ad fd) : FnG P w K mg base (L2.CX P w) 13 (ad 2) (fd 2) ["x"] (spM K (clOf ad) fldOf m_plain_form) :=
  okM T.F_plain_form sc_plain_form rfl (fun cdv A outer sh H E ha F0 qt hr => (p_one (p_ret (E_call qt (takes_of rfl rfl rfl rfl) (ok_told_plainly T) (hr.mono (by decide)) (by rfl) T.g_told_plainly T.F_told_plainly.kp T.b_told_plainly (A_cons (e_var 0) A_nil)))))
theorem ok_check_number (T : Txt K mg ad fd) : FnG P w K mg base (L2.CX P w) 15 (ad 3) (fd 3) ["x", "least"] (spM K (clOf ad) fldOf m_check_number) :=
  okM T.F_check_number sc_check_number rfl (fun cdv A outer sh H E ha F0 qt hr => (p_cons (p_if (T_not (T_val (E_call qt (takes_of rfl rfl rfl rfl) (ok_is_int T) (hr.mono (by decide)) (by rfl) T.g_is_int T.F_is_int.kp T.b_is_int (A_cons (e_var 0) A_nil))))
 (p_one (p_raise 0 qt (takes_of rfl rfl rfl rfl) rfl rfl T.ox_BadNumber T.ic_BadNumber T.ti_BadNumber (ok_init_BadNumber T) (hr.mono (by decide)) T.b_init_BadNumber (by rfl) T.g_BadNumber (e_var 0)))
 p_nil)
 (p_cons (p_if (T_cmp op_lt lt_ok (e_var 0) (e_var 1))
 (p_one (p_raise 0 qt (takes_of rfl rfl rfl rfl) rfl rfl T.ox_BadNumber T.ic_BadNumber T.ti_BadNumber (ok_init_BadNumber T) (hr.mono (by decide)) T.b_init_BadNumber (by rfl) T.g_BadNumber (e_var 0)))
 p_nil)
 (p_one (p_ret (e_var 0))))))
theorem ok_are_beats (T : Txt K mg ad fd) : FnG P w K mg base (L2.CX P w) 2 (ad 4) (fd 4) ["told"] (spM K (clOf ad) fldOf m_are_beats) :=
  okM T.F_are_beats sc_are_beats rfl (fun cdv A outer sh H E ha F0 qt hr => (p_cons (p_if (PW.pt (W_or (T_not (T_val (e_isi (te := .Constant .none 0 ⟨0, 0, 0, 0⟩) rfl (pe_callB call_isi (by rfl) T.n_isinstance (by decide +kernel) (pa_cons (e_var 0) (pa_cons (pe_bltn (v := .ty "tuple") (by rfl) T.n_tuple (by decide +kernel) rfl) pa_nil)))))) (W_or1 (T_cmp (op_neA hr.units) ne_ok (E_callB call_lenA len_ok (by rfl) T.n_len (by decide +kernel) (A_cons (e_var 0) A_nil)) E_int))))
 (p_one (p_ret E_bl))
 p_nil)
 (p_cons (p_if (PW.pt (W_or (T_not (T_val (e_isi (te := .Constant .none 0 ⟨0, 0, 0, 0⟩) rfl (pe_callB call_isi (by rfl) T.n_isinstance (by decide +kernel) (pa_cons (E_ix rfl (e_var 0) E_int) (pa_cons (pe_bltn (v := .ty "str") (by rfl) T.n_str (by decide +kernel) rfl) pa_nil)))))) (W_or1 (T_cmp op_notIn_seq in_ok (E_ix rfl (e_var 0) E_int) (E_tup (A_cons E_str (A_cons E_str A_nil)))))))
 (p_one (p_ret E_bl))
 p_nil)
 (p_cons (p_for' [1] rfl (gN_ok) (ps_for PassesOwn.leaving rfl (i_seq (E_sl rfl (e_var 0) (O_so E_int) O_no)) (pg_name (i := 1) sc_are_beats.nd rfl (by first | exact Or.inl rfl | exact Or.inr rfl)) (p_one (p_if (PW.pt (W_or (T_not (T_val (E_call qt (takes_of rfl rfl rfl rfl) (ok_is_int T) (hr.mono (by decide)) (by rfl) T.g_is_int T.F_is_int.kp T.b_is_int (A_cons (e_var 1) A_nil)))) (W_or1 (T_cmp op_lt lt_ok (e_var 1) E_int))))
 (p_one (p_ret E_bl))
 p_nil))))
 (p_cons (p_if (T_cmp op_lt lt_ok (E_ix rfl (e_var 0) E_int) E_int)
 (p_one (p_ret E_bl))
 p_nil)
 (p_one (p_ret (E_or (E_cmp (op_eqA hr.units) eq_ok (E_ix rfl (e_var 0) E_int) E_str) (E_one (E_cmp op_le le_ok (E_ix rfl (e_var 0) E_int) (E_ix rfl (e_var 0) E_int)))))))))))
theorem ok_check_beats (T : Txt K mg ad fd) : FnG P w K mg base (L2.CX P w) 15 (ad 5) (fd 5) ["beats"] (spM K (clOf ad) fldOf m_check_beats) :=
  okM T.F_check_beats sc_check_beats rfl (fun cdv A outer sh H E ha F0 qt hr => (p_cons (p_set 1 sc_check_beats.nd (E_call qt (takes_of rfl rfl rfl rfl) (ok_plain_form T) (hr.mono (by decide)) (by rfl) T.g_plain_form T.F_plain_form.kp T.b_plain_form (A_cons (e_var 0) A_nil)))
 (p_cons (p_if (T_not (T_val (E_call qt (takes_of rfl rfl rfl rfl) (ok_are_beats T) (hr.mono (by decide)) (by rfl) T.g_are_beats T.F_are_beats.kp T.b_are_beats (A_cons (e_var 1) A_nil))))
 (p_one (p_raise 1 qt (takes_of rfl rfl rfl rfl) rfl rfl T.ox_BadBounds T.ic_BadBounds T.ti_BadBounds (ok_init_BadBounds T) (hr.mono (by decide)) T.b_init_BadBounds (by rfl) T.g_BadBounds (e_var 0)))
 p_nil)
 (p_one (p_ret (e_var 1))))))
theorem ok_are_fixed (T : Txt K mg ad fd) : FnG P w K mg base (L2.CX P w) 1 (ad 6) (fd 6) ["beats", "other"] (spM K (clOf ad) fldOf m_are_fixed) :=
  okM T.F_are_fixed sc_are_fixed rfl (fun cdv A outer sh H E ha F0 qt hr => (p_one (p_ret (E_and (E_cmp (op_eqA hr.units) eq_ok (E_ix rfl (e_var 0) E_int) E_str) (E_one (E_cmp (op_eqA hr.units) eq_ok (E_ix rfl (e_var 1) E_int) E_str))))))
theorem ok_are_narrow (T : Txt K mg ad fd) : FnG P w K mg base (L2.CX P w) 1 (ad 7) (fd 7) ["beats", "other"] (spM K (clOf ad) fldOf m_are_narrow) :=
  okM T.F_are_narrow sc_are_narrow rfl (fun cdv A outer sh H E ha F0 qt hr => (p_one (p_ret (E_cmp op_le le_ok (E_op op_addA add_ok (E_ix rfl (e_var 0) E_int) (E_ix rfl (e_var 1) E_int)) (E_globI (by rfl) T.g_WIDE_LIMIT)))))
theorem ok_ever_meet (T : Txt K mg ad fd) : FnG P w K mg base (L2.CX P w) 16 (ad 8) (fd 8) ["beats", "other"] (spM K (clOf ad) fldOf m_ever_meet) :=
  okM T.F_ever_meet sc_ever_meet rfl (fun cdv A outer sh H E ha F0 qt hr => (p_cons (p_set 2 sc_ever_meet.nd (E_call qt (takes_of rfl rfl rfl rfl) (ok_check_beats T) (hr.mono (by decide)) (by rfl) T.g_check_beats T.F_check_beats.kp T.b_check_beats (A_cons (e_var 0) A_nil)))
 (p_cons (p_set 3 sc_ever_meet.nd (E_call qt (takes_of rfl rfl rfl rfl) (ok_check_beats T) (hr.mono (by decide)) (by rfl) T.g_check_beats T.F_check_beats.kp T.b_check_beats (A_cons (e_var 1) A_nil)))
 (p_cons (p_if (T_not (T_val (E_call qt (takes_of rfl rfl rfl rfl) (ok_are_fixed T) (hr.mono (by decide)) (by rfl) T.g_are_fixed T.F_are_fixed.kp T.b_are_fixed (A_cons (e_var 2) (A_cons (e_var 3) A_nil)))))
 (p_one (p_raise 2 qt (takes_of rfl rfl rfl rfl) rfl rfl T.ox_BadCase T.ic_BadCase T.ti_BadCase (ok_init_BadCase T) (hr.mono (by decide)) T.b_init_BadCase (by rfl) T.g_BadCase E_str))
 p_nil)
 (p_cons (p_set 4 sc_ever_meet.nd (E_callF cr_gcd ii_ok (by rfl) T.g_gcd (A_cons (E_ix rfl (e_var 2) E_int) (A_cons (E_ix rfl (e_var 3) E_int) A_nil))))
 (p_cons (p_set 5 sc_ever_meet.nd (E_op op_modN mod_ok (E_callTy call_int1 int_ok (by rfl) T.n_int (by decide +kernel) (A_cons (E_op op_sub sub_ok (E_ix rfl (e_var 2) E_int) (E_ix rfl (e_var 3) E_int)) A_nil)) (e_var 4)))
 (p_one (p_ret (E_or (E_cmp op_le le_ok (e_var 5) (E_ix rfl (e_var 3) E_int)) (E_one (E_cmp op_le le_ok (E_op op_sub sub_ok (e_var 4) (e_var 5)) (E_ix rfl (e_var 2) E_int))))))))))))
theorem ok_inverse_of (T : Txt K mg ad fd) : FnG P w K mg base (L2.CX P w) 1 (ad 9) (fd 9) ["a", "b"] (spM K (clOf ad) fldOf m_inverse_of) :=
  okM T.F_inverse_of sc_inverse_of rfl (fun cdv A outer sh H E ha F0 qt hr => (p_cons (p_par 2 3 (ps_par rfl sc_inverse_of.nd rfl rfl (by decide) rfl rfl (A_cons (E_callTy call_int1 int_ok (by rfl) T.n_int (by decide +kernel) (A_cons (e_var 1) A_nil)) (A_cons (E_op op_modN mod_ok (E_callTy call_int1 int_ok (by rfl) T.n_int (by decide +kernel) (A_cons (e_var 0) A_nil)) (E_callTy call_int1 int_ok (by rfl) T.n_int (by decide +kernel) (A_cons (e_var 1) A_nil))) A_nil)) (by rfl)))
 (p_cons (p_asg [4, 5] (ps_asg (E_tup (A_cons E_int (A_cons E_int A_nil))) (pg_tup rfl (pgs_cons (pg_name (i := 4) sc_inverse_of.nd rfl (by first | exact Or.inl rfl | exact Or.inr rfl)) (pgs_cons (pg_name (i := 5) sc_inverse_of.nd rfl (by first | exact Or.inl rfl | exact Or.inr rfl)) pgs_nil)))) (gTup_ok (gCons_ok (gN_ok) (gCons_ok (gN_ok) gNil_ok))))
 (p_cons (p_while 1000 (ps_while PassesOwn.leaving (T_cmp op_gt gt_ok (e_var 3) E_int) (p_cons (p_set 6 sc_inverse_of.nd (E_op op_fdivW div_ok (e_var 2) (e_var 3)))
 (p_cons (p_par 2 3 (ps_par rfl sc_inverse_of.nd rfl rfl (by decide) rfl rfl (A_cons (e_var 3) (A_cons (E_op op_sub sub_ok (e_var 2) (E_op op_mulA mul_ok (e_var 6) (e_var 3))) A_nil)) (by rfl)))
 (p_one (p_par 4 5 (ps_par rfl sc_inverse_of.nd rfl rfl (by decide) rfl rfl (A_cons (e_var 5) (A_cons (E_op op_sub sub_ok (e_var 4) (E_op op_mulA mul_ok (e_var 6) (e_var 5))) A_nil)) (by rfl))))))))
 (p_one (p_ret (E_op op_modN mod_ok (E_callTy call_int1 int_ok (by rfl) T.n_int (by decide +kernel) (A_cons (e_var 4) A_nil)) (E_callTy call_int1 int_ok (by rfl) T.n_int (by decide +kernel) (A_cons (e_var 1) A_nil)))))))))
theorem ok_family_of (T : Txt K mg ad fd) : FnG P w K mg base (L2.CX P w) 2 (ad 10) (fd 10) ["beats", "other", "apart"] (spM K (clOf ad) fldOf m_family_of) :=
  okM T.F_family_of sc_family_of rfl (fun cdv A outer sh H E ha F0 qt hr => (p_cons (p_set 3 sc_family_of.nd (E_callF cr_gcd ii_ok (by rfl) T.g_gcd (A_cons (E_ix rfl (e_var 0) E_int) (A_cons (E_ix rfl (e_var 1) E_int) A_nil))))
 (p_cons (p_set 4 sc_family_of.nd (E_op op_fdivW div_ok (E_ix rfl (e_var 0) E_int) (e_var 3)))
 (p_cons (p_set 5 sc_family_of.nd (E_op op_fdivW div_ok (E_ix rfl (e_var 1) E_int) (e_var 3)))
 (p_cons (p_set 6 sc_family_of.nd (E_op op_fdivW div_ok (E_op op_addA add_ok (E_op op_sub sub_ok (e_var 2) (E_ix rfl (e_var 0) E_int)) (E_ix rfl (e_var 1) E_int)) (e_var 3)))
 (p_cons (p_set 7 sc_family_of.nd (E_op op_modN mod_ok (E_callTy call_int1 int_ok (by rfl) T.n_int (by decide +kernel) (A_cons (E_op op_mulA mul_ok (e_var 6) (E_call qt (takes_of rfl rfl rfl rfl) (ok_inverse_of T) (hr.mono (by decide)) (by rfl) T.g_inverse_of T.F_inverse_of.kp T.b_inverse_of (A_cons (e_var 4) (A_cons (e_var 5) A_nil)))) A_nil)) (e_var 5)))
 (p_cons (p_set 8 sc_family_of.nd (E_callB (call_max2 rfl) ii_ok (by rfl) T.n_max (by decide +kernel) (A_cons E_int (A_cons (E_neg (E_op op_fdivW div_ok (E_op op_sub sub_ok (E_neg (e_var 6)) (e_var 5)) (e_var 4))) A_nil))))
 (p_cons (p_set 9 sc_family_of.nd (E_op op_addA add_ok (e_var 8) (E_op op_modN mod_ok (E_callTy call_int1 int_ok (by rfl) T.n_int (by decide +kernel) (A_cons (E_op op_sub sub_ok (e_var 7) (e_var 8)) A_nil)) (e_var 5))))
 (p_one (p_ret (E_tup (A_cons (e_var 2) (A_cons (e_var 9) (A_cons (E_op op_fdivW div_ok (E_op op_sub sub_ok (E_op op_mulA mul_ok (e_var 9) (e_var 4)) (e_var 6)) (e_var 5)) (A_cons (e_var 5) (A_cons (e_var 4) A_nil))))))))))))))))
theorem ok_families_of (T : Txt K mg ad fd) : FnG P w K mg base (L2.CX P w) 3 (ad 11) (fd 11) ["beats", "other"] (spM K (clOf ad) fldOf m_families_of) :=
  okM T.F_families_of sc_families_of rfl (fun cdv A outer sh H E ha F0 qt hr => (p_cons (p_set 2 sc_families_of.nd (E_callF cr_gcd ii_ok (by rfl) T.g_gcd (A_cons (E_ix rfl (e_var 0) E_int) (A_cons (E_ix rfl (e_var 1) E_int) A_nil))))
 (p_cons (p_set 3 sc_families_of.nd (E_neg (E_ix rfl (e_var 0) E_int)))
 (p_cons (p_set 4 sc_families_of.nd (E_op op_addA add_ok (e_var 3) (E_op op_modN mod_ok (E_callTy call_int1 int_ok (by rfl) T.n_int (by decide +kernel) (A_cons (E_op op_sub sub_ok (E_op op_sub sub_ok (E_ix rfl (e_var 0) E_int) (E_ix rfl (e_var 1) E_int)) (e_var 3)) A_nil)) (e_var 2))))
 (p_one (p_ret (e_lcR3 (gN_ok) (pe_lc (own := [("apart", 5)]) (g := (gName 5)) rfl sc_families_of.nd (pi_range3 (by rfl) T.n_range (A_cons (e_var 4) (A_cons (E_op op_addA add_ok (E_ix rfl (e_var 1) E_int) E_int) (A_cons (e_var 2) A_nil)))) (blkOk_by (N := ["beats", "other", "common", "low", "start", "apart"]) (sc := defScope st_families_of) (by decide +kernel)) (fun _ _ _ _ _ => pg_name (i := 5) sc_families_of.nd rfl (by first | exact Or.inl rfl | exact Or.inr rfl)) (fun _ _ _ _ _ => Q_yes) (fun _ _ _ _ _ => (E_call qt takes0 (ok_family_of T) (hr.mono (by decide)) (by rfl) T.g_family_of T.F_family_of.kp T.b_family_of (A_cons (e_var 0) (A_cons (e_var 1) (A_cons (e_var 5) A_nil)))))))))))))
theorem ok_met_families (T : Txt K mg ad fd) : FnG P w K mg base (L2.CX P w) 16 (ad 12) (fd 12) ["beats", "other"] (spM K (clOf ad) fldOf m_met_families) :=
  okM T.F_met_families sc_met_families rfl (fun cdv A outer sh H E ha F0 qt hr => (p_cons (p_set 2 sc_met_families.nd (E_call qt (takes_of rfl rfl rfl rfl) (ok_check_beats T) (hr.mono (by decide)) (by rfl) T.g_check_beats T.F_check_beats.kp T.b_check_beats (A_cons (e_var 0) A_nil)))
 (p_cons (p_set 3 sc_met_families.nd (E_call qt (takes_of rfl rfl rfl rfl) (ok_check_beats T) (hr.mono (by decide)) (by rfl) T.g_check_beats T.F_check_beats.kp T.b_check_beats (A_cons (e_var 1) A_nil)))
 (p_cons (p_if (T_not (T_val (E_call qt (takes_of rfl rfl rfl rfl) (ok_are_fixed T) (hr.mono (by decide)) (by rfl) T.g_are_fixed T.F_are_fixed.kp T.b_are_fixed (A_cons (e_var 2) (A_cons (e_var 3) A_nil)))))
 (p_one (p_raise 2 qt (takes_of rfl rfl rfl rfl) rfl rfl T.ox_BadCase T.ic_BadCase T.ti_BadCase (ok_init_BadCase T) (hr.mono (by decide)) T.b_init_BadCase (by rfl) T.g_BadCase E_str))
 p_nil)
 (p_cons (p_if (T_not (T_val (E_call qt (takes_of rfl rfl rfl rfl) (ok_are_narrow T) (hr.mono (by decide)) (by rfl) T.g_are_narrow T.F_are_narrow.kp T.b_are_narrow (A_cons (e_var 2) (A_cons (e_var 3) A_nil)))))
 (p_one (p_raise 2 qt (takes_of rfl rfl rfl rfl) rfl rfl T.ox_BadCase T.ic_BadCase T.ti_BadCase (ok_init_BadCase T) (hr.mono (by decide)) T.b_init_BadCase (by rfl) T.g_BadCase E_str))
 p_nil)
 (p_one (p_ret (E_callTy call_tuple_of tuple_ok (by rfl) T.n_tuple (by decide +kernel) (A_cons (E_call qt (takes_of rfl rfl rfl rfl) (ok_families_of T) (hr.mono (by decide)) (by rfl) T.g_families_of T.F_families_of.kp T.b_families_of (A_cons (e_var 2) (A_cons (e_var 3) A_nil))) A_nil)))))))))
theorem ok_pairs_within (T : Txt K mg ad fd) : FnG P w K mg base (L2.CX P w) 1 (ad 13) (fd 13) ["families", "k"] (spM K (clOf ad) fldOf m_pairs_within) :=
  okM T.F_pairs_within sc_pairs_within rfl (fun cdv A outer sh H E ha F0 qt hr => (p_cons (p_set 2 sc_pairs_within.nd E_int)
 (p_cons (p_for' [3, 4, 5, 6, 7] rfl (gTup_ok (gCons_ok (gN_ok) (gCons_ok (gN_ok) (gCons_ok (gN_ok) (gCons_ok (gN_ok) (gCons_ok (gN_ok) gNil_ok)))))) (ps_for PassesOwn.leaving rfl (i_seq (e_var 0)) (pg_tup rfl (pgs_cons (pg_name (i := 3) sc_pairs_within.nd rfl (by first | exact Or.inl rfl | exact Or.inr rfl)) (pgs_cons (pg_name (i := 4) sc_pairs_within.nd rfl (by first | exact Or.inl rfl | exact Or.inr rfl)) (pgs_cons (pg_name (i := 5) sc_pairs_within.nd rfl (by first | exact Or.inl rfl | exact Or.inr rfl)) (pgs_cons (pg_name (i := 6) sc_pairs_within.nd rfl (by first | exact Or.inl rfl | exact Or.inr rfl)) (pgs_cons (pg_name (i := 7) sc_pairs_within.nd rfl (by first | exact Or.inl rfl | exact Or.inr rfl)) pgs_nil)))))) (p_one (p_set 2 sc_pairs_within.nd (E_op op_addA add_ok (e_var 2) (E_callB (call_max2 rfl) ii_ok (by rfl) T.n_max (by decide +kernel) (A_cons E_int (A_cons (E_op op_addA add_ok E_int (E_callB (call_min2 rfl) ii_ok (by rfl) T.n_min (by decide +kernel) (A_cons (E_op op_fdivW div_ok (E_op op_sub sub_ok (e_var 1) (e_var 4)) (e_var 6)) (A_cons (E_op op_fdivW div_ok (E_op op_sub sub_ok (e_var 1) (e_var 5)) (e_var 7)) A_nil)))) A_nil))))))))
 (p_one (p_ret (e_var 2))))))
theorem ok_met_number (T : Txt K mg ad fd) : FnG P w K mg base (L2.CX P w) 16 (ad 14) (fd 14) ["beats", "other", "k"] (spM K (clOf ad) fldOf m_met_number) :=
  okM T.F_met_number sc_met_number rfl (fun cdv A outer sh H E ha F0 qt hr => (p_cons (p_set 3 sc_met_number.nd (E_call qt (takes_of rfl rfl rfl rfl) (ok_check_beats T) (hr.mono (by decide)) (by rfl) T.g_check_beats T.F_check_beats.kp T.b_check_beats (A_cons (e_var 0) A_nil)))
 (p_cons (p_set 4 sc_met_number.nd (E_call qt (takes_of rfl rfl rfl rfl) (ok_check_beats T) (hr.mono (by decide)) (by rfl) T.g_check_beats T.F_check_beats.kp T.b_check_beats (A_cons (e_var 1) A_nil)))
 (p_cons (p_do (E_call qt (takes_of rfl rfl rfl rfl) (ok_check_number T) (hr.mono (by decide)) (by rfl) T.g_check_number T.F_check_number.kp T.b_check_number (A_cons (e_var 2) (A_cons E_int A_nil))))
 (p_cons (p_if (T_not (T_val (E_call qt (takes_of rfl rfl rfl rfl) (ok_are_fixed T) (hr.mono (by decide)) (by rfl) T.g_are_fixed T.F_are_fixed.kp T.b_are_fixed (A_cons (e_var 3) (A_cons (e_var 4) A_nil)))))
 (p_one (p_raise 2 qt (takes_of rfl rfl rfl rfl) rfl rfl T.ox_BadCase T.ic_BadCase T.ti_BadCase (ok_init_BadCase T) (hr.mono (by decide)) T.b_init_BadCase (by rfl) T.g_BadCase E_str))
 p_nil)
 (p_cons (p_if (T_not (T_val (E_call qt (takes_of rfl rfl rfl rfl) (ok_are_narrow T) (hr.mono (by decide)) (by rfl) T.g_are_narrow T.F_are_narrow.kp T.b_are_narrow (A_cons (e_var 3) (A_cons (e_var 4) A_nil)))))
 (p_one (p_raise 2 qt (takes_of rfl rfl rfl rfl) rfl rfl T.ox_BadCase T.ic_BadCase T.ti_BadCase (ok_init_BadCase T) (hr.mono (by decide)) T.b_init_BadCase (by rfl) T.g_BadCase E_str))
 p_nil)
 (p_one (p_ret (E_call qt (takes_of rfl rfl rfl rfl) (ok_pairs_within T) (hr.mono (by decide)) (by rfl) T.g_pairs_within T.F_pairs_within.kp T.b_pairs_within (A_cons (E_call qt (takes_of rfl rfl rfl rfl) (ok_families_of T) (hr.mono (by decide)) (by rfl) T.g_families_of T.F_families_of.kp T.b_families_of (A_cons (e_var 3) (A_cons (e_var 4) A_nil))) (A_cons (e_var 2) A_nil)))))))))))
theorem ok_first_of_families (T : Txt K mg ad fd) : FnG P w K mg base (L2.CX P w) 1 (ad 15) (fd 15) ["families"] (spM K (clOf ad) fldOf m_first_of_families) :=
  okM T.F_first_of_families sc_first_of_families rfl (fun cdv A outer sh H E ha F0 qt hr => (p_cons (p_if (T_cmp (op_eqA hr.units) eq_ok (E_callB call_lenA len_ok (by rfl) T.n_len (by decide +kernel) (A_cons (e_var 0) A_nil)) E_int)
 (p_one (p_ret E_non))
 p_nil)
 (p_one (p_ret (E_callB (cr_min rfl) minL_ok (by rfl) T.n_min (by decide +kernel) (A_cons (e_lc (gN_ok) (pe_lc (own := [("family", 1)]) (g := (gName 1)) rfl sc_first_of_families.nd (i_seq (e_var 0)) (blkOk_by (N := ["families", "family"]) (sc := defScope st_first_of_families) (by decide +kernel)) (fun _ _ _ _ _ => pg_name (i := 1) sc_first_of_families.nd rfl (by first | exact Or.inl rfl | exact Or.inr rfl)) (fun _ _ _ _ _ => Q_yes) (fun _ _ _ _ _ => (E_callB (call_max2 rfl) ii_ok (by rfl) T.n_max (by decide +kernel) (A_cons (E_ix rfl (e_var 1) E_int) (A_cons (E_ix rfl (e_var 1) E_int) A_nil)))))) A_nil))))))
theorem ok_first_met (T : Txt K mg ad fd) : FnG P w K mg base (L2.CX P w) 16 (ad 16) (fd 16) ["beats", "other"] (spM K (clOf ad) fldOf m_first_met) :=
  okM T.F_first_met sc_first_met rfl (fun cdv A outer sh H E ha F0 qt hr => (p_cons (p_set 2 sc_first_met.nd (E_call qt (takes_of rfl rfl rfl rfl) (ok_check_beats T) (hr.mono (by decide)) (by rfl) T.g_check_beats T.F_check_beats.kp T.b_check_beats (A_cons (e_var 0) A_nil)))
 (p_cons (p_set 3 sc_first_met.nd (E_call qt (takes_of rfl rfl rfl rfl) (ok_check_beats T) (hr.mono (by decide)) (by rfl) T.g_check_beats T.F_check_beats.kp T.b_check_beats (A_cons (e_var 1) A_nil)))
 (p_cons (p_if (T_not (T_val (E_call qt (takes_of rfl rfl rfl rfl) (ok_are_fixed T) (hr.mono (by decide)) (by rfl) T.g_are_fixed T.F_are_fixed.kp T.b_are_fixed (A_cons (e_var 2) (A_cons (e_var 3) A_nil)))))
 (p_one (p_raise 2 qt (takes_of rfl rfl rfl rfl) rfl rfl T.ox_BadCase T.ic_BadCase T.ti_BadCase (ok_init_BadCase T) (hr.mono (by decide)) T.b_init_BadCase (by rfl) T.g_BadCase E_str))
 p_nil)
 (p_cons (p_if (T_not (T_val (E_call qt (takes_of rfl rfl rfl rfl) (ok_are_narrow T) (hr.mono (by decide)) (by rfl) T.g_are_narrow T.F_are_narrow.kp T.b_are_narrow (A_cons (e_var 2) (A_cons (e_var 3) A_nil)))))
 (p_one (p_raise 2 qt (takes_of rfl rfl rfl rfl) rfl rfl T.ox_BadCase T.ic_BadCase T.ti_BadCase (ok_init_BadCase T) (hr.mono (by decide)) T.b_init_BadCase (by rfl) T.g_BadCase E_str))
 p_nil)
 (p_one (p_ret (E_call qt (takes_of rfl rfl rfl rfl) (ok_first_of_families T) (hr.mono (by decide)) (by rfl) T.g_first_of_families T.F_first_of_families.kp T.b_first_of_families (A_cons (E_call qt (takes_of rfl rfl rfl rfl) (ok_families_of T) (hr.mono (by decide)) (by rfl) T.g_families_of T.F_families_of.kp T.b_families_of (A_cons (e_var 2) (A_cons (e_var 3) A_nil))) A_nil)))))))))
theorem ok__law_hand (T : Txt K mg ad fd) : FnG P w K mg base (L2.CX P w) 1 (ad 17) (fd 17) ["script"] (spHand K) := by
  refine okG T.F__law_hand sc__law_hand (fun vs H Q E ⟨_, _, e, _⟩ => by rw [e]; rfl) fun cdv A outer sh H vs Q E g hr h => ?_
  obtain ⟨a, ns, rfl, hS, hl, q⟩ := h
  refine ⟨_, pss_cons (ps_set (i := 1) sc__law_hand.nd rfl (.inl rfl) (pe_lst pa_nil))
    (pss_cons (ps_for PassesOwn.leaving rfl (pi_range1 (by rfl) T.n_range (pa_cons (pe_callB (call_min2 rfl) (by rfl) T.n_min (by decide +kernel) (pa_cons (pe_callB call_len_seq (by rfl) T.n_len PySem.boot_len (pa_cons (pv 0) pa_nil)) (pa_cons pe_int pa_nil))) pa_nil)) (pg_name (i := 2) sc__law_hand.nd rfl (.inl rfl))
      (pss_cons (ps_set (i := 3) sc__law_hand.nd rfl (.inl rfl) (pe_callTy call_int1 (by rfl) T.n_int (by decide +kernel) (pa_cons (pe_ix ix_list (pv 0) (pv 2) (fun _ _ => rfl)) pa_nil)))
      (pss_cons (ps_if (pt_cmpR op_lt (pv 3) pe_int (nomark _)) (pss_one (ps_set (i := 3) sc__law_hand.nd rfl (.inl rfl) (pe_op op_sub pe_int (pe_op op_mul pe_int (pv 3))))) pss_nil)
      (pss_cons (ps_set (i := 3) sc__law_hand.nd rfl (.inl rfl) (pe_op op_modN (pe_callTy call_int1 (by rfl) T.n_int (by decide +kernel) (pa_cons (pv 3) pa_nil)) (pe_op op_pow pe_int pe_int)))
      (pss_one (ps_for PassesOwn.leaving rfl (pi_range1 (by rfl) T.n_range (pa_cons pe_int pa_nil)) (pg_name (i := 4) sc__law_hand.nd rfl (.inl rfl))
        (pss_cons (ps_expr (pe_bm PySem.F.plainAttrs_list PySem.F.slot_list_append PySem.F.type_list_append mt_append (pv 1) (pa_cons (pe_op op_mod (pe_callTy call_int1 (by rfl) T.n_int (by decide +kernel) (pa_cons (pv 3) pa_nil)) pe_int) pa_nil)))
        (pss_cons (ps_set (i := 3) sc__law_hand.nd rfl (.inl rfl) (pe_op op_fdiv (pv 3) pe_int))
        (pss_one (ps_if (pt_cmpR op_eq (pv 3) pe_int (nomark _)) (pss_one ps_break) pss_nil))))))))))
    (pss_one (ps_ret (pe_disp (pps_cons pe_str (pv 1) (pps_cons pe_str pe_int pps_nil)) (by rfl) (by rfl) (fun z => by cases z) (by decide))))), ?_⟩
  refine ⟨Nat.zero_le _, fun r nr => ?_⟩
  have sm0 : ∀ o : HO, Same H (upd H r o) := fun o b u e => by
    rw [upd_ne (ne_of_none e nr)]
    exact e
  have sS : SqL K (upd H r (.lst [])) a (ns.map V.int) := (sm0 _).seq hS
  -- the loop over the script
  refine ⟨.ref a, rfl, a, _, rfl, .inl sS, _, _, rfl, _, rfl, ?_, ?_, ?_⟩
  · split <;> (try rw [List.length_map]) <;> omega
  · split <;> (try rw [List.length_map] at *) <;> omega
  let Row : Nat → Hp → Prop := fun m H' => ∃ row : List Int, H' = upd H r (.lst (row.map V.int)) ∧ GoodRow row ∧ row.length ≤ m
  have stay : ∀ {m H'}, Row m H' → SqL K H' a (ns.map V.int) := fun {m H'} ⟨row, e, _, _⟩ => by
    rw [e]
    exact (sm0 _).seq hS
  refine for_range (lo := 0) (fun i σ H' => i ≤ 30 ∧ ∃ y2 y3 y4, σ = [some (.ref a), some (.ref r), y2, y3, y4] ∧ Row (24 * i) H') ⟨Nat.zero_le _, none, none, none, rfl, [], rfl, ((fun x hx => by cases hx) : GoodRow []), Nat.le_refl _⟩ ?_ ?_
  · rintro i σ H' hi ⟨h30, y2, y3, y4, rfl, hR⟩
    have lt : i < ns.length ∧ i < 30 := by
      have := hi
      split at this <;> (try rw [List.length_map] at this) <;> (try rw [List.length_map] at *) <;> omega
    have it : atI (ns.map V.int) ((0 : Int) + i) = some (.int ns[i]) := by
      rw [Int.zero_add]
      exact atI_nat (by rw [List.getElem?_map, List.getElem?_eq_getElem lt.1]; rfl)
    have hS' := stay hR
    refine ⟨.ref a, rfl, .int (0 + i), rfl, a, _, (0 + i : Int), _, rfl, rfl, hS', it, .inl ⟨_, rfl, .int ns[i], rfl, ns[i], 0, rfl, rfl, _, rfl, ?_⟩⟩
    refine ite2 (fun c => ⟨.int ns[i], rfl, 2, ns[i], rfl, rfl, .inl ⟨by decide, by decide⟩, 1, _, rfl, rfl, ?_⟩) (fun c => ?_)
    all_goals
      refine ⟨_, rfl, .inl ⟨_, rfl, 30, 24, rfl, rfl, ⟨by decide, by decide, by decide⟩, _, _, rfl, rfl, (by decide : (30 : Int) ^ (24 : Int).toNat ≠ 0), 24, rfl, by decide, by decide, ?_⟩⟩
      refine for_range (lo := 0) (n := 24) (fun j σ H' => j ≤ 24 ∧ ∃ x y4, σ = [some (.ref a), some (.ref r), some (.int (0 + (i : Int))), some (.int x), y4] ∧ Row (24 * i + j) H') ⟨Nat.zero_le _, _, _, rfl, hR⟩ ?_ ?_
      · rintro j σ H2 hj ⟨_, x, y4, rfl, row, rfl, gR, lR⟩
        refine ⟨.ref r, rfl, .inl ⟨rfl, _, .inl (.inl upd_same)⟩, .int x, rfl, .inl ⟨x, rfl, x, 30, rfl, rfl, (by decide : (0 : Int) < 30), r, _, _, rfl, rfl, upd_same, ?_, ?_⟩⟩
        · rw [List.length_map, sizeLine_eq]
          have := lt.2
          omega
        have row2 : Row (24 * i + (j + 1)) (upd (upd H r (.lst (row.map V.int))) r (.lst (row.map V.int ++ [.int (x % 30)]))) := by
          refine ⟨row ++ [x % 30], ?_, ?_, ?_⟩
          · rw [upd_upd, List.map_append]
            rfl
          · intro z hz
            rcases List.mem_append.mp hz with hz | hz
            · exact gR z hz
            · have : z = x % 30 := by simpa using hz
              subst this
              omega
          · rw [List.length_append]
            simp
            omega
        refine ⟨.int x, rfl, x, 30, rfl, rfl, ⟨by decide, by decide⟩, .int (x / 30), rfl, rfl, _, rfl, ite2 (fun c => ?_) (fun c => ?_)⟩
        · -- break
          refine ⟨by omega, _, _, _, rfl, ?_⟩
          obtain ⟨row3, e3, g3, l3⟩ := row2
          exact ⟨row3, e3, g3, by have : j + 1 ≤ 24 := hj; omega⟩
        · exact ⟨hj, _, _, rfl, row2⟩
      · rintro σ H2 ⟨_, x, y4, rfl, row, e, gR, lR⟩
        exact ⟨by have := lt.2; omega, _, _, _, rfl, row, e, gR, by omega⟩
  · rintro σ H' ⟨h30, y2, y3, y4, rfl, row, rfl, gR, lR⟩
    intro d nd
    have ne : r ≠ d := fun e => by
      rw [← e, upd_same] at nd
      cases nd
    refine ⟨.ref r, rfl, upd_same, [(.inr "row", .ref r), (.inr "at", .int 0)], rfl, by simp, ?_⟩
    refine q _ d r row ne ?_ ?_ gR (by
      have := h30
      omega)
    · rw [upd_same]
      simp [mergeK, putK, row_at]
    · rw [upd_ne ne, upd_ne ne, upd_same]
theorem ok__law_draw (T : Txt K mg ad fd) : FnG P w K mg base (L2.CX P w) 1 (ad 18) (fd 18) ["hand", "many"] (spM K (clOf ad) fldOf m__law_draw) := by
  have lens : ∀ vs H Q E, spM K (clOf ad) fldOf m__law_draw vs H Q E → vs.length = 2 := by
    rintro vs H Q E ⟨ha, F, hs, ds, s1, hh, r, q⟩
    rw [r.len]
    obtain ⟨n, rfl, _⟩ := mDraw_shape (ds := ds) (h := hs) (fun e => by rw [show m__law_draw ds hs = mDraw ds hs from rfl, e] at q; exact q)
    rfl
  refine okG T.F__law_draw sc__law_draw lens fun cdv A outer sh H vs Q E g hr h => ?_
  obtain ⟨ha, F, hs, ds, s1, hh, r, q⟩ := h
  obtain ⟨n, rfl, nz⟩ := mDraw_shape (ds := ds) (h := hs) (fun e => by rw [show m__law_draw ds hs = mDraw ds hs from rfl, e] at q; exact q)
  cases r with
  | cons r1 r2 =>
    cases r2 with
    | cons r2 r3 =>
      cases r3
      cases r2.dp rfl
      rcases r1 with z | ⟨_, a, ea, rfl⟩
      · cases z
      obtain ⟨fa, rr, ne, hd, fr⟩ := hh a ea
      have hu := hu_of hr
      refine ⟨_, pss_cons (ps_set (i := 2) sc__law_draw.nd rfl (.inl rfl) (pe_dget hu (pv 0) pe_str (fun _ _ => rfl)))
        (pss_cons (ps_dput hu (pv 0) pe_str (pe_op op_add (pv 2) pe_int) rfl)
        (pss_cons (ps_if (pt_cmpR op_ge (pv 2) (pe_callB call_len_seq (by rfl) T.n_len PySem.boot_len (pa_cons (pe_dget hu (pv 0) pe_str (fun _ _ => rfl)) pa_nil)) (nomark _)) (pss_one (ps_ret pe_int)) pss_nil)
        (pss_one (ps_ret (pe_op op_modN (pe_callTy call_int1 (by rfl) T.n_int (by decide +kernel) (pa_cons (pe_ix ix_list (pe_dget hu (pv 0) pe_str (fun _ _ => rfl)) (pv 2) (fun _ _ => rfl)) pa_nil)) (pv 1)))))), ?_⟩
      have v1 : valV [((.inr "row" : Key), V.ref rr), (.inr "at", .int hs.pos)] (.inr "at") = some (.int hs.pos) := by simp [valV, row_at]
      refine ⟨.ref a, rfl, a, .int hs.pos, rfl, by rw [← v1]; exact DGet.k (k := .inr "at") hd, ?_⟩
      -- hand["at"] = at + 1
      have p1 : putK [((.inr "row" : Key), V.ref rr), (.inr "at", .int hs.pos)] (.inr "at") (.int (hs.pos + 1)) = [(.inr "row", .ref rr), (.inr "at", .int (hs.pos + 1))] := by
        simp [putK, row_at]
      refine ⟨.int hs.pos, rfl, hs.pos, 1, rfl, rfl, .ref a, rfl, a, upd H a (.dK [(.inr "row", .ref rr), (.inr "at", .int (hs.pos + 1))]), rfl, ?_, ?_⟩
      · rw [← p1]
        exact DPut.k (k := .inr "at") hd (by rw [sizeLine_eq]; exact (by decide : 2 < 16777216))
      have hd2 : upd H a (.dK [(.inr "row", .ref rr), (.inr "at", .int (hs.pos + 1))]) a = some (.dK [(.inr "row", .ref rr), (.inr "at", .int (hs.pos + 1))]) := upd_same
      have v2 : valV [((.inr "row" : Key), V.ref rr), (.inr "at", .int (hs.pos + 1))] (.inr "row") = some (.ref rr) := by
        simp [valV, row_at]
      have hr2 : upd H a (.dK [(.inr "row", .ref rr), (.inr "at", .int (hs.pos + 1))]) rr = some (.lst (hs.row.map V.int)) := by
        rw [upd_ne ne]
        exact s1 _ _ fr
      have gr : DGet (upd H a (.dK [(.inr "row", .ref rr), (.inr "at", .int (hs.pos + 1))])) a (.str "row") (some (.ref rr)) := by
        rw [← v2]
        exact DGet.k (k := .inr "row") hd2
      have q' : ∀ F' H' v, Step ha F H F' H' → HandOK ha F' H' ⟨hs.row, hs.pos + 1⟩ → Rp K F' ha v (.int (if hs.row.length ≤ hs.pos then 0 else (hs.row.getD hs.pos 0).fmod n)) → Q v H' := by
        have e : m__law_draw [tok, .int n] hs = .ok (.int (if hs.row.length ≤ hs.pos then 0 else (hs.row.getD hs.pos 0).fmod n)) ⟨hs.row, hs.pos + 1⟩ := by
          show (if n = 0 then Out.stuck else _) = _
          rw [if_neg nz]
        rw [e] at q
        exact q
      have sub2 : Same F (upd H a (.dK [(.inr "row", .ref rr), (.inr "at", .int (hs.pos + 1))])) := fun b o z => by
        rw [upd_ne (ne_of_none z fa)]
        exact s1 b o z
      have done : ∀ v, Rp K F ha v (.int (if hs.row.length ≤ hs.pos then 0 else (hs.row.getD hs.pos 0).fmod n)) → Q v (upd H a (.dK [(.inr "row", .ref rr), (.inr "at", .int (hs.pos + 1))])) := fun v rv =>
        q' F _ v ⟨Same.refl F, sub2, fun b o z nb => by rw [upd_ne (fun w => nb (by rw [w]; exact ea))]; exact z, fun b z => .inl z⟩ (fun b eb => by
          rw [ea] at eb
          cases eb
          exact ⟨fa, rr, ne, hd2, fr⟩) rv
      -- if at >= len(hand["row"])
      refine ⟨.int hs.pos, rfl, .ref a, rfl, a, .ref rr, rfl, gr, rr, _, rfl, .inl (SqL.of hr2), hs.pos, _, rfl, rfl, _, rfl, ite2 (fun c => ?_) (fun c => ?_)⟩
      · have c' := of_decide_eq_true c
        rw [List.length_map] at c'
        have c2 : hs.row.length ≤ hs.pos := by omega
        refine done _ (.inl ?_)
        rw [if_pos c2]
        exact .int 0
      · have c' : ¬ (((hs.row.map V.int).length : Nat) : Int) ≤ hs.pos := fun z => c (decide_eq_true z)
        rw [List.length_map] at c'
        have c2 : ¬ hs.row.length ≤ hs.pos := by omega
        have lt : hs.pos < hs.row.length := by omega
        have it : atI (hs.row.map V.int) hs.pos = some (.int (hs.row.getD hs.pos 0)) := atI_nat (by rw [List.getElem?_map, List.getElem?_eq_getElem lt]; simp [List.getD, List.getElem?_eq_getElem lt])
        refine ⟨.ref a, rfl, a, .ref rr, rfl, gr, .int hs.pos, rfl, rr, _, hs.pos, _, rfl, rfl, SqL.of hr2, it, .inl ⟨_, rfl, .int n, rfl, _, n, rfl, rfl, nz, ?_⟩⟩
        refine done _ (.inl ?_)
        rw [if_neg c2]
        exact .int _
theorem ok__law_just (T : Txt K mg ad fd) : FnG P w K mg base (L2.CX P w) 1 (ad 19) (fd 19) ["told", "due"] (spM K (clOf ad) fldOf m__law_just) :=
  okM T.F__law_just sc__law_just rfl (fun cdv A outer sh H E ha F0 qt hr => (p_one (p_ret (E_and (E_cmp (op_eqA hr.units) eq_ok (e_var 0) (e_var 1)) (E_one (E_cmp (op_eqA hr.units) eq_ok (E_callB (call_reprD qt hr.units) repr_ok (by rfl) T.n_repr (by decide +kernel) (A_cons (e_var 0) A_nil)) (E_callB (call_reprD qt hr.units) repr_ok (by rfl) T.n_repr (by decide +kernel) (A_cons (e_var 1) A_nil))))))))
theorem ok__law_common (T : Txt K mg ad fd) : FnG P w K mg base (L2.CX P w) 1 (ad 20) (fd 20) ["a", "b"] (spM K (clOf ad) fldOf m__law_common) :=
  okM T.F__law_common sc__law_common rfl (fun cdv A outer sh H E ha F0 qt hr => (p_cons (p_forR1 [2] (gN_ok) (aLenC aLenN) (ps_for PassesOwn.leaving rfl (pi_range1 (by rfl) T.n_range (A_cons E_int A_nil)) (pg_name (i := 2) sc__law_common.nd rfl (by first | exact Or.inl rfl | exact Or.inr rfl)) (p_cons (p_if (T_cmp (op_eqA hr.units) eq_ok (e_var 1) E_int)
 (p_one p_break)
 p_nil)
 (p_one (p_par 0 1 (ps_par rfl sc__law_common.nd rfl rfl (by decide) rfl rfl (A_cons (e_var 1) (A_cons (E_op op_modN mod_ok (E_callTy call_int1 int_ok (by rfl) T.n_int (by decide +kernel) (A_cons (e_var 0) A_nil)) (E_callTy call_int1 int_ok (by rfl) T.n_int (by decide +kernel) (A_cons (e_var 1) A_nil))) A_nil)) (by rfl)))))))
 (p_one (p_ret (e_var 0)))))
theorem ok__law_small_row (T : Txt K mg ad fd) : FnG P w K mg base (L2.CX P w) 2 (ad 21) (fd 21) ["hand"] (spM K (clOf ad) fldOf m__law_small_row) :=
  okM T.F__law_small_row sc__law_small_row rfl (fun cdv A outer sh H E ha F0 qt hr => (p_cons (p_set 1 sc__law_small_row.nd (E_ix rfl (E_tup (A_cons E_int (A_cons E_int (A_cons E_int (A_cons E_int (A_cons E_int (A_cons E_int A_nil))))))) (E_call qt (takes_of rfl rfl rfl rfl) (ok__law_draw T) (hr.mono (by decide)) (by rfl) T.g__law_draw T.F__law_draw.kp T.b__law_draw (A_cons (e_var 0) (A_cons E_int A_nil)))))
 (p_cons (p_set 2 sc__law_small_row.nd (E_ix rfl (E_tup (A_cons E_int (A_cons E_int (A_cons E_int (A_cons E_int (A_cons E_int (A_cons E_int (A_cons E_int (A_cons E_int (A_cons E_int (A_cons E_int (A_cons E_int (A_cons E_int A_nil))))))))))))) (E_call qt (takes_of rfl rfl rfl rfl) (ok__law_draw T) (hr.mono (by decide)) (by rfl) T.g__law_draw T.F__law_draw.kp T.b__law_draw (A_cons (e_var 0) (A_cons E_int A_nil)))))
 (p_one (p_ret (E_tup (A_cons E_str (A_cons (e_var 1) (A_cons (e_var 2) (A_cons (E_ix rfl (E_tup (A_cons E_int (A_cons E_int (A_cons E_int (A_cons E_int (A_cons E_int A_nil)))))) (E_call qt (takes_of rfl rfl rfl rfl) (ok__law_draw T) (hr.mono (by decide)) (by rfl) T.g__law_draw T.F__law_draw.kp T.b__law_draw (A_cons (e_var 0) (A_cons E_int A_nil)))) A_nil))))))))))
theorem ok__law_families (T : Txt K mg ad fd) : FnG P w K mg base (L2.CX P w) 2 (ad 22) (fd 22) ["one", "other"] (spM K (clOf ad) fldOf m__law_families) :=
  okM T.F__law_families sc__law_families rfl (fun cdv A outer sh H E ha F0 qt hr => (p_cons (p_set 2 sc__law_families.nd (E_call qt (takes_of rfl rfl rfl rfl) (ok__law_common T) (hr.mono (by decide)) (by rfl) T.g__law_common T.F__law_common.kp T.b__law_common (A_cons (E_ix rfl (e_var 0) E_int) (A_cons (E_ix rfl (e_var 1) E_int) A_nil))))
 (p_cons (p_newD 3 sc__law_families.nd)
 (p_cons (p_forR2 [4] (gN_ok) (aLenC (aLenC aLenN)) (ps_for PassesOwn.leaving rfl (pi_range2 (by rfl) T.n_range (A_cons E_int (A_cons E_int A_nil))) (pg_name (i := 4) sc__law_families.nd rfl (by first | exact Or.inl rfl | exact Or.inr rfl)) (p_one (p_forR2 [7] (gN_ok) (aLenC (aLenC aLenN)) (ps_for PassesOwn.leaving rfl (pi_range2 (by rfl) T.n_range (A_cons E_int (A_cons E_int A_nil))) (pg_name (i := 7) sc__law_families.nd rfl (by first | exact Or.inl rfl | exact Or.inr rfl)) (p_cons (p_set 6 sc__law_families.nd (E_op op_sub sub_ok (E_op op_sub sub_ok (E_op op_addA add_ok (E_ix rfl (e_var 0) E_int) (E_op op_mulA mul_ok (e_var 4) (E_ix rfl (e_var 0) E_int))) (E_ix rfl (e_var 1) E_int)) (E_op op_mulA mul_ok (e_var 7) (E_ix rfl (e_var 1) E_int))))
 (p_one (p_if (PW.pt (W_and (T_chain op_le le_ok op_le le_ok (E_neg (E_ix rfl (e_var 0) E_int)) (e_var 6) (E_ix rfl (e_var 1) E_int)) (W_and1 (T_ninD (hu_of hr) (e_var 6) (pv 3)))))
 (p_one (p_putD 3 (hu_of hr) (pv 3) (e_var 6) (E_tup (A_cons (e_var 4) (A_cons (e_var 7) A_nil)))))
 p_nil))))))))
 (p_cons (p_new 5 sc__law_families.nd)
 (p_cons (p_for' [6] rfl (gN_ok) (ps_for PassesOwn.leaving rfl (i_seq (e_sortD (pe_callB (call_sortedDI rfl) (by rfl) T.n_sorted (by decide +kernel) (pa_cons (pv 3) pa_nil)))) (pg_name (i := 6) sc__law_families.nd rfl (by first | exact Or.inl rfl | exact Or.inr rfl)) (p_one (p_app 5 (pe_bm PySem.F.plainAttrs_list PySem.F.slot_list_append PySem.F.type_list_append mt_append (pv 5) (pa_cons (E_op op_addA add_ok (E_op op_addA add_ok (E_tup (A_cons (e_var 6) A_nil)) (e_getD (hu_of hr) (pv 3) (e_var 6))) (E_tup (A_cons (E_op op_fdivW div_ok (E_ix rfl (e_var 1) E_int) (e_var 2)) (A_cons (E_op op_fdivW div_ok (E_ix rfl (e_var 0) E_int) (e_var 2)) A_nil)))) pa_nil))))))
 (p_frz 5 (p_one (p_ret (E_callTy call_tuple_of tuple_ok (by rfl) T.n_tuple (by decide +kernel) (A_cons (e_var 5) A_nil)))))))))))
theorem ok__law_many (T : Txt K mg ad fd) : FnG P w K mg base (L2.CX P w) 1 (ad 23) (fd 23) ["families", "k"] (spM K (clOf ad) fldOf m__law_many) :=
  okM T.F__law_many sc__law_many rfl (fun cdv A outer sh H E ha F0 qt hr => (p_cons (p_set 2 sc__law_many.nd E_int)
 (p_cons (p_for' [3, 4, 5, 6, 7] rfl (gTup_ok (gCons_ok (gN_ok) (gCons_ok (gN_ok) (gCons_ok (gN_ok) (gCons_ok (gN_ok) (gCons_ok (gN_ok) gNil_ok)))))) (ps_for PassesOwn.leaving rfl (i_seq (e_var 0)) (pg_tup rfl (pgs_cons (pg_name (i := 3) sc__law_many.nd rfl (by first | exact Or.inl rfl | exact Or.inr rfl)) (pgs_cons (pg_name (i := 4) sc__law_many.nd rfl (by first | exact Or.inl rfl | exact Or.inr rfl)) (pgs_cons (pg_name (i := 5) sc__law_many.nd rfl (by first | exact Or.inl rfl | exact Or.inr rfl)) (pgs_cons (pg_name (i := 6) sc__law_many.nd rfl (by first | exact Or.inl rfl | exact Or.inr rfl)) (pgs_cons (pg_name (i := 7) sc__law_many.nd rfl (by first | exact Or.inl rfl | exact Or.inr rfl)) pgs_nil)))))) (p_one (p_if (PW.pt (W_and (T_cmp op_le le_ok (e_var 4) (e_var 1)) (W_and1 (T_cmp op_le le_ok (e_var 5) (e_var 1)))))
 (p_one (p_set 2 sc__law_many.nd (E_op op_addA add_ok (E_op op_addA add_ok (e_var 2) E_int) (E_callB (call_min2 rfl) ii_ok (by rfl) T.n_min (by decide +kernel) (A_cons (E_op op_fdivW div_ok (E_op op_sub sub_ok (e_var 1) (e_var 4)) (E_callB (call_max2 rfl) ii_ok (by rfl) T.n_max (by decide +kernel) (A_cons E_int (A_cons (e_var 6) A_nil)))) (A_cons (E_op op_fdivW div_ok (E_op op_sub sub_ok (e_var 1) (e_var 5)) (E_callB (call_max2 rfl) ii_ok (by rfl) T.n_max (by decide +kernel) (A_cons E_int (A_cons (e_var 7) A_nil)))) A_nil))))))
 p_nil))))
 (p_one (p_ret (e_var 2))))))
theorem ok__law_tried (T : Txt K mg ad fd) : FnG P w K mg base (L2.CX P w) 1 (ad 24) (fd 24) ["one", "other", "k"] (spM K (clOf ad) fldOf m__law_tried) :=
  okM T.F__law_tried sc__law_tried rfl (fun cdv A outer sh H E ha F0 qt hr => (p_cons (p_set 3 sc__law_tried.nd E_int)
 (p_cons (p_forR2 [4] (gN_ok) (aLenC (aLenC aLenN)) (ps_for PassesOwn.leaving rfl (pi_range2 (by rfl) T.n_range (A_cons E_int (A_cons (E_op op_addA add_ok (e_var 2) E_int) A_nil))) (pg_name (i := 4) sc__law_tried.nd rfl (by first | exact Or.inl rfl | exact Or.inr rfl)) (p_one (p_forR2 [5] (gN_ok) (aLenC (aLenC aLenN)) (ps_for PassesOwn.leaving rfl (pi_range2 (by rfl) T.n_range (A_cons E_int (A_cons (E_op op_addA add_ok (e_var 2) E_int) A_nil))) (pg_name (i := 5) sc__law_tried.nd rfl (by first | exact Or.inl rfl | exact Or.inr rfl)) (p_cons (p_set 6 sc__law_tried.nd (E_op op_sub sub_ok (E_op op_sub sub_ok (E_op op_addA add_ok (E_ix rfl (e_var 0) E_int) (E_op op_mulA mul_ok (e_var 4) (E_ix rfl (e_var 0) E_int))) (E_ix rfl (e_var 1) E_int)) (E_op op_mulA mul_ok (e_var 5) (E_ix rfl (e_var 1) E_int))))
 (p_one (p_if (T_chain op_le le_ok op_le le_ok (E_neg (E_ix rfl (e_var 0) E_int)) (e_var 6) (E_ix rfl (e_var 1) E_int))
 (p_one (p_set 3 sc__law_tried.nd (E_op op_addA add_ok (e_var 3) E_int)))
 p_nil))))))))
 (p_one (p_ret (e_var 3))))))
theorem ok__law_heard_beats (T : Txt K mg ad fd) : FnG P w K mg base (L2.CX P w) 17 (ad 25) (fd 25) ["which", "one", "other", "k"] (spM K (clOf ad) fldOf m__law_heard_beats) :=
  okM T.F__law_heard_beats sc__law_heard_beats rfl (fun cdv A outer sh H E ha F0 qt hr => (p_cons (p_set 4 sc__law_heard_beats.nd (E_tup (A_cons E_str A_nil)))
 (p_cons (p_try 3 rfl rfl sc__law_heard_beats.nd (takes_of rfl rfl rfl rfl) (fun W pn xe tk' _ => (p_one (p_if (T_cmp (op_eqA hr.units) eq_ok (e_var 0) E_int)
 (p_one (p_set 4 sc__law_heard_beats.nd (E_tup (A_cons E_str (A_cons (E_call qt tk' (ok_met_families T) (hr.mono (by decide)) (by rfl) T.g_met_families T.F_met_families.kp T.b_met_families (A_cons (e_var 1) (A_cons (e_var 2) A_nil))) A_nil)))))
 (p_one (p_if (T_cmp (op_eqA hr.units) eq_ok (e_var 0) E_int)
 (p_one (p_set 4 sc__law_heard_beats.nd (E_tup (A_cons E_str (A_cons (E_call qt tk' (ok_first_met T) (hr.mono (by decide)) (by rfl) T.g_first_met T.F_first_met.kp T.b_first_met (A_cons (e_var 1) (A_cons (e_var 2) A_nil))) A_nil)))))
 (p_one (p_if (T_cmp (op_eqA hr.units) eq_ok (e_var 0) E_int)
 (p_one (p_set 4 sc__law_heard_beats.nd (E_tup (A_cons E_str (A_cons (E_call qt tk' (ok_ever_meet T) (hr.mono (by decide)) (by rfl) T.g_ever_meet T.F_ever_meet.kp T.b_ever_meet (A_cons (e_var 1) (A_cons (e_var 2) A_nil))) A_nil)))))
 (p_one (p_set 4 sc__law_heard_beats.nd (E_tup (A_cons E_str (A_cons (E_call qt tk' (ok_met_number T) (hr.mono (by decide)) (by rfl) T.g_met_number T.F_met_number.kp T.b_met_number (A_cons (e_var 1) (A_cons (e_var 2) (A_cons (e_var 3) A_nil)))) A_nil))))))))))))
 (ClsOk.named (i := 5) (hc := ⟨by rfl, by decide, Or.inl T.g_BadBounds⟩) (hi := rfl) (hln := rfl) (ts := fun a cls dd => tS (Gh.sees (gS K (clOf ad) fldOf ha H F0 E) a cls dd) ((sSet 4 (cA mkTup (aC (cK (.str "bounds")) (aC (gExc [1] (fun _ x => ret x) 5) (aC (gExc [1] (fun c _ => ret (.bool ((isX 3) c))) 5) (aC (gExc [1] (fun c _ => ret (.bool ((isX 0) c || (isX 2) c))) 5) aN)))))))) (hsu := fun a oe cls dd pn hz hf => (p_one (p_set 4 sc__law_heard_beats.nd (E_tup (A_cons E_str (A_cons (e_excF (G := (gS K (clOf ad) fldOf ha H F0 E)) [1] 5 rfl (T.xf__law_heard_beats_0) hz hf (pv 5)) (A_cons (e_excI (G := gS K (clOf ad) fldOf ha H F0 E) (C := clOf ad 3) [1] 5 (isX 3) rfl (fun c m => ⟨T.ec c (T.low__law_heard_beats_0 c m), T.ko c 3 (T.low__law_heard_beats_0 c m) (by decide)⟩) hz hf (fun r hcr => pe_callB hcr (by rfl) T.n_isinstance (by decide +kernel) (pa_cons (pv 5) (pa_cons (pe_glob (v := .ref (clOf ad 3)) (by rfl) T.g_ClockError rfl) pa_nil)))) (A_cons (e_excIT (G := gS K (clOf ad) fldOf ha H F0 E) (C := clOf ad 0) (C2 := clOf ad 2) [1] 5 (isX 0) (isX 2) rfl (fun c m => ⟨T.ec c (T.low__law_heard_beats_0 c m), T.ko c 0 (T.low__law_heard_beats_0 c m) (by decide), T.ko c 2 (T.low__law_heard_beats_0 c m) (by decide)⟩) hz hf (fun r hcr => pe_callB hcr (by rfl) T.n_isinstance (by decide +kernel) (pa_cons (pv 5) (pa_cons (pe_tup (pa_cons (pe_glob (v := .ref (clOf ad 0)) (by rfl) T.g_BadNumber rfl) (pa_cons (pe_glob (v := .ref (clOf ad 2)) (by rfl) T.g_BadCase rfl) pa_nil))) pa_nil)))) A_nil)))))))) (r := (ClsOk.named (i := 5) (hc := ⟨by rfl, by decide, Or.inl T.g_BadNumber⟩) (hi := rfl) (hln := rfl) (ts := fun a cls dd => tS (Gh.sees (gS K (clOf ad) fldOf ha H F0 E) a cls dd) ((sSet 4 (cA mkTup (aC (cK (.str "number")) (aC (gExc [0] (fun _ x => ret x) 5) (aC (gExc [0] (fun c _ => ret (.bool ((isX 3) c))) 5) (aC (gExc [0] (fun c _ => ret (.bool ((isX 1) c || (isX 2) c))) 5) aN)))))))) (hsu := fun a oe cls dd pn hz hf => (p_one (p_set 4 sc__law_heard_beats.nd (E_tup (A_cons E_str (A_cons (e_excF (G := (gS K (clOf ad) fldOf ha H F0 E)) [0] 5 rfl (T.xf__law_heard_beats_1) hz hf (pv 5)) (A_cons (e_excI (G := gS K (clOf ad) fldOf ha H F0 E) (C := clOf ad 3) [0] 5 (isX 3) rfl (fun c m => ⟨T.ec c (T.low__law_heard_beats_1 c m), T.ko c 3 (T.low__law_heard_beats_1 c m) (by decide)⟩) hz hf (fun r hcr => pe_callB hcr (by rfl) T.n_isinstance (by decide +kernel) (pa_cons (pv 5) (pa_cons (pe_glob (v := .ref (clOf ad 3)) (by rfl) T.g_ClockError rfl) pa_nil)))) (A_cons (e_excIT (G := gS K (clOf ad) fldOf ha H F0 E) (C := clOf ad 1) (C2 := clOf ad 2) [0] 5 (isX 1) (isX 2) rfl (fun c m => ⟨T.ec c (T.low__law_heard_beats_1 c m), T.ko c 1 (T.low__law_heard_beats_1 c m) (by decide), T.ko c 2 (T.low__law_heard_beats_1 c m) (by decide)⟩) hz hf (fun r hcr => pe_callB hcr (by rfl) T.n_isinstance (by decide +kernel) (pa_cons (pv 5) (pa_cons (pe_tup (pa_cons (pe_glob (v := .ref (clOf ad 1)) (by rfl) T.g_BadBounds rfl) (pa_cons (pe_glob (v := .ref (clOf ad 2)) (by rfl) T.g_BadCase rfl) pa_nil))) pa_nil)))) A_nil)))))))) (r := (ClsOk.named (i := 5) (hc := ⟨by rfl, by decide, Or.inl T.g_BadCase⟩) (hi := rfl) (hln := rfl) (ts := fun a cls dd => tS (Gh.sees (gS K (clOf ad) fldOf ha H F0 E) a cls dd) ((sSet 4 (cA mkTup (aC (cK (.str "case")) (aC (gExc [2] (fun _ x => ret x) 5) (aC (gExc [2] (fun c _ => ret (.bool ((isX 3) c))) 5) (aC (gExc [2] (fun c _ => ret (.bool ((isX 0) c || (isX 1) c))) 5) aN)))))))) (hsu := fun a oe cls dd pn hz hf => (p_one (p_set 4 sc__law_heard_beats.nd (E_tup (A_cons E_str (A_cons (e_excF (G := (gS K (clOf ad) fldOf ha H F0 E)) [2] 5 rfl (T.xf__law_heard_beats_2) hz hf (pv 5)) (A_cons (e_excI (G := gS K (clOf ad) fldOf ha H F0 E) (C := clOf ad 3) [2] 5 (isX 3) rfl (fun c m => ⟨T.ec c (T.low__law_heard_beats_2 c m), T.ko c 3 (T.low__law_heard_beats_2 c m) (by decide)⟩) hz hf (fun r hcr => pe_callB hcr (by rfl) T.n_isinstance (by decide +kernel) (pa_cons (pv 5) (pa_cons (pe_glob (v := .ref (clOf ad 3)) (by rfl) T.g_ClockError rfl) pa_nil)))) (A_cons (e_excIT (G := gS K (clOf ad) fldOf ha H F0 E) (C := clOf ad 0) (C2 := clOf ad 1) [2] 5 (isX 0) (isX 1) rfl (fun c m => ⟨T.ec c (T.low__law_heard_beats_2 c m), T.ko c 0 (T.low__law_heard_beats_2 c m) (by decide), T.ko c 1 (T.low__law_heard_beats_2 c m) (by decide)⟩) hz hf (fun r hcr => pe_callB hcr (by rfl) T.n_isinstance (by decide +kernel) (pa_cons (pv 5) (pa_cons (pe_tup (pa_cons (pe_glob (v := .ref (clOf ad 0)) (by rfl) T.g_BadNumber rfl) (pa_cons (pe_glob (v := .ref (clOf ad 1)) (by rfl) T.g_BadBounds rfl) pa_nil))) pa_nil)))) A_nil)))))))) (r := (ClsOk.plain (hc := ⟨by rfl, by decide, Or.inl T.g_ClockError⟩) (ts := fun a cls dd => tS (Gh.sees (gS K (clOf ad) fldOf ha H F0 E) a cls dd) ((sSet 4 (cA mkTup (aC (cK (.str "else")) aN))))) (hsu := fun a oe cls dd pn hz hf => (p_one (p_set 4 sc__law_heard_beats.nd (E_tup (A_cons E_str A_nil))))) (r := ClsOk.nil))))))))
 (HsOk.cons ⟨fun c hc => T.exm c 1 hc (by decide), rfl, fun _ _ _ => rfl⟩ (HsOk.cons ⟨fun c hc => T.exm c 0 hc (by decide), rfl, fun _ _ _ => rfl⟩ (HsOk.cons ⟨fun c hc => T.exm c 2 hc (by decide), rfl, fun _ _ _ => rfl⟩ (HsOk.cons ⟨fun c hc => T.exm c 3 hc (by decide), rfl, fun _ _ _ => rfl⟩ HsOk.nil)))))
 (p_one (p_ret (e_var 4))))))
theorem ok__law_two_right (T : Txt K mg ad fd) : FnG P w K mg base (L2.CX P w) 18 (ad 26) (fd 26) ["hand", "one", "other", "families"] (spM K (clOf ad) fldOf m__law_two_right) :=
  okM T.F__law_two_right sc__law_two_right rfl (fun cdv A outer sh H E ha F0 qt hr => (p_cons (p_set 4 sc__law_two_right.nd E_non)
 (p_cons (p_if (T_cmp op_gt gt_ok (E_callB call_lenA len_ok (by rfl) T.n_len (by decide +kernel) (A_cons (e_var 3) A_nil)) E_int)
 (p_one (p_set 4 sc__law_two_right.nd (E_callB (cr_min rfl) minL_ok (by rfl) T.n_min (by decide +kernel) (A_cons (e_lc (gN_ok) (pe_lc (own := [("family", 14)]) (g := (gName 14)) rfl sc__law_two_right.nd (i_seq (e_var 3)) (blkOk_by (N := ["hand", "one", "other", "families", "first", "given", "back", "turned", "k", "apart", "i", "j", "di", "dj", "family"]) (sc := defScope st__law_two_right) (by decide +kernel)) (fun _ _ _ _ _ => pg_name (i := 14) sc__law_two_right.nd rfl (by first | exact Or.inl rfl | exact Or.inr rfl)) (fun _ _ _ _ _ => Q_yes) (fun _ _ _ _ _ => (E_callB (call_max2 rfl) ii_ok (by rfl) T.n_max (by decide +kernel) (A_cons (E_ix rfl (e_var 14) E_int) (A_cons (E_ix rfl (e_var 14) E_int) A_nil)))))) A_nil))))
 p_nil)
 (p_cons (p_set 5 sc__law_two_right.nd (E_ix rfl (E_tup (A_cons (e_var 1) (A_cons (E_callTy call_list_of list_ok (by rfl) T.n_list (by decide +kernel) (A_cons (e_var 1) A_nil)) A_nil))) (E_call qt (takes_of rfl rfl rfl rfl) (ok__law_draw T) (hr.mono (by decide)) (by rfl) T.g__law_draw T.F__law_draw.kp T.b__law_draw (A_cons (e_var 0) (A_cons E_int A_nil)))))
 (p_cons (p_set 6 sc__law_two_right.nd (E_ix rfl (E_tup (A_cons (E_callTy call_list_of list_ok (by rfl) T.n_list (by decide +kernel) (A_cons (e_var 2) A_nil)) (A_cons (e_var 2) A_nil))) (E_call qt (takes_of rfl rfl rfl rfl) (ok__law_draw T) (hr.mono (by decide)) (by rfl) T.g__law_draw T.F__law_draw.kp T.b__law_draw (A_cons (e_var 0) (A_cons E_int A_nil)))))
 (p_cons (p_if (T_not (T_val (E_call qt (takes_of rfl rfl rfl rfl) (ok__law_just T) (hr.mono (by decide)) (by rfl) T.g__law_just T.F__law_just.kp T.b__law_just (A_cons (E_call qt (takes_of rfl rfl rfl rfl) (ok__law_heard_beats T) (hr.mono (by decide)) (by rfl) T.g__law_heard_beats T.F__law_heard_beats.kp T.b__law_heard_beats (A_cons E_int (A_cons (e_var 5) (A_cons (e_var 6) (A_cons E_int A_nil))))) (A_cons (E_tup (A_cons E_str (A_cons (e_var 3) A_nil))) A_nil)))))
 (p_one (p_ret E_bl))
 p_nil)
 (p_cons (p_if (T_not (T_val (E_call qt (takes_of rfl rfl rfl rfl) (ok__law_just T) (hr.mono (by decide)) (by rfl) T.g__law_just T.F__law_just.kp T.b__law_just (A_cons (E_call qt (takes_of rfl rfl rfl rfl) (ok__law_heard_beats T) (hr.mono (by decide)) (by rfl) T.g__law_heard_beats T.F__law_heard_beats.kp T.b__law_heard_beats (A_cons E_int (A_cons (e_var 5) (A_cons (e_var 6) (A_cons E_int A_nil))))) (A_cons (E_tup (A_cons E_str (A_cons (e_var 4) A_nil))) A_nil)))))
 (p_one (p_ret E_bl))
 p_nil)
 (p_cons (p_if (T_not (T_val (E_call qt (takes_of rfl rfl rfl rfl) (ok__law_just T) (hr.mono (by decide)) (by rfl) T.g__law_just T.F__law_just.kp T.b__law_just (A_cons (E_call qt (takes_of rfl rfl rfl rfl) (ok__law_heard_beats T) (hr.mono (by decide)) (by rfl) T.g__law_heard_beats T.F__law_heard_beats.kp T.b__law_heard_beats (A_cons E_int (A_cons (e_var 5) (A_cons (e_var 6) (A_cons E_int A_nil))))) (A_cons (E_tup (A_cons E_str (A_cons (E_cmp op_gt gt_ok (E_callB call_lenA len_ok (by rfl) T.n_len (by decide +kernel) (A_cons (e_var 3) A_nil)) E_int) A_nil))) A_nil)))))
 (p_one (p_ret E_bl))
 p_nil)
 (p_cons (p_new 7 sc__law_two_right.nd)
 (p_cons (p_for' [9, 10, 11, 12, 13] rfl (gTup_ok (gCons_ok (gN_ok) (gCons_ok (gN_ok) (gCons_ok (gN_ok) (gCons_ok (gN_ok) (gCons_ok (gN_ok) gNil_ok)))))) (ps_for PassesOwn.leaving rfl (i_seq (e_var 3)) (pg_tup rfl (pgs_cons (pg_name (i := 9) sc__law_two_right.nd rfl (by first | exact Or.inl rfl | exact Or.inr rfl)) (pgs_cons (pg_name (i := 10) sc__law_two_right.nd rfl (by first | exact Or.inl rfl | exact Or.inr rfl)) (pgs_cons (pg_name (i := 11) sc__law_two_right.nd rfl (by first | exact Or.inl rfl | exact Or.inr rfl)) (pgs_cons (pg_name (i := 12) sc__law_two_right.nd rfl (by first | exact Or.inl rfl | exact Or.inr rfl)) (pgs_cons (pg_name (i := 13) sc__law_two_right.nd rfl (by first | exact Or.inl rfl | exact Or.inr rfl)) pgs_nil)))))) (p_one (p_app 7 (pe_bm PySem.F.plainAttrs_list PySem.F.slot_list_append PySem.F.type_list_append mt_append (pv 7) (pa_cons (E_tup (A_cons (E_neg (e_var 9)) (A_cons (e_var 11) (A_cons (e_var 10) (A_cons (e_var 13) (A_cons (e_var 12) A_nil)))))) pa_nil))))))
 (p_frz 7 (p_cons (p_if (T_not (T_val (E_call qt (takes_of rfl rfl rfl rfl) (ok__law_just T) (hr.mono (by decide)) (by rfl) T.g__law_just T.F__law_just.kp T.b__law_just (A_cons (E_call qt (takes_of rfl rfl rfl rfl) (ok__law_heard_beats T) (hr.mono (by decide)) (by rfl) T.g__law_heard_beats T.F__law_heard_beats.kp T.b__law_heard_beats (A_cons E_int (A_cons (e_var 6) (A_cons (e_var 5) (A_cons E_int A_nil))))) (A_cons (E_tup (A_cons E_str (A_cons (E_callTy call_tuple_of tuple_ok (by rfl) T.n_tuple (by decide +kernel) (A_cons (E_callB cr_sortedT sortT_ok (by rfl) T.n_sorted (by decide +kernel) (A_cons (e_var 7) A_nil)) A_nil)) A_nil))) A_nil)))))
 (p_one (p_ret E_bl))
 p_nil)
 (p_cons (p_for' [8] rfl (gN_ok) (ps_for PassesOwn.leaving rfl (i_seq (E_tup (A_cons (E_op op_pow pow_ok E_int E_int) (A_cons (E_op op_addA add_ok (E_op op_mulA mul_ok (E_callTy call_int1 int_ok (by rfl) T.n_int (by decide +kernel) (A_cons (E_call qt (takes_of rfl rfl rfl rfl) (ok__law_draw T) (hr.mono (by decide)) (by rfl) T.g__law_draw T.F__law_draw.kp T.b__law_draw (A_cons (e_var 0) (A_cons E_int A_nil))) A_nil)) E_int) E_int) (A_cons (E_op op_addA add_ok (E_op op_pow pow_ok E_int E_int) (E_call qt (takes_of rfl rfl rfl rfl) (ok__law_draw T) (hr.mono (by decide)) (by rfl) T.g__law_draw T.F__law_draw.kp T.b__law_draw (A_cons (e_var 0) (A_cons E_int A_nil)))) A_nil))))) (pg_name (i := 8) sc__law_two_right.nd rfl (by first | exact Or.inl rfl | exact Or.inr rfl)) (p_one (p_if (T_not (T_val (E_call qt (takes_of rfl rfl rfl rfl) (ok__law_just T) (hr.mono (by decide)) (by rfl) T.g__law_just T.F__law_just.kp T.b__law_just (A_cons (E_call qt (takes_of rfl rfl rfl rfl) (ok__law_heard_beats T) (hr.mono (by decide)) (by rfl) T.g__law_heard_beats T.F__law_heard_beats.kp T.b__law_heard_beats (A_cons E_int (A_cons (e_var 5) (A_cons (e_var 6) (A_cons (e_var 8) A_nil))))) (A_cons (E_tup (A_cons E_str (A_cons (E_call qt (takes_of rfl rfl rfl rfl) (ok__law_many T) (hr.mono (by decide)) (by rfl) T.g__law_many T.F__law_many.kp T.b__law_many (A_cons (e_var 3) (A_cons (e_var 8) A_nil))) A_nil))) A_nil)))))
 (p_one (p_ret E_bl))
 p_nil))))
 (p_one (p_ret (E_call qt (takes_of rfl rfl rfl rfl) (ok__law_just T) (hr.mono (by decide)) (by rfl) T.g__law_just T.F__law_just.kp T.b__law_just (A_cons (e_var 5) (A_cons (E_ix rfl (E_tup (A_cons (E_callTy call_list_of list_ok (by rfl) T.n_list (by decide +kernel) (A_cons (e_var 1) A_nil)) (A_cons (e_var 1) A_nil))) (E_callTy call_int1 int_ok (by rfl) T.n_int (by decide +kernel) (A_cons (E_cmp (op_eqA hr.units) eq_ok (e_var 5) (e_var 1)) A_nil))) A_nil))))))))))))))))))
theorem ok__law_small_right (T : Txt K mg ad fd) : FnG P w K mg base (L2.CX P w) 19 (ad 27) (fd 27) ["hand"] (spM K (clOf ad) fldOf m__law_small_right) :=
  okM T.F__law_small_right sc__law_small_right rfl (fun cdv A outer sh H E ha F0 qt hr => (p_cons (p_par 3 4 (ps_par rfl sc__law_small_right.nd rfl rfl (by decide) rfl rfl (A_cons (E_call qt (takes_of rfl rfl rfl rfl) (ok__law_small_row T) (hr.mono (by decide)) (by rfl) T.g__law_small_row T.F__law_small_row.kp T.b__law_small_row (A_cons (e_var 0) A_nil)) (A_cons (E_call qt (takes_of rfl rfl rfl rfl) (ok__law_small_row T) (hr.mono (by decide)) (by rfl) T.g__law_small_row T.F__law_small_row.kp T.b__law_small_row (A_cons (e_var 0) A_nil)) A_nil)) (by rfl)))
 (p_cons (p_set 1 sc__law_small_right.nd (E_call qt (takes_of rfl rfl rfl rfl) (ok__law_families T) (hr.mono (by decide)) (by rfl) T.g__law_families T.F__law_families.kp T.b__law_families (A_cons (e_var 3) (A_cons (e_var 4) A_nil))))
 (p_cons (p_for' [2] rfl (gN_ok) (ps_for PassesOwn.leaving rfl (i_seq (E_tup (A_cons (E_op op_addA add_ok (E_op op_modN mod_ok (E_callTy call_int1 int_ok (by rfl) T.n_int (by decide +kernel) (A_cons (E_call qt (takes_of rfl rfl rfl rfl) (ok__law_draw T) (hr.mono (by decide)) (by rfl) T.g__law_draw T.F__law_draw.kp T.b__law_draw (A_cons (e_var 0) (A_cons E_int A_nil))) A_nil)) E_int) E_int) (A_cons (E_call qt (takes_of rfl rfl rfl rfl) (ok__law_draw T) (hr.mono (by decide)) (by rfl) T.g__law_draw T.F__law_draw.kp T.b__law_draw (A_cons (e_var 0) (A_cons E_int A_nil))) A_nil)))) (pg_name (i := 2) sc__law_small_right.nd rfl (by first | exact Or.inl rfl | exact Or.inr rfl)) (p_one (p_if (T_not (T_val (E_call qt (takes_of rfl rfl rfl rfl) (ok__law_just T) (hr.mono (by decide)) (by rfl) T.g__law_just T.F__law_just.kp T.b__law_just (A_cons (E_call qt (takes_of rfl rfl rfl rfl) (ok__law_heard_beats T) (hr.mono (by decide)) (by rfl) T.g__law_heard_beats T.F__law_heard_beats.kp T.b__law_heard_beats (A_cons E_int (A_cons (e_var 3) (A_cons (e_var 4) (A_cons (e_var 2) A_nil))))) (A_cons (E_tup (A_cons E_str (A_cons (E_call qt (takes_of rfl rfl rfl rfl) (ok__law_tried T) (hr.mono (by decide)) (by rfl) T.g__law_tried T.F__law_tried.kp T.b__law_tried (A_cons (e_var 3) (A_cons (e_var 4) (A_cons (e_var 2) A_nil)))) A_nil))) A_nil)))))
 (p_one (p_ret E_bl))
 p_nil))))
 (p_one (p_ret (E_call qt (takes_of rfl rfl rfl rfl) (ok__law_two_right T) (hr.mono (by decide)) (by rfl) T.g__law_two_right T.F__law_two_right.kp T.b__law_two_right (A_cons (e_var 0) (A_cons (e_var 3) (A_cons (e_var 4) (A_cons (e_var 1) A_nil)))))))))))
theorem ok__law_great_right (T : Txt K mg ad fd) : FnG P w K mg base (L2.CX P w) 19 (ad 28) (fd 28) ["hand"] (spM K (clOf ad) fldOf m__law_great_right) :=
  okM T.F__law_great_right sc__law_great_right rfl (fun cdv A outer sh H E ha F0 qt hr => (p_cons (p_set 1 sc__law_great_right.nd (E_ix rfl (E_tup (A_cons E_int (A_cons E_int (A_cons E_int (A_cons E_int (A_cons E_int A_nil)))))) (E_call qt (takes_of rfl rfl rfl rfl) (ok__law_draw T) (hr.mono (by decide)) (by rfl) T.g__law_draw T.F__law_draw.kp T.b__law_draw (A_cons (e_var 0) (A_cons E_int A_nil)))))
 (p_cons (p_set 2 sc__law_great_right.nd (E_op op_addA add_ok E_int (E_op op_mulA mul_ok E_int (E_call qt (takes_of rfl rfl rfl rfl) (ok__law_draw T) (hr.mono (by decide)) (by rfl) T.g__law_draw T.F__law_draw.kp T.b__law_draw (A_cons (e_var 0) (A_cons E_int A_nil))))))
 (p_cons (p_set 3 sc__law_great_right.nd (E_op op_addA add_ok (E_op op_mulA mul_ok (e_var 2) (E_ix rfl (E_tup (A_cons E_int (A_cons E_int A_nil))) (E_call qt (takes_of rfl rfl rfl rfl) (ok__law_draw T) (hr.mono (by decide)) (by rfl) T.g__law_draw T.F__law_draw.kp T.b__law_draw (A_cons (e_var 0) (A_cons E_int A_nil))))) E_int))
 (p_cons (p_set 4 sc__law_great_right.nd (E_call qt (takes_of rfl rfl rfl rfl) (ok__law_draw T) (hr.mono (by decide)) (by rfl) T.g__law_draw T.F__law_draw.kp T.b__law_draw (A_cons (e_var 0) (A_cons E_int A_nil))))
 (p_cons (p_set 4 sc__law_great_right.nd (E_op op_modN mod_ok (E_callTy call_int1 int_ok (by rfl) T.n_int (by decide +kernel) (A_cons (e_var 4) A_nil)) (e_var 1)))
 (p_cons (p_set 5 sc__law_great_right.nd (E_op op_modN mod_ok (E_callTy call_int1 int_ok (by rfl) T.n_int (by decide +kernel) (A_cons (E_call qt (takes_of rfl rfl rfl rfl) (ok__law_draw T) (hr.mono (by decide)) (by rfl) T.g__law_draw T.F__law_draw.kp T.b__law_draw (A_cons (e_var 0) (A_cons E_int A_nil))) A_nil)) (E_op op_sub sub_ok (e_var 1) (e_var 4))))
 (p_cons (p_set 6 sc__law_great_right.nd (E_op op_sub sub_ok (E_op op_modN mod_ok (E_callTy call_int1 int_ok (by rfl) T.n_int (by decide +kernel) (A_cons (E_call qt (takes_of rfl rfl rfl rfl) (ok__law_draw T) (hr.mono (by decide)) (by rfl) T.g__law_draw T.F__law_draw.kp T.b__law_draw (A_cons (e_var 0) (A_cons E_int A_nil))) A_nil)) (E_op op_addA add_ok (E_op op_addA add_ok (e_var 4) (e_var 5)) E_int)) (e_var 4)))
 (p_cons (p_set 7 sc__law_great_right.nd (E_op op_addA add_ok E_int (E_op op_modN mod_ok (E_callTy call_int1 int_ok (by rfl) T.n_int (by decide +kernel) (A_cons (E_op op_addA add_ok (E_op op_mulA mul_ok E_int (E_call qt (takes_of rfl rfl rfl rfl) (ok__law_draw T) (hr.mono (by decide)) (by rfl) T.g__law_draw T.F__law_draw.kp T.b__law_draw (A_cons (e_var 0) (A_cons E_int A_nil)))) (E_call qt (takes_of rfl rfl rfl rfl) (ok__law_draw T) (hr.mono (by decide)) (by rfl) T.g__law_draw T.F__law_draw.kp T.b__law_draw (A_cons (e_var 0) (A_cons E_int A_nil)))) A_nil)) (e_var 3))))
 (p_cons (p_set 8 sc__law_great_right.nd (E_op op_addA add_ok E_int (E_op op_mulA mul_ok E_int (E_call qt (takes_of rfl rfl rfl rfl) (ok__law_draw T) (hr.mono (by decide)) (by rfl) T.g__law_draw T.F__law_draw.kp T.b__law_draw (A_cons (e_var 0) (A_cons E_int A_nil))))))
 (p_cons (p_if (T_cmp (op_eqA hr.units) eq_ok (E_call qt (takes_of rfl rfl rfl rfl) (ok__law_draw T) (hr.mono (by decide)) (by rfl) T.g__law_draw T.F__law_draw.kp T.b__law_draw (A_cons (e_var 0) (A_cons E_int A_nil))) E_int)
 (p_one (p_par 7 8 (ps_par rfl sc__law_great_right.nd rfl rfl (by decide) rfl rfl (A_cons (E_op op_addA add_ok E_int (E_op op_mulA mul_ok E_int (E_call qt (takes_of rfl rfl rfl rfl) (ok__law_draw T) (hr.mono (by decide)) (by rfl) T.g__law_draw T.F__law_draw.kp T.b__law_draw (A_cons (e_var 0) (A_cons E_int A_nil))))) (A_cons (E_op op_addA add_ok E_int (E_op op_modN mod_ok (E_callTy call_int1 int_ok (by rfl) T.n_int (by decide +kernel) (A_cons (E_op op_addA add_ok (E_op op_mulA mul_ok E_int (E_call qt (takes_of rfl rfl rfl rfl) (ok__law_draw T) (hr.mono (by decide)) (by rfl) T.g__law_draw T.F__law_draw.kp T.b__law_draw (A_cons (e_var 0) (A_cons E_int A_nil)))) (E_call qt (takes_of rfl rfl rfl rfl) (ok__law_draw T) (hr.mono (by decide)) (by rfl) T.g__law_draw T.F__law_draw.kp T.b__law_draw (A_cons (e_var 0) (A_cons E_int A_nil)))) A_nil)) (e_var 2))) A_nil)) (by rfl))))
 p_nil)
 (p_cons (p_set 9 sc__law_great_right.nd (E_op op_sub sub_ok (E_op op_sub sub_ok (E_op op_mulA mul_ok (E_op op_mulA mul_ok (e_var 7) (e_var 2)) (e_var 1)) (E_op op_mulA mul_ok (E_op op_mulA mul_ok (e_var 8) (e_var 3)) (e_var 1))) (e_var 6)))
 (p_cons (p_set 10 sc__law_great_right.nd (E_tup (A_cons E_str (A_cons (E_callB (call_max2 rfl) ii_ok (by rfl) T.n_max (by decide +kernel) (A_cons E_int (A_cons (E_neg (e_var 9)) A_nil))) (A_cons (E_op op_mulA mul_ok (e_var 2) (e_var 1)) (A_cons (e_var 4) A_nil))))))
 (p_cons (p_set 11 sc__law_great_right.nd (E_tup (A_cons E_str (A_cons (E_callB (call_max2 rfl) ii_ok (by rfl) T.n_max (by decide +kernel) (A_cons E_int (A_cons (e_var 9) A_nil))) (A_cons (E_op op_mulA mul_ok (e_var 3) (e_var 1)) (A_cons (e_var 5) A_nil))))))
 (p_one (p_ret (E_call qt (takes_of rfl rfl rfl rfl) (ok__law_two_right T) (hr.mono (by decide)) (by rfl) T.g__law_two_right T.F__law_two_right.kp T.b__law_two_right (A_cons (e_var 0) (A_cons (e_var 10) (A_cons (e_var 11) (A_cons (E_tup (A_cons (E_tup (A_cons (e_var 6) (A_cons (e_var 7) (A_cons (e_var 8) (A_cons (e_var 3) (A_cons (e_var 2) A_nil)))))) A_nil)) A_nil)))))))))))))))))))))
theorem ok__law_wide_right (T : Txt K mg ad fd) : FnG P w K mg base (L2.CX P w) 18 (ad 29) (fd 29) ["hand"] (spM K (clOf ad) fldOf m__law_wide_right) :=
  okM T.F__law_wide_right sc__law_wide_right rfl (fun cdv A outer sh H E ha F0 qt hr => (p_cons (p_par 5 6 (ps_par rfl sc__law_wide_right.nd rfl rfl (by decide) rfl rfl (A_cons (E_call qt (takes_of rfl rfl rfl rfl) (ok__law_draw T) (hr.mono (by decide)) (by rfl) T.g__law_draw T.F__law_draw.kp T.b__law_draw (A_cons (e_var 0) (A_cons E_int A_nil))) (A_cons (E_op op_addA add_ok E_int (E_call qt (takes_of rfl rfl rfl rfl) (ok__law_draw T) (hr.mono (by decide)) (by rfl) T.g__law_draw T.F__law_draw.kp T.b__law_draw (A_cons (e_var 0) (A_cons E_int A_nil)))) A_nil)) (by rfl)))
 (p_cons (p_par 7 8 (ps_par rfl sc__law_wide_right.nd rfl rfl (by decide) rfl rfl (A_cons (E_tup (A_cons E_str (A_cons (e_var 5) (A_cons E_int (A_cons (e_var 6) A_nil))))) (A_cons (E_tup (A_cons E_str (A_cons E_int (A_cons E_int (A_cons (E_op op_sub sub_ok E_int (e_var 6)) A_nil))))) A_nil)) (by rfl)))
 (p_cons (p_new 1 sc__law_wide_right.nd)
 (p_cons (p_forR2 [2] (gN_ok) (aLenC (aLenC aLenN)) (ps_for PassesOwn.leaving rfl (pi_range2 (by rfl) T.n_range (A_cons (E_neg (e_var 6)) (A_cons (E_op op_sub sub_ok E_int (e_var 6)) A_nil))) (pg_name (i := 2) sc__law_wide_right.nd rfl (by first | exact Or.inl rfl | exact Or.inr rfl)) (p_cons (p_set 9 sc__law_wide_right.nd (E_op op_sub sub_ok (e_var 2) (e_var 5)))
 (p_one (p_app 1 (pe_bm PySem.F.plainAttrs_list PySem.F.slot_list_append PySem.F.type_list_append mt_append (pv 1) (pa_cons (E_tup (A_cons (e_var 2) (A_cons (E_callB (call_max2 rfl) ii_ok (by rfl) T.n_max (by decide +kernel) (A_cons E_int (A_cons (E_op op_addA add_ok E_int (e_var 9)) A_nil))) (A_cons (E_callB (call_max2 rfl) ii_ok (by rfl) T.n_max (by decide +kernel) (A_cons E_int (A_cons (E_op op_sub sub_ok E_int (e_var 9)) A_nil))) (A_cons E_int (A_cons E_int A_nil)))))) pa_nil)))))))
 (p_frz 1 (p_cons (p_if (T_cmp (op_eqA hr.units) eq_ok (E_call qt (takes_of rfl rfl rfl rfl) (ok__law_draw T) (hr.mono (by decide)) (by rfl) T.g__law_draw T.F__law_draw.kp T.b__law_draw (A_cons (e_var 0) (A_cons E_int A_nil))) E_int)
 (p_frz 1 (p_cons (p_if (T_not (T_val (E_call qt (takes_of rfl rfl rfl rfl) (ok__law_just T) (hr.mono (by decide)) (by rfl) T.g__law_just T.F__law_just.kp T.b__law_just (A_cons (E_call qt (takes_of rfl rfl rfl rfl) (ok__law_heard_beats T) (hr.mono (by decide)) (by rfl) T.g__law_heard_beats T.F__law_heard_beats.kp T.b__law_heard_beats (A_cons E_int (A_cons (e_var 7) (A_cons (e_var 8) (A_cons E_int A_nil))))) (A_cons (E_tup (A_cons E_str (A_cons (E_callTy call_tuple_of tuple_ok (by rfl) T.n_tuple (by decide +kernel) (A_cons (e_var 1) A_nil)) A_nil))) A_nil)))))
 (p_one (p_ret E_bl))
 p_nil)
 (p_one (p_if (T_not (T_val (E_call qt (takes_of rfl rfl rfl rfl) (ok__law_just T) (hr.mono (by decide)) (by rfl) T.g__law_just T.F__law_just.kp T.b__law_just (A_cons (E_call qt (takes_of rfl rfl rfl rfl) (ok__law_heard_beats T) (hr.mono (by decide)) (by rfl) T.g__law_heard_beats T.F__law_heard_beats.kp T.b__law_heard_beats (A_cons E_int (A_cons (e_var 7) (A_cons (e_var 8) (A_cons E_int A_nil))))) (A_cons (E_tup (A_cons E_str (A_cons E_int A_nil))) A_nil)))))
 (p_one (p_ret E_bl))
 p_nil))))
 p_nil)
 (p_cons (p_set 3 sc__law_wide_right.nd (E_tup (A_cons E_str (A_cons E_int (A_cons E_int (A_cons (E_op op_sub sub_ok E_int (e_var 6)) A_nil))))))
 (p_cons (p_for' [4] rfl (gN_ok) (ps_for PassesOwn.leaving rfl (i_seq (E_tup (A_cons E_int (A_cons E_int (A_cons E_int A_nil))))) (pg_name (i := 4) sc__law_wide_right.nd rfl (by first | exact Or.inl rfl | exact Or.inr rfl)) (p_one (p_if (T_not (T_val (E_call qt (takes_of rfl rfl rfl rfl) (ok__law_just T) (hr.mono (by decide)) (by rfl) T.g__law_just T.F__law_just.kp T.b__law_just (A_cons (E_call qt (takes_of rfl rfl rfl rfl) (ok__law_heard_beats T) (hr.mono (by decide)) (by rfl) T.g__law_heard_beats T.F__law_heard_beats.kp T.b__law_heard_beats (A_cons (e_var 4) (A_cons (e_var 7) (A_cons (e_var 3) (A_cons E_int A_nil))))) (A_cons (E_tup (A_cons E_str (A_cons E_str (A_cons E_bl (A_cons E_bl A_nil))))) A_nil)))))
 (p_one (p_ret E_bl))
 p_nil))))
 (p_one (p_ret (E_call qt (takes_of rfl rfl rfl rfl) (ok__law_just T) (hr.mono (by decide)) (by rfl) T.g__law_just T.F__law_just.kp T.b__law_just (A_cons (E_call qt (takes_of rfl rfl rfl rfl) (ok__law_heard_beats T) (hr.mono (by decide)) (by rfl) T.g__law_heard_beats T.F__law_heard_beats.kp T.b__law_heard_beats (A_cons E_int (A_cons (e_var 7) (A_cons (e_var 3) (A_cons E_int A_nil))))) (A_cons (E_tup (A_cons E_str (A_cons E_bl A_nil))) A_nil))))))))))))))
theorem ok__law_refused (T : Txt K mg ad fd) : FnG P w K mg base (L2.CX P w) 18 (ad 30) (fd 30) ["hand"] (spM K (clOf ad) fldOf m__law_refused) :=
  okM T.F__law_refused sc__law_refused rfl (fun cdv A outer sh H E ha F0 qt hr => (p_cons (p_asg [4, 5, 6] (ps_asg (E_tup (A_cons (E_tup (A_cons E_str (A_cons E_int (A_cons E_int (A_cons E_int A_nil))))) (A_cons (E_tup (A_cons E_str (A_cons E_int (A_cons E_int (A_cons E_int A_nil))))) (A_cons (E_tup (A_cons E_str (A_cons E_int (A_cons E_int (A_cons E_int A_nil))))) A_nil)))) (pg_tup rfl (pgs_cons (pg_name (i := 4) sc__law_refused.nd rfl (by first | exact Or.inl rfl | exact Or.inr rfl)) (pgs_cons (pg_name (i := 5) sc__law_refused.nd rfl (by first | exact Or.inl rfl | exact Or.inr rfl)) (pgs_cons (pg_name (i := 6) sc__law_refused.nd rfl (by first | exact Or.inl rfl | exact Or.inr rfl)) pgs_nil))))) (gTup_ok (gCons_ok (gN_ok) (gCons_ok (gN_ok) (gCons_ok (gN_ok) gNil_ok)))))
 (p_cons (p_set 1 sc__law_refused.nd (E_tup (A_cons E_non (A_cons E_int (A_cons E_str (A_cons (E_tup (A_cons E_str (A_cons E_int (A_cons E_int A_nil)))) (A_cons (E_tup (A_cons E_str (A_cons (E_neg E_int) (A_cons E_int (A_cons E_int A_nil))))) (A_cons (E_tup (A_cons E_str (A_cons E_int (A_cons E_int (A_cons E_int A_nil))))) (A_cons (E_tup (A_cons E_str (A_cons E_int (A_cons E_int (A_cons (E_neg E_int) A_nil))))) (A_cons (E_tup (A_cons E_str (A_cons E_int (A_cons E_int (A_cons E_int A_nil))))) A_nil))))))))))
 (p_cons (p_set 1 sc__law_refused.nd (E_op op_addA add_ok (e_var 1) (E_tup (A_cons (E_tup (A_cons E_str (A_cons E_int (A_cons E_int (A_cons E_int A_nil))))) (A_cons (E_tup (A_cons E_str (A_cons E_bl (A_cons E_int (A_cons E_int A_nil))))) (A_cons (E_tup (A_cons E_str (A_cons E_int (A_cons E_int (A_cons E_int (A_cons E_int A_nil)))))) (A_cons (E_tup (A_cons E_str (A_cons E_int (A_cons E_int (A_cons E_non A_nil))))) (A_cons (E_tup A_nil) A_nil))))))))
 (p_cons (p_forR1 [2] (gN_ok) (aLenC aLenN) (ps_for PassesOwn.leaving rfl (pi_range1 (by rfl) T.n_range (A_cons E_int A_nil)) (pg_name (i := 2) sc__law_refused.nd rfl (by first | exact Or.inl rfl | exact Or.inr rfl)) (p_cons (p_forR1 [7] (gN_ok) (aLenC aLenN) (ps_for PassesOwn.leaving rfl (pi_range1 (by rfl) T.n_range (A_cons (E_callB call_lenA len_ok (by rfl) T.n_len (by decide +kernel) (A_cons (e_var 1) A_nil)) A_nil)) (pg_name (i := 7) sc__law_refused.nd rfl (by first | exact Or.inl rfl | exact Or.inr rfl)) (p_cons (p_set 8 sc__law_refused.nd (E_ix rfl (e_var 1) (e_var 7)))
 (p_cons (p_set 9 sc__law_refused.nd (E_tup (A_cons E_str (A_cons (e_var 8) (A_cons E_bl (A_cons E_bl A_nil))))))
 (p_cons (p_set 10 sc__law_refused.nd (E_tup (A_cons (E_tup (A_cons (e_var 8) (A_cons (E_ix rfl (e_var 1) (E_op op_modN mod_ok (E_callTy call_int1 int_ok (by rfl) T.n_int (by decide +kernel) (A_cons (E_op op_addA add_ok (e_var 7) E_int) A_nil)) (E_callB call_lenA len_ok (by rfl) T.n_len (by decide +kernel) (A_cons (e_var 1) A_nil)))) A_nil))) (A_cons (E_tup (A_cons (e_var 4) (A_cons (e_var 8) A_nil))) (A_cons (E_tup (A_cons (e_var 6) (A_cons (e_var 8) A_nil))) A_nil)))))
 (p_cons (p_asg [11, 12] (ps_asg (E_ix rfl (e_var 10) (E_op op_modN mod_ok (E_callTy call_int1 int_ok (by rfl) T.n_int (by decide +kernel) (A_cons (E_op op_addA add_ok (e_var 7) (e_var 2)) A_nil)) E_int)) (pg_tup rfl (pgs_cons (pg_name (i := 11) sc__law_refused.nd rfl (by first | exact Or.inl rfl | exact Or.inr rfl)) (pgs_cons (pg_name (i := 12) sc__law_refused.nd rfl (by first | exact Or.inl rfl | exact Or.inr rfl)) pgs_nil)))) (gTup_ok (gCons_ok (gN_ok) (gCons_ok (gN_ok) gNil_ok))))
 (p_one (p_if (T_not (T_val (E_call qt (takes_of rfl rfl rfl rfl) (ok__law_just T) (hr.mono (by decide)) (by rfl) T.g__law_just T.F__law_just.kp T.b__law_just (A_cons (E_call qt (takes_of rfl rfl rfl rfl) (ok__law_heard_beats T) (hr.mono (by decide)) (by rfl) T.g__law_heard_beats T.F__law_heard_beats.kp T.b__law_heard_beats (A_cons (e_var 2) (A_cons (e_var 11) (A_cons (e_var 12) (A_cons (E_neg E_int) A_nil))))) (A_cons (e_var 9) A_nil)))))
 (p_one (p_ret E_bl))
 p_nil))))))))
 (p_one (p_for' [11, 12] rfl (gTup_ok (gCons_ok (gN_ok) (gCons_ok (gN_ok) gNil_ok))) (ps_for PassesOwn.leaving rfl (i_seq (E_tup (A_cons (E_tup (A_cons (e_var 6) (A_cons (e_var 5) A_nil))) (A_cons (E_tup (A_cons (e_var 5) (A_cons (e_var 6) A_nil))) (A_cons (E_tup (A_cons (e_var 6) (A_cons (e_var 6) A_nil))) A_nil))))) (pg_tup rfl (pgs_cons (pg_name (i := 11) sc__law_refused.nd rfl (by first | exact Or.inl rfl | exact Or.inr rfl)) (pgs_cons (pg_name (i := 12) sc__law_refused.nd rfl (by first | exact Or.inl rfl | exact Or.inr rfl)) pgs_nil))) (p_one (p_if (T_not (T_val (E_call qt (takes_of rfl rfl rfl rfl) (ok__law_just T) (hr.mono (by decide)) (by rfl) T.g__law_just T.F__law_just.kp T.b__law_just (A_cons (E_call qt (takes_of rfl rfl rfl rfl) (ok__law_heard_beats T) (hr.mono (by decide)) (by rfl) T.g__law_heard_beats T.F__law_heard_beats.kp T.b__law_heard_beats (A_cons (e_var 2) (A_cons (e_var 11) (A_cons (e_var 12) (A_cons E_int A_nil))))) (A_cons (E_tup (A_cons E_str (A_cons E_str (A_cons E_bl (A_cons E_bl A_nil))))) A_nil)))))
 (p_one (p_ret E_bl))
 p_nil))))))))
 (p_cons (p_for' [3] rfl (gN_ok) (ps_for PassesOwn.leaving rfl (i_seq (E_tup (A_cons (E_neg E_int) (A_cons E_bl (A_cons E_non (A_cons E_str A_nil)))))) (pg_name (i := 3) sc__law_refused.nd rfl (by first | exact Or.inl rfl | exact Or.inr rfl)) (p_one (p_for' [11, 12] rfl (gTup_ok (gCons_ok (gN_ok) (gCons_ok (gN_ok) gNil_ok))) (ps_for PassesOwn.leaving rfl (i_seq (E_tup (A_cons (E_tup (A_cons (e_var 4) (A_cons (e_var 4) A_nil))) (A_cons (E_tup (A_cons (e_var 6) (A_cons (e_var 5) A_nil))) (A_cons (E_tup (A_cons (e_var 5) (A_cons (e_var 5) A_nil))) A_nil))))) (pg_tup rfl (pgs_cons (pg_name (i := 11) sc__law_refused.nd rfl (by first | exact Or.inl rfl | exact Or.inr rfl)) (pgs_cons (pg_name (i := 12) sc__law_refused.nd rfl (by first | exact Or.inl rfl | exact Or.inr rfl)) pgs_nil))) (p_one (p_if (T_not (T_val (E_call qt (takes_of rfl rfl rfl rfl) (ok__law_just T) (hr.mono (by decide)) (by rfl) T.g__law_just T.F__law_just.kp T.b__law_just (A_cons (E_call qt (takes_of rfl rfl rfl rfl) (ok__law_heard_beats T) (hr.mono (by decide)) (by rfl) T.g__law_heard_beats T.F__law_heard_beats.kp T.b__law_heard_beats (A_cons E_int (A_cons (e_var 11) (A_cons (e_var 12) (A_cons (e_var 3) A_nil))))) (A_cons (E_tup (A_cons E_str (A_cons (e_var 3) (A_cons E_bl (A_cons E_bl A_nil))))) A_nil)))))
 (p_one (p_ret E_bl))
 p_nil)))))))
 (p_one (p_ret (E_call qt (takes_of rfl rfl rfl rfl) (ok__law_just T) (hr.mono (by decide)) (by rfl) T.g__law_just T.F__law_just.kp T.b__law_just (A_cons (E_call qt (takes_of rfl rfl rfl rfl) (ok__law_heard_beats T) (hr.mono (by decide)) (by rfl) T.g__law_heard_beats T.F__law_heard_beats.kp T.b__law_heard_beats (A_cons E_int (A_cons (e_var 4) (A_cons (e_var 4) (A_cons E_int A_nil))))) (A_cons (E_tup (A_cons E_str (A_cons E_int A_nil))) A_nil)))))))))))
theorem ok_law (T : Txt K mg ad fd) (tru : ∀ row, GoodRow row → ∃ ρ h, s_law [.no, .dat tok] ⟨row, 0⟩ = .ok (.rt (.bool true)) ρ h) : FnG P w K mg base (L2.CX P w) 20 (ad 31) (fd 31) ["script"] (spLaw K) := by
  refine okG T.F_law sc_law (fun vs H Q E ⟨_, _, e, _⟩ => by rw [e]; rfl) fun cdv A outer sh H vs Q E qt hr h => ?_
  obtain ⟨a, ns, rfl, hS, hl, q⟩ := h
  refine ⟨_, pss_cons (ps_set (i := 1) sc_law.nd rfl (.inl rfl) (pe_callG qt (ok__law_hand T) (hr.mono (by decide)) (by rfl) T.g__law_hand T.F__law_hand.kp T.b__law_hand (fun σ => passAt (W := fun c d _ H => E c d H) (takes_of rfl rfl rfl rfl) σ) (pa_cons (pv 0) pa_nil)))
    (p_any (K := K) (cl := clOf ad) (fld := fldOf) (E := E) (s := s_law) (fun ha H0 F0 => (p_cons (p_if (PW.pt (W_or (T_not (T_val (E_call qt (takes_of rfl rfl rfl rfl) (ok__law_small_right T) (hr.mono (by decide)) (by rfl) T.g__law_small_right T.F__law_small_right.kp T.b__law_small_right (A_cons (e_var 1) A_nil)))) (W_or1 (T_not (T_val (E_call qt (takes_of rfl rfl rfl rfl) (ok__law_great_right T) (hr.mono (by decide)) (by rfl) T.g__law_great_right T.F__law_great_right.kp T.b__law_great_right (A_cons (e_var 1) A_nil)))))))
 (p_one (p_ret E_bl))
 p_nil)
 (p_one (p_ret (E_and (E_call qt (takes_of rfl rfl rfl rfl) (ok__law_wide_right T) (hr.mono (by decide)) (by rfl) T.g__law_wide_right T.F__law_wide_right.kp T.b__law_wide_right (A_cons (e_var 1) A_nil)) (E_one (E_call qt (takes_of rfl rfl rfl rfl) (ok__law_refused T) (hr.mono (by decide)) (by rfl) T.g__law_refused T.F__law_refused.kp T.b__law_refused (A_cons (e_var 1) A_nil))))))))), ?_⟩
  refine ⟨.ref a, rfl, a, ns, rfl, hS, hl, fun H' d r row ne hd hr' gR lR => ?_⟩
  have nf : upd (fun _ => none : Hp) r (.lst (row.map V.int)) d = none := by
    rw [upd_ne (fun e => ne e.symm)]
  have sf : Same (upd (fun _ => none : Hp) r (.lst (row.map V.int))) H' := fun b o e => by
    by_cases hb : b = r
    · subst hb
      rw [upd_same] at e
      cases e
      exact hr'
    · rw [upd_ne hb] at e
      cases e
  refine ⟨some d, fun _ => none, upd (fun _ => none : Hp) r (.lst (row.map V.int)), upd (fun _ => none : Hp) r (.lst (row.map V.int)), ⟨row, 0⟩, [.no, .dat tok], ?_, ?_⟩
  · refine ⟨sf, fun b e => ?_, fun b o e => (by cases e), Same.refl _, fun b e => .inr rfl, rfl, fun i s e => ?_, fun i j xs ys b hij e1 e2 o1 o2 e3 => ?_⟩
    · cases e
      exact ⟨nf, r, ne, hd, upd_same⟩
    · rcases Nat.lt_or_ge i 2 with hi | hi
      · revert e
        revert i
        intro i hi e
        by_cases h1 : i = 1
        · subst h1
          cases e
          exact ⟨.ref d, rfl, .inr ⟨rfl, d, rfl, rfl⟩⟩
        · have m : s = .no := by
            have key : ∀ i < 2, i ≠ 1 → ([.no, .dat tok] : Rho)[i]? = some .no := by
              intro i hi h1
              match i, hi with
              | 0, _ => first | rfl | exact absurd rfl h1
              | 1, _ => first | rfl | exact absurd rfl h1
            rw [key i hi h1] at e
            exact (Option.some.inj e).symm
          subst m
          trivial
      · rw [List.getElem?_eq_none (by simpa using hi)] at e
        cases e
    · have m := List.mem_of_getElem? e1
      simp only [List.mem_cons, List.not_mem_nil, or_false] at m
      rcases m with rfl | rfl <;> cases o1
  · obtain ⟨ρ', h', e⟩ := tru row gR
    show postS _ _ _ (s_law [.no, .dat tok] ⟨row, 0⟩)
    rw [e]
    intro F2 H2 σ2 v _ _ rv
    cases rv.dp rfl
    exact q H2
end
end L2.AR.T
set_option Elab.async false
set_option linter.all false
set_option maxRecDepth 100000
set_option maxHeartbeats 8000000
namespace L2.AR.T
open PySem PySem.Spec PyProof.Rows
theorem cls_mk {K : PySem.W.Frag} {C : Addr} {nm q : Str} {N : Addr} {bs bm : List Value} {sn : List Str} {sub : List Value} {ab : Bool} {col : Option Bool} {dd : Option Addr} {m0 m1 m2 m3 m5 : Option Value}
    (xL : K.lookup C = some (excClassObj nm q C N bs bm true sn sub ab col dd m0 m1 m2 m3 m5 "ValueError.__new__")) (hb : PySem.HandSPX.refsVE bm = true)
    (sa : PySem.W.findIn K (.ref C) "__setattr__" = some (some (.builtin "object.__setattr__"))) (eC : PySem.W.subIn K (.ref C) (.type "BaseException") = some true) (tC : PySem.W.typeIn K (.ref C) = some (.type "type")) (kC : PySem.W.keepIn K (.ref C) = true) :
    OexC K C := ⟨⟨nm, q, N, bs, bm, sn, sub, ab, col, dd, m0, m1, m2, m3, m5, xL, hb⟩, sa, eC, tC, kC⟩
theorem fun_ex {K : PySem.W.Frag} {x qual : Str} {st : Stmt} {f : Addr} {oc : Value} {od an : Option Addr} {osl : Array (Option Value)} {kV doc pm cdv ct : Value}
    (l : K.lookup f = some ⟨oc, od, .func (PySem.W.fnOf x qual (defArgs st) (defBody st) (defScope st) .none kV doc pm an cdv ct), osl⟩)
    (c : PySem.W.codeIn K cdv qual = true) (k : PySem.W.keepIn K (.ref f) = true) : ∃ fd, Fun K x qual st f fd := ⟨_, fun_mk l c k⟩
theorem all_mk {P : Program} {w : World} {K : PySem.W.Frag} {h : Heap} {mg : Str → Option Value} {fa f0 f1 f2 f3 f4 f5 f6 f7 f8 f9 f10 f11 f12 f13 f14 f15 f16 f17 f18 f19 f20 f21 f22 f23 f24 f25 f26 f27 f28 f29 f30 f31 f32 f33 f34 C0 C1 C2 C3 : Addr} {tk_WIDE_LIMIT : Tok} (tru : ∀ row, GoodRow row → ∃ ρ h, s_law [.no, .dat tok] ⟨row, 0⟩ = .ok (.rt (.bool true)) ρ h)
    (X : K.In h) (G : h.Ns mainGlobals mg) (hfa : mg "law" = some (.ref fa))
    (a_told_plainly : PySem.W.nsIn K mainGlobals "told_plainly" = some (some (.ref f0)))
    (F_told_plainly : ∃ fd, Fun K "told_plainly" "told_plainly" st_told_plainly f0 fd)
    (a_is_int : PySem.W.nsIn K mainGlobals "is_int" = some (some (.ref f1)))
    (F_is_int : ∃ fd, Fun K "is_int" "is_int" st_is_int f1 fd)
    (a_plain_form : PySem.W.nsIn K mainGlobals "plain_form" = some (some (.ref f2)))
    (F_plain_form : ∃ fd, Fun K "plain_form" "plain_form" st_plain_form f2 fd)
    (a_check_number : PySem.W.nsIn K mainGlobals "check_number" = some (some (.ref f3)))
    (F_check_number : ∃ fd, Fun K "check_number" "check_number" st_check_number f3 fd)
    (a_are_beats : PySem.W.nsIn K mainGlobals "are_beats" = some (some (.ref f4)))
    (F_are_beats : ∃ fd, Fun K "are_beats" "are_beats" st_are_beats f4 fd)
    (a_check_beats : PySem.W.nsIn K mainGlobals "check_beats" = some (some (.ref f5)))
    (F_check_beats : ∃ fd, Fun K "check_beats" "check_beats" st_check_beats f5 fd)
    (a_are_fixed : PySem.W.nsIn K mainGlobals "are_fixed" = some (some (.ref f6)))
    (F_are_fixed : ∃ fd, Fun K "are_fixed" "are_fixed" st_are_fixed f6 fd)
    (a_are_narrow : PySem.W.nsIn K mainGlobals "are_narrow" = some (some (.ref f7)))
    (F_are_narrow : ∃ fd, Fun K "are_narrow" "are_narrow" st_are_narrow f7 fd)
    (a_ever_meet : PySem.W.nsIn K mainGlobals "ever_meet" = some (some (.ref f8)))
    (F_ever_meet : ∃ fd, Fun K "ever_meet" "ever_meet" st_ever_meet f8 fd)
    (a_inverse_of : PySem.W.nsIn K mainGlobals "inverse_of" = some (some (.ref f9)))
    (F_inverse_of : ∃ fd, Fun K "inverse_of" "inverse_of" st_inverse_of f9 fd)
    (a_family_of : PySem.W.nsIn K mainGlobals "family_of" = some (some (.ref f10)))
    (F_family_of : ∃ fd, Fun K "family_of" "family_of" st_family_of f10 fd)
    (a_families_of : PySem.W.nsIn K mainGlobals "families_of" = some (some (.ref f11)))
    (F_families_of : ∃ fd, Fun K "families_of" "families_of" st_families_of f11 fd)
    (a_met_families : PySem.W.nsIn K mainGlobals "met_families" = some (some (.ref f12)))
    (F_met_families : ∃ fd, Fun K "met_families" "met_families" st_met_families f12 fd)
    (a_pairs_within : PySem.W.nsIn K mainGlobals "pairs_within" = some (some (.ref f13)))
    (F_pairs_within : ∃ fd, Fun K "pairs_within" "pairs_within" st_pairs_within f13 fd)
    (a_met_number : PySem.W.nsIn K mainGlobals "met_number" = some (some (.ref f14)))
    (F_met_number : ∃ fd, Fun K "met_number" "met_number" st_met_number f14 fd)
    (a_first_of_families : PySem.W.nsIn K mainGlobals "first_of_families" = some (some (.ref f15)))
    (F_first_of_families : ∃ fd, Fun K "first_of_families" "first_of_families" st_first_of_families f15 fd)
    (a_first_met : PySem.W.nsIn K mainGlobals "first_met" = some (some (.ref f16)))
    (F_first_met : ∃ fd, Fun K "first_met" "first_met" st_first_met f16 fd)
    (a__law_hand : PySem.W.nsIn K mainGlobals "_law_hand" = some (some (.ref f17)))
    (F__law_hand : ∃ fd, Fun K "_law_hand" "_law_hand" st__law_hand f17 fd)
    (a__law_draw : PySem.W.nsIn K mainGlobals "_law_draw" = some (some (.ref f18)))
    (F__law_draw : ∃ fd, Fun K "_law_draw" "_law_draw" st__law_draw f18 fd)
    (a__law_just : PySem.W.nsIn K mainGlobals "_law_just" = some (some (.ref f19)))
    (F__law_just : ∃ fd, Fun K "_law_just" "_law_just" st__law_just f19 fd)
    (a__law_common : PySem.W.nsIn K mainGlobals "_law_common" = some (some (.ref f20)))
    (F__law_common : ∃ fd, Fun K "_law_common" "_law_common" st__law_common f20 fd)
    (a__law_small_row : PySem.W.nsIn K mainGlobals "_law_small_row" = some (some (.ref f21)))
    (F__law_small_row : ∃ fd, Fun K "_law_small_row" "_law_small_row" st__law_small_row f21 fd)
    (a__law_families : PySem.W.nsIn K mainGlobals "_law_families" = some (some (.ref f22)))
    (F__law_families : ∃ fd, Fun K "_law_families" "_law_families" st__law_families f22 fd)
    (a__law_many : PySem.W.nsIn K mainGlobals "_law_many" = some (some (.ref f23)))
    (F__law_many : ∃ fd, Fun K "_law_many" "_law_many" st__law_many f23 fd)
    (a__law_tried : PySem.W.nsIn K mainGlobals "_law_tried" = some (some (.ref f24)))
    (F__law_tried : ∃ fd, Fun K "_law_tried" "_law_tried" st__law_tried f24 fd)
    (a__law_heard_beats : PySem.W.nsIn K mainGlobals "_law_heard_beats" = some (some (.ref f25)))
    (F__law_heard_beats : ∃ fd, Fun K "_law_heard_beats" "_law_heard_beats" st__law_heard_beats f25 fd)
    (a__law_two_right : PySem.W.nsIn K mainGlobals "_law_two_right" = some (some (.ref f26)))
    (F__law_two_right : ∃ fd, Fun K "_law_two_right" "_law_two_right" st__law_two_right f26 fd)
    (a__law_small_right : PySem.W.nsIn K mainGlobals "_law_small_right" = some (some (.ref f27)))
    (F__law_small_right : ∃ fd, Fun K "_law_small_right" "_law_small_right" st__law_small_right f27 fd)
    (a__law_great_right : PySem.W.nsIn K mainGlobals "_law_great_right" = some (some (.ref f28)))
    (F__law_great_right : ∃ fd, Fun K "_law_great_right" "_law_great_right" st__law_great_right f28 fd)
    (a__law_wide_right : PySem.W.nsIn K mainGlobals "_law_wide_right" = some (some (.ref f29)))
    (F__law_wide_right : ∃ fd, Fun K "_law_wide_right" "_law_wide_right" st__law_wide_right f29 fd)
    (a__law_refused : PySem.W.nsIn K mainGlobals "_law_refused" = some (some (.ref f30)))
    (F__law_refused : ∃ fd, Fun K "_law_refused" "_law_refused" st__law_refused f30 fd)
    (a_law : PySem.W.nsIn K mainGlobals "law" = some (some (.ref f31)))
    (F_law : ∃ fd, Fun K "law" "law" st_law f31 fd)
    (aC_BadNumber : PySem.W.nsIn K mainGlobals "BadNumber" = some (some (.ref C0)))
    (aC_BadBounds : PySem.W.nsIn K mainGlobals "BadBounds" = some (some (.ref C1)))
    (aC_BadCase : PySem.W.nsIn K mainGlobals "BadCase" = some (some (.ref C2)))
    (aC_ClockError : PySem.W.nsIn K mainGlobals "ClockError" = some (some (.ref C3)))
    (ox_BadNumber : OexC K C0)
    (ic_BadNumber : PySem.W.findIn K (.ref C0) "__init__" = some (some (.ref f32)))
    (ti_BadNumber : PySem.W.typeIn K (.ref f32) = some (.type "function"))
    (FI_BadNumber : ∃ fd, Fun K "__init__" "BadNumber.__init__" st_init_BadNumber f32 fd)
    (no_BadNumber : PySem.W.findIn K (.ref C0) "at" = some none)
    (ga_BadNumber : PySem.W.findIn K (.ref C0) "__getattribute__" = some (some (.builtin "BaseException.__getattribute__")))
    (gg_BadNumber : PySem.W.findIn K (.ref C0) "__getattr__" = some none)
    (hd_BadNumber : PySem.W.hasDictIn K C0 = true)
    (ha_BadNumber : PySem.W.findIn K (.ref C0) "__class__" = some (some (.builtin "object.__class__")))
    (hm_BadNumber : PySem.W.mroIn K C0 (.type "object") = some true)
    (ox_BadBounds : OexC K C1)
    (ic_BadBounds : PySem.W.findIn K (.ref C1) "__init__" = some (some (.ref f33)))
    (ti_BadBounds : PySem.W.typeIn K (.ref f33) = some (.type "function"))
    (FI_BadBounds : ∃ fd, Fun K "__init__" "BadBounds.__init__" st_init_BadBounds f33 fd)
    (no_BadBounds : PySem.W.findIn K (.ref C1) "at" = some none)
    (ga_BadBounds : PySem.W.findIn K (.ref C1) "__getattribute__" = some (some (.builtin "BaseException.__getattribute__")))
    (gg_BadBounds : PySem.W.findIn K (.ref C1) "__getattr__" = some none)
    (hd_BadBounds : PySem.W.hasDictIn K C1 = true)
    (ha_BadBounds : PySem.W.findIn K (.ref C1) "__class__" = some (some (.builtin "object.__class__")))
    (hm_BadBounds : PySem.W.mroIn K C1 (.type "object") = some true)
    (ox_BadCase : OexC K C2)
    (ic_BadCase : PySem.W.findIn K (.ref C2) "__init__" = some (some (.ref f34)))
    (ti_BadCase : PySem.W.typeIn K (.ref f34) = some (.type "function"))
    (FI_BadCase : ∃ fd, Fun K "__init__" "BadCase.__init__" st_init_BadCase f34 fd)
    (no_BadCase : PySem.W.findIn K (.ref C2) "at" = some none)
    (ga_BadCase : PySem.W.findIn K (.ref C2) "__getattribute__" = some (some (.builtin "BaseException.__getattribute__")))
    (gg_BadCase : PySem.W.findIn K (.ref C2) "__getattr__" = some none)
    (hd_BadCase : PySem.W.hasDictIn K C2 = true)
    (ha_BadCase : PySem.W.findIn K (.ref C2) "__class__" = some (some (.builtin "object.__class__")))
    (hm_BadCase : PySem.W.mroIn K C2 (.type "object") = some true)
    (hn : PySem.W.specialIn K (.builtin "object.__class__") "__get__" = some (some (.builtin "getset_descriptor.__get__")))
    (ht : PySem.W.takesIn K (.builtin "object.__class__") = some true)
    (eC_ClockError : PySem.W.subIn K (.ref C3) (.type "BaseException") = some true)
    (hd_ClockError : PySem.W.hasDictIn K C3 = true)
    (tC_ClockError : PySem.W.typeIn K (.ref C3) = some (.type "type"))
    (sub_0_0 : PySem.W.subIn K (.ref C0) (.ref C0) = some true)
    (kit_0_0 : PySem.W.kitOne K (.ref C0) (.ref C0) = some true)
    (sub_0_1 : PySem.W.subIn K (.ref C0) (.ref C1) = some false)
    (kit_0_1 : PySem.W.kitOne K (.ref C0) (.ref C1) = some false)
    (sub_0_2 : PySem.W.subIn K (.ref C0) (.ref C2) = some false)
    (kit_0_2 : PySem.W.kitOne K (.ref C0) (.ref C2) = some false)
    (sub_0_3 : PySem.W.subIn K (.ref C0) (.ref C3) = some true)
    (kit_0_3 : PySem.W.kitOne K (.ref C0) (.ref C3) = some true)
    (sub_1_0 : PySem.W.subIn K (.ref C1) (.ref C0) = some false)
    (kit_1_0 : PySem.W.kitOne K (.ref C1) (.ref C0) = some false)
    (sub_1_1 : PySem.W.subIn K (.ref C1) (.ref C1) = some true)
    (kit_1_1 : PySem.W.kitOne K (.ref C1) (.ref C1) = some true)
    (sub_1_2 : PySem.W.subIn K (.ref C1) (.ref C2) = some false)
    (kit_1_2 : PySem.W.kitOne K (.ref C1) (.ref C2) = some false)
    (sub_1_3 : PySem.W.subIn K (.ref C1) (.ref C3) = some true)
    (kit_1_3 : PySem.W.kitOne K (.ref C1) (.ref C3) = some true)
    (sub_2_0 : PySem.W.subIn K (.ref C2) (.ref C0) = some false)
    (kit_2_0 : PySem.W.kitOne K (.ref C2) (.ref C0) = some false)
    (sub_2_1 : PySem.W.subIn K (.ref C2) (.ref C1) = some false)
    (kit_2_1 : PySem.W.kitOne K (.ref C2) (.ref C1) = some false)
    (sub_2_2 : PySem.W.subIn K (.ref C2) (.ref C2) = some true)
    (kit_2_2 : PySem.W.kitOne K (.ref C2) (.ref C2) = some true)
    (sub_2_3 : PySem.W.subIn K (.ref C2) (.ref C3) = some true)
    (kit_2_3 : PySem.W.kitOne K (.ref C2) (.ref C3) = some true)
    (n_bool : PySem.W.nsIn K mainGlobals "bool" = some none)
    (n_int : PySem.W.nsIn K mainGlobals "int" = some none)
    (n_isinstance : PySem.W.nsIn K mainGlobals "isinstance" = some none)
    (n_len : PySem.W.nsIn K mainGlobals "len" = some none)
    (n_list : PySem.W.nsIn K mainGlobals "list" = some none)
    (n_max : PySem.W.nsIn K mainGlobals "max" = some none)
    (n_min : PySem.W.nsIn K mainGlobals "min" = some none)
    (n_range : PySem.W.nsIn K mainGlobals "range" = some none)
    (n_repr : PySem.W.nsIn K mainGlobals "repr" = some none)
    (n_sorted : PySem.W.nsIn K mainGlobals "sorted" = some none)
    (n_str : PySem.W.nsIn K mainGlobals "str" = some none)
    (n_tuple : PySem.W.nsIn K mainGlobals "tuple" = some none)
    (k_WIDE_LIMIT : PySem.W.nsIn K mainGlobals "WIDE_LIMIT" = some (some (.int 2000 tk_WIDE_LIMIT)))
    (i_gcd : PySem.W.nsIn K mainGlobals "gcd" = some (some (.builtin "math.gcd"))) :
    ∃ fd : FuncData, (∀ (s : Shared) (u : Value), BindsTo s fd ⟨[u], []⟩ [("script", u)]) ∧ ∀ base : Heap, K.In base → base.Ns mainGlobals mg → FnG P w K mg base (L2.CX P w) 20 fa fd ["script"] (spLaw K) := by
  have e := hfa.symm.trans (PySem.W.mg_of X G a_law)
  cases e
  obtain ⟨d0, F_told_plainly⟩ := F_told_plainly
  obtain ⟨d1, F_is_int⟩ := F_is_int
  obtain ⟨d2, F_plain_form⟩ := F_plain_form
  obtain ⟨d3, F_check_number⟩ := F_check_number
  obtain ⟨d4, F_are_beats⟩ := F_are_beats
  obtain ⟨d5, F_check_beats⟩ := F_check_beats
  obtain ⟨d6, F_are_fixed⟩ := F_are_fixed
  obtain ⟨d7, F_are_narrow⟩ := F_are_narrow
  obtain ⟨d8, F_ever_meet⟩ := F_ever_meet
  obtain ⟨d9, F_inverse_of⟩ := F_inverse_of
  obtain ⟨d10, F_family_of⟩ := F_family_of
  obtain ⟨d11, F_families_of⟩ := F_families_of
  obtain ⟨d12, F_met_families⟩ := F_met_families
  obtain ⟨d13, F_pairs_within⟩ := F_pairs_within
  obtain ⟨d14, F_met_number⟩ := F_met_number
  obtain ⟨d15, F_first_of_families⟩ := F_first_of_families
  obtain ⟨d16, F_first_met⟩ := F_first_met
  obtain ⟨d17, F__law_hand⟩ := F__law_hand
  obtain ⟨d18, F__law_draw⟩ := F__law_draw
  obtain ⟨d19, F__law_just⟩ := F__law_just
  obtain ⟨d20, F__law_common⟩ := F__law_common
  obtain ⟨d21, F__law_small_row⟩ := F__law_small_row
  obtain ⟨d22, F__law_families⟩ := F__law_families
  obtain ⟨d23, F__law_many⟩ := F__law_many
  obtain ⟨d24, F__law_tried⟩ := F__law_tried
  obtain ⟨d25, F__law_heard_beats⟩ := F__law_heard_beats
  obtain ⟨d26, F__law_two_right⟩ := F__law_two_right
  obtain ⟨d27, F__law_small_right⟩ := F__law_small_right
  obtain ⟨d28, F__law_great_right⟩ := F__law_great_right
  obtain ⟨d29, F__law_wide_right⟩ := F__law_wide_right
  obtain ⟨d30, F__law_refused⟩ := F__law_refused
  obtain ⟨d31, F_law⟩ := F_law
  obtain ⟨d32, FI_BadNumber⟩ := FI_BadNumber
  obtain ⟨d33, FI_BadBounds⟩ := FI_BadBounds
  obtain ⟨d34, FI_BadCase⟩ := FI_BadCase
  let ad : Nat → Addr := fun n => ([f0, f1, f2, f3, f4, f5, f6, f7, f8, f9, f10, f11, f12, f13, f14, f15, f16, f17, f18, f19, f20, f21, f22, f23, f24, f25, f26, f27, f28, f29, f30, fa, f32, f33, f34, C0, C1, C2, C3] : List Addr).getD n fa
  let fd : Nat → FuncData := fun n => ([d0, d1, d2, d3, d4, d5, d6, d7, d8, d9, d10, d11, d12, d13, d14, d15, d16, d17, d18, d19, d20, d21, d22, d23, d24, d25, d26, d27, d28, d29, d30, d31, d32, d33, d34] : List FuncData).getD n d0
  have b_told_plainly : Binds K d0 ["thing"] [] := F_told_plainly.binds fun _ _ _ _ _ _ us hl => match us, hl with | [_], _ => rfl
  have b_is_int : Binds K d1 ["x"] [] := F_is_int.binds fun _ _ _ _ _ _ us hl => match us, hl with | [_], _ => rfl
  have b_plain_form : Binds K d2 ["x"] [] := F_plain_form.binds fun _ _ _ _ _ _ us hl => match us, hl with | [_], _ => rfl
  have b_check_number : Binds K d3 ["x", "least"] [] := F_check_number.binds fun _ _ _ _ _ _ us hl => match us, hl with | [_, _], _ => rfl
  have b_are_beats : Binds K d4 ["told"] [] := F_are_beats.binds fun _ _ _ _ _ _ us hl => match us, hl with | [_], _ => rfl
  have b_check_beats : Binds K d5 ["beats"] [] := F_check_beats.binds fun _ _ _ _ _ _ us hl => match us, hl with | [_], _ => rfl
  have b_are_fixed : Binds K d6 ["beats", "other"] [] := F_are_fixed.binds fun _ _ _ _ _ _ us hl => match us, hl with | [_, _], _ => rfl
  have b_are_narrow : Binds K d7 ["beats", "other"] [] := F_are_narrow.binds fun _ _ _ _ _ _ us hl => match us, hl with | [_, _], _ => rfl
  have b_ever_meet : Binds K d8 ["beats", "other"] [] := F_ever_meet.binds fun _ _ _ _ _ _ us hl => match us, hl with | [_, _], _ => rfl
  have b_inverse_of : Binds K d9 ["a", "b"] [] := F_inverse_of.binds fun _ _ _ _ _ _ us hl => match us, hl with | [_, _], _ => rfl
  have b_family_of : Binds K d10 ["beats", "other", "apart"] [] := F_family_of.binds fun _ _ _ _ _ _ us hl => match us, hl with | [_, _, _], _ => rfl
  have b_families_of : Binds K d11 ["beats", "other"] [] := F_families_of.binds fun _ _ _ _ _ _ us hl => match us, hl with | [_, _], _ => rfl
  have b_met_families : Binds K d12 ["beats", "other"] [] := F_met_families.binds fun _ _ _ _ _ _ us hl => match us, hl with | [_, _], _ => rfl
  have b_pairs_within : Binds K d13 ["families", "k"] [] := F_pairs_within.binds fun _ _ _ _ _ _ us hl => match us, hl with | [_, _], _ => rfl
  have b_met_number : Binds K d14 ["beats", "other", "k"] [] := F_met_number.binds fun _ _ _ _ _ _ us hl => match us, hl with | [_, _, _], _ => rfl
  have b_first_of_families : Binds K d15 ["families"] [] := F_first_of_families.binds fun _ _ _ _ _ _ us hl => match us, hl with | [_], _ => rfl
  have b_first_met : Binds K d16 ["beats", "other"] [] := F_first_met.binds fun _ _ _ _ _ _ us hl => match us, hl with | [_, _], _ => rfl
  have b__law_hand : Binds K d17 ["script"] [] := F__law_hand.binds fun _ _ _ _ _ _ us hl => match us, hl with | [_], _ => rfl
  have b__law_draw : Binds K d18 ["hand", "many"] [] := F__law_draw.binds fun _ _ _ _ _ _ us hl => match us, hl with | [_, _], _ => rfl
  have b__law_just : Binds K d19 ["told", "due"] [] := F__law_just.binds fun _ _ _ _ _ _ us hl => match us, hl with | [_, _], _ => rfl
  have b__law_common : Binds K d20 ["a", "b"] [] := F__law_common.binds fun _ _ _ _ _ _ us hl => match us, hl with | [_, _], _ => rfl
  have b__law_small_row : Binds K d21 ["hand"] [] := F__law_small_row.binds fun _ _ _ _ _ _ us hl => match us, hl with | [_], _ => rfl
  have b__law_families : Binds K d22 ["one", "other"] [] := F__law_families.binds fun _ _ _ _ _ _ us hl => match us, hl with | [_, _], _ => rfl
  have b__law_many : Binds K d23 ["families", "k"] [] := F__law_many.binds fun _ _ _ _ _ _ us hl => match us, hl with | [_, _], _ => rfl
  have b__law_tried : Binds K d24 ["one", "other", "k"] [] := F__law_tried.binds fun _ _ _ _ _ _ us hl => match us, hl with | [_, _, _], _ => rfl
  have b__law_heard_beats : Binds K d25 ["which", "one", "other", "k"] [] := F__law_heard_beats.binds fun _ _ _ _ _ _ us hl => match us, hl with | [_, _, _, _], _ => rfl
  have b__law_two_right : Binds K d26 ["hand", "one", "other", "families"] [] := F__law_two_right.binds fun _ _ _ _ _ _ us hl => match us, hl with | [_, _, _, _], _ => rfl
  have b__law_small_right : Binds K d27 ["hand"] [] := F__law_small_right.binds fun _ _ _ _ _ _ us hl => match us, hl with | [_], _ => rfl
  have b__law_great_right : Binds K d28 ["hand"] [] := F__law_great_right.binds fun _ _ _ _ _ _ us hl => match us, hl with | [_], _ => rfl
  have b__law_wide_right : Binds K d29 ["hand"] [] := F__law_wide_right.binds fun _ _ _ _ _ _ us hl => match us, hl with | [_], _ => rfl
  have b__law_refused : Binds K d30 ["hand"] [] := F__law_refused.binds fun _ _ _ _ _ _ us hl => match us, hl with | [_], _ => rfl
  have b_law : Binds K d31 ["script"] [] := F_law.binds fun _ _ _ _ _ _ us hl => match us, hl with | [_], _ => rfl
  have b_init_BadNumber : Binds K d32 ["self", "at"] [] := FI_BadNumber.binds fun _ _ _ _ _ _ us hl => match us, hl with | [_, _], _ => rfl
  have b_init_BadBounds : Binds K d33 ["self", "at"] [] := FI_BadBounds.binds fun _ _ _ _ _ _ us hl => match us, hl with | [_, _], _ => rfl
  have b_init_BadCase : Binds K d34 ["self", "at"] [] := FI_BadCase.binds fun _ _ _ _ _ _ us hl => match us, hl with | [_, _], _ => rfl
  have T : Txt K mg ad fd := {
    F_told_plainly := F_told_plainly,
    g_told_plainly := PySem.W.mg_of X G a_told_plainly,
    b_told_plainly := b_told_plainly,
    F_is_int := F_is_int,
    g_is_int := PySem.W.mg_of X G a_is_int,
    b_is_int := b_is_int,
    F_plain_form := F_plain_form,
    g_plain_form := PySem.W.mg_of X G a_plain_form,
    b_plain_form := b_plain_form,
    F_check_number := F_check_number,
    g_check_number := PySem.W.mg_of X G a_check_number,
    b_check_number := b_check_number,
    F_are_beats := F_are_beats,
    g_are_beats := PySem.W.mg_of X G a_are_beats,
    b_are_beats := b_are_beats,
    F_check_beats := F_check_beats,
    g_check_beats := PySem.W.mg_of X G a_check_beats,
    b_check_beats := b_check_beats,
    F_are_fixed := F_are_fixed,
    g_are_fixed := PySem.W.mg_of X G a_are_fixed,
    b_are_fixed := b_are_fixed,
    F_are_narrow := F_are_narrow,
    g_are_narrow := PySem.W.mg_of X G a_are_narrow,
    b_are_narrow := b_are_narrow,
    F_ever_meet := F_ever_meet,
    g_ever_meet := PySem.W.mg_of X G a_ever_meet,
    b_ever_meet := b_ever_meet,
    F_inverse_of := F_inverse_of,
    g_inverse_of := PySem.W.mg_of X G a_inverse_of,
    b_inverse_of := b_inverse_of,
    F_family_of := F_family_of,
    g_family_of := PySem.W.mg_of X G a_family_of,
    b_family_of := b_family_of,
    F_families_of := F_families_of,
    g_families_of := PySem.W.mg_of X G a_families_of,
    b_families_of := b_families_of,
    F_met_families := F_met_families,
    g_met_families := PySem.W.mg_of X G a_met_families,
    b_met_families := b_met_families,
    F_pairs_within := F_pairs_within,
    g_pairs_within := PySem.W.mg_of X G a_pairs_within,
    b_pairs_within := b_pairs_within,
    F_met_number := F_met_number,
    g_met_number := PySem.W.mg_of X G a_met_number,
    b_met_number := b_met_number,
    F_first_of_families := F_first_of_families,
    g_first_of_families := PySem.W.mg_of X G a_first_of_families,
    b_first_of_families := b_first_of_families,
    F_first_met := F_first_met,
    g_first_met := PySem.W.mg_of X G a_first_met,
    b_first_met := b_first_met,
    F__law_hand := F__law_hand,
    g__law_hand := PySem.W.mg_of X G a__law_hand,
    b__law_hand := b__law_hand,
    F__law_draw := F__law_draw,
    g__law_draw := PySem.W.mg_of X G a__law_draw,
    b__law_draw := b__law_draw,
    F__law_just := F__law_just,
    g__law_just := PySem.W.mg_of X G a__law_just,
    b__law_just := b__law_just,
    F__law_common := F__law_common,
    g__law_common := PySem.W.mg_of X G a__law_common,
    b__law_common := b__law_common,
    F__law_small_row := F__law_small_row,
    g__law_small_row := PySem.W.mg_of X G a__law_small_row,
    b__law_small_row := b__law_small_row,
    F__law_families := F__law_families,
    g__law_families := PySem.W.mg_of X G a__law_families,
    b__law_families := b__law_families,
    F__law_many := F__law_many,
    g__law_many := PySem.W.mg_of X G a__law_many,
    b__law_many := b__law_many,
    F__law_tried := F__law_tried,
    g__law_tried := PySem.W.mg_of X G a__law_tried,
    b__law_tried := b__law_tried,
    F__law_heard_beats := F__law_heard_beats,
    g__law_heard_beats := PySem.W.mg_of X G a__law_heard_beats,
    b__law_heard_beats := b__law_heard_beats,
    F__law_two_right := F__law_two_right,
    g__law_two_right := PySem.W.mg_of X G a__law_two_right,
    b__law_two_right := b__law_two_right,
    F__law_small_right := F__law_small_right,
    g__law_small_right := PySem.W.mg_of X G a__law_small_right,
    b__law_small_right := b__law_small_right,
    F__law_great_right := F__law_great_right,
    g__law_great_right := PySem.W.mg_of X G a__law_great_right,
    b__law_great_right := b__law_great_right,
    F__law_wide_right := F__law_wide_right,
    g__law_wide_right := PySem.W.mg_of X G a__law_wide_right,
    b__law_wide_right := b__law_wide_right,
    F__law_refused := F__law_refused,
    g__law_refused := PySem.W.mg_of X G a__law_refused,
    b__law_refused := b__law_refused,
    F_law := F_law,
    g_law := PySem.W.mg_of X G a_law,
    b_law := b_law,
    F_init_BadNumber := FI_BadNumber,
    b_init_BadNumber := b_init_BadNumber,
    ox_BadNumber := ox_BadNumber,
    ic_BadNumber := ic_BadNumber,
    ti_BadNumber := ti_BadNumber,
    no_BadNumber := no_BadNumber,
    xf_BadNumber := ⟨ga_BadNumber, gg_BadNumber, ox_BadNumber.exC, hd_BadNumber⟩,
    F_init_BadBounds := FI_BadBounds,
    b_init_BadBounds := b_init_BadBounds,
    ox_BadBounds := ox_BadBounds,
    ic_BadBounds := ic_BadBounds,
    ti_BadBounds := ti_BadBounds,
    no_BadBounds := no_BadBounds,
    xf_BadBounds := ⟨ga_BadBounds, gg_BadBounds, ox_BadBounds.exC, hd_BadBounds⟩,
    F_init_BadCase := FI_BadCase,
    b_init_BadCase := b_init_BadCase,
    ox_BadCase := ox_BadCase,
    ic_BadCase := ic_BadCase,
    ti_BadCase := ti_BadCase,
    no_BadCase := no_BadCase,
    xf_BadCase := ⟨ga_BadCase, gg_BadCase, ox_BadCase.exC, hd_BadCase⟩,
    n_bool := PySem.W.mg_none_of X G n_bool,
    n_int := PySem.W.mg_none_of X G n_int,
    n_isinstance := PySem.W.mg_none_of X G n_isinstance,
    n_len := PySem.W.mg_none_of X G n_len,
    n_list := PySem.W.mg_none_of X G n_list,
    n_max := PySem.W.mg_none_of X G n_max,
    n_min := PySem.W.mg_none_of X G n_min,
    n_range := PySem.W.mg_none_of X G n_range,
    n_repr := PySem.W.mg_none_of X G n_repr,
    n_sorted := PySem.W.mg_none_of X G n_sorted,
    n_str := PySem.W.mg_none_of X G n_str,
    n_tuple := PySem.W.mg_none_of X G n_tuple,
    g_WIDE_LIMIT := ⟨_, PySem.W.mg_of X G k_WIDE_LIMIT⟩,
    g_gcd := PySem.W.mg_of X G i_gcd,
    g_BadNumber := PySem.W.mg_of X G aC_BadNumber,
    g_BadBounds := PySem.W.mg_of X G aC_BadBounds,
    g_BadCase := PySem.W.mg_of X G aC_BadCase,
    g_ClockError := PySem.W.mg_of X G aC_ClockError,
    ec := fun c hc => match c, hc with | 0, _ => ⟨ga_BadNumber, gg_BadNumber, ox_BadNumber.exC, hd_BadNumber, ha_BadNumber, hn, ht, hm_BadNumber⟩ | 1, _ => ⟨ga_BadBounds, gg_BadBounds, ox_BadBounds.exC, hd_BadBounds, ha_BadBounds, hn, ht, hm_BadBounds⟩ | 2, _ => ⟨ga_BadCase, gg_BadCase, ox_BadCase.exC, hd_BadCase, ha_BadCase, hn, ht, hm_BadCase⟩,
    exm := fun c j hc hj => match c, j, hc, hj with | 0, 0, _, _ => PySem.W.exm_ref ox_BadNumber.exC hd_BadNumber ox_BadNumber.tyC sub_0_0 | 0, 1, _, _ => PySem.W.exm_ref ox_BadBounds.exC hd_BadBounds ox_BadBounds.tyC sub_0_1 | 0, 2, _, _ => PySem.W.exm_ref ox_BadCase.exC hd_BadCase ox_BadCase.tyC sub_0_2 | 0, 3, _, _ => PySem.W.exm_ref eC_ClockError hd_ClockError tC_ClockError sub_0_3 | 1, 0, _, _ => PySem.W.exm_ref ox_BadNumber.exC hd_BadNumber ox_BadNumber.tyC sub_1_0 | 1, 1, _, _ => PySem.W.exm_ref ox_BadBounds.exC hd_BadBounds ox_BadBounds.tyC sub_1_1 | 1, 2, _, _ => PySem.W.exm_ref ox_BadCase.exC hd_BadCase ox_BadCase.tyC sub_1_2 | 1, 3, _, _ => PySem.W.exm_ref eC_ClockError hd_ClockError tC_ClockError sub_1_3 | 2, 0, _, _ => PySem.W.exm_ref ox_BadNumber.exC hd_BadNumber ox_BadNumber.tyC sub_2_0 | 2, 1, _, _ => PySem.W.exm_ref ox_BadBounds.exC hd_BadBounds ox_BadBounds.tyC sub_2_1 | 2, 2, _, _ => PySem.W.exm_ref ox_BadCase.exC hd_BadCase ox_BadCase.tyC sub_2_2 | 2, 3, _, _ => PySem.W.exm_ref eC_ClockError hd_ClockError tC_ClockError sub_2_3,
    ko := fun c j hc hj => match c, j, hc, hj with | 0, 0, _, _ => kit_0_0 | 0, 1, _, _ => kit_0_1 | 0, 2, _, _ => kit_0_2 | 0, 3, _, _ => kit_0_3 | 1, 0, _, _ => kit_1_0 | 1, 1, _, _ => kit_1_1 | 1, 2, _, _ => kit_1_2 | 1, 3, _, _ => kit_1_3 | 2, 0, _, _ => kit_2_0 | 2, 1, _, _ => kit_2_1 | 2, 2, _, _ => kit_2_2 | 2, 3, _, _ => kit_2_3 }
  refine ⟨d31, ?_, fun base _ _ => ok_law T tru⟩
  intro s u
  obtain ⟨oc, od, kV, doc, pm, an, cdv, ct, osl, rfl, lk, hcd⟩ := F_law.ex
  exact .of_eq rfl
end L2.AR.T
set_option Elab.async false
set_option linter.all false
set_option maxRecDepth 100000
set_option maxHeartbeats 4000000
namespace L2.AR.T
open PySem PySem.Spec PyProof.Rows
/-! ### the arithmetic of two rows: e = c1 - c2, periods p and q, a difference d; (i, j) its first pair, (b, a) the steps -/
structure Fam (e p q d i j a b : Int) : Prop where
  i1 : 1 ≤ i
  j1 : 1 ≤ j
  a1 : 1 ≤ a
  b1 : 1 ≤ b
  ab : b * p = a * q
  eq : e + i * p - j * q = d
  fst : ∀ i' j', 1 ≤ i' → 1 ≤ j' → e + i' * p - j' * q = d → ∃ n, 0 ≤ n ∧ i' = i + n * b ∧ j' = j + n * a
theorem Fam.uniq {e p q d i j a b i' j' : Int} (f : Fam e p q d i j a b) (f' : Fam e p q d i' j' a b) : i = i' ∧ j = j' := by
  obtain ⟨n, n0, e1, e2⟩ := f.fst i' j' f'.i1 f'.j1 f'.eq
  obtain ⟨m, m0, e3, e4⟩ := f'.fst i j f.i1 f.j1 f.eq
  have h1 := Int.mul_nonneg n0 (show 0 ≤ b by have := f.b1; omega)
  have h2 := Int.mul_nonneg n0 (show 0 ≤ a by have := f.a1; omega)
  have h3 := Int.mul_nonneg m0 (show 0 ≤ b by have := f.b1; omega)
  have h4 := Int.mul_nonneg m0 (show 0 ≤ a by have := f.a1; omega)
  omega
theorem Fam.flip {e p q d i j a b : Int} (f : Fam e p q d i j a b) : Fam (-e) q p (-d) j i b a := by
  refine ⟨f.j1, f.i1, f.b1, f.a1, f.ab.symm, by have := f.eq; omega, fun i' j' h1 h2 h3 => ?_⟩
  obtain ⟨n, n0, e1, e2⟩ := f.fst j' i' h2 h1 (by omega)
  exact ⟨n, n0, e2, e1⟩
/-- what the program reckons -/
def leastI (m a b : Int) : Int := if -((-m - b) / a) > 1 then -((-m - b) / a) else 1
def firstI (m a b v : Int) : Int := leastI m a b + (m * v % b - leastI m a b) % b
def firstJ (m a b v : Int) : Int := (firstI m a b v * a - m) / b
theorem leastI_le {m a b i : Int} (a1 : 1 ≤ a) (i1 : 1 ≤ i) (h : m + b ≤ i * a) : leastI m a b ≤ i := by
  have k : -i ≤ (-m - b) / a := (Int.le_ediv_iff_mul_le (by omega)).mpr (by rw [Int.neg_mul]; omega)
  unfold leastI
  split <;> omega
theorem leastI_is {m a b : Int} (a1 : 1 ≤ a) : 1 ≤ leastI m a b ∧ m + b ≤ leastI m a b * a := by
  have k : (-m - b) / a * a ≤ -m - b := Int.ediv_mul_le _ (by omega)
  have l : -((-m - b) / a) ≤ leastI m a b := by unfold leastI; split <;> omega
  have r := Int.mul_le_mul_of_nonneg_right l (show 0 ≤ a by omega)
  rw [Int.neg_mul] at r
  refine ⟨by unfold leastI; split <;> omega, by omega⟩
theorem ar1 {m v b t a w f : Int} (ht : f = m * v + b * t) (hw : a * v = 1 + b * w) : f * a - m = b * (m * w + t * a) := by grind
theorem ar2 {e g a b m i j : Int} (h : e + i * (g * a) - j * (g * b) = e + g * m) : g * (i * a - j * b) = g * m := by grind
theorem ar3 {i a j b m f k v w : Int} (e1 : i * a - j * b = m) (hk : f * a - m = b * k) (hw : a * v = 1 + b * w) : i = f + ((j - k) * v - (i - f) * w) * b := by grind
theorem ar4 {a j b m f k n : Int} (e1 : (f + n * b) * a - j * b = m) (hk : f * a - m = b * k) : b * j = b * (k + n * a) := by grind
theorem ar5 {g a b : Int} : b * (g * a) = a * (g * b) := by grind
theorem ar6 {e g a b m f k : Int} (hk : f * a - m = b * k) : e + f * (g * a) - k * (g * b) = e + g * m := by grind
theorem fam_mk {e p q d g a b v m : Int} (g1 : 1 ≤ g) (a1 : 1 ≤ a) (b1 : 1 ≤ b) (hp : p = g * a) (hq : q = g * b) (hd : d = e + g * m) (hv : (a * v) % b = 1 % b) : Fam e p q d (firstI m a b v) (firstJ m a b v) a b := by
  obtain ⟨l1, l2⟩ := leastI_is (m := m) (b := b) a1
  have hl := @leastI_le m a b
  have b0 : (0 : Int) < b := by omega
  have bn : b ≠ 0 := by omega
  generalize hL : leastI m a b = L at *
  have x0 := Int.emod_nonneg (m * v % b - L) bn
  have x1 := Int.emod_lt_of_pos (m * v % b - L) b0
  have xe := Int.emod_add_mul_ediv (m * v % b - L) b
  have ye := Int.emod_add_mul_ediv (m * v) b
  have ze := Int.emod_add_mul_ediv (a * v) b
  have we := Int.emod_add_mul_ediv 1 b
  have hF : firstI m a b v = L + (m * v % b - L) % b := by unfold firstI; rw [hL]
  generalize hf : firstI m a b v = f at *
  have f1 : 1 ≤ f := by omega
  have fL : L ≤ f := by omega
  have fb : f < L + b := by omega
  obtain ⟨w, hw⟩ : ∃ w, a * v = 1 + b * w := ⟨a * v / b - 1 / b, by rw [Int.mul_sub]; omega⟩
  obtain ⟨t, ht⟩ : ∃ t, f = m * v + b * t := ⟨-(m * v / b) - (m * v % b - L) / b, by rw [Int.mul_sub, Int.mul_neg]; omega⟩
  obtain ⟨k, hk⟩ : ∃ k, f * a - m = b * k := ⟨m * w + t * a, ar1 ht hw⟩
  have hJ : firstJ m a b v = k := by
    unfold firstJ
    rw [hf, hk]
    exact Int.mul_ediv_cancel_left k bn
  rw [hJ]
  have fa := Int.mul_le_mul_of_nonneg_right fL (show 0 ≤ a by omega)
  have k1 : 1 ≤ k := by
    have : b * 1 ≤ b * k := by omega
    exact Int.le_of_mul_le_mul_left this b0
  refine ⟨f1, k1, a1, b1, by rw [hp, hq]; exact ar5, by rw [hp, hq, hd]; exact ar6 hk, fun i' j' i1' j1' eq' => ?_⟩
  have e1 : i' * a - j' * b = m := by
    have : g * (i' * a - j' * b) = g * m := by rw [hp, hq, hd] at eq'; exact ar2 eq'
    exact Int.eq_of_mul_eq_mul_left (by omega) this
  obtain ⟨n, hn⟩ : ∃ n, i' = f + n * b := ⟨(j' - k) * v - (i' - f) * w, ar3 e1 hk hw⟩
  have jb : b * 1 ≤ b * j' := Int.mul_le_mul_of_nonneg_left j1' (by omega)
  have li := hl (i := i') a1 i1' (by rw [Int.mul_comm b j'] at jb; omega)
  refine ⟨n, ?_, hn, ?_⟩
  · by_cases h : 0 ≤ n
    · exact h
    · have : n * b ≤ (-1) * b := Int.mul_le_mul_of_nonneg_right (show n ≤ -1 by omega) (by omega)
      omega
  · have : b * j' = b * (k + n * a) := by rw [hn] at e1; exact ar4 e1 hk
    exact Int.eq_of_mul_eq_mul_left bn this
/-- strictly rising lists with the same members are one -/
theorem strict_ext {α : Type} {R : α → α → Prop} (irr : ∀ x, ¬ R x x) (tr : ∀ x y z, R x y → R y z → R x z) : ∀ {a b : List α}, a.Pairwise R → b.Pairwise R → (∀ x, x ∈ a ↔ x ∈ b) → a = b
  | [], [], _, _, _ => rfl
  | [], y :: s, _, _, h => by have := (h y).mpr (by simp); simp at this
  | x :: r, [], _, _, h => by have := (h x).mp (by simp); simp at this
  | x :: r, y :: s, ha, hb, h => by
    obtain ⟨ha1, ha2⟩ := List.pairwise_cons.mp ha
    obtain ⟨hb1, hb2⟩ := List.pairwise_cons.mp hb
    have e : x = y := by
      rcases List.mem_cons.mp ((h x).mp (by simp)) with e | m1
      · exact e
      · rcases List.mem_cons.mp ((h y).mpr (by simp)) with e | m2
        · exact e.symm
        · exact absurd (tr _ _ _ (ha1 y m2) (hb1 x m1)) (irr x)
    subst e
    congr 1
    refine strict_ext irr tr ha2 hb2 fun z => ?_
    have hz := h z
    simp only [List.mem_cons] at hz
    constructor
    · intro m
      rcases hz.mp (.inr m) with e | m'
      · subst e; exact absurd (ha1 _ m) (irr _)
      · exact m'
    · intro m
      rcases hz.mpr (.inr m) with e | m'
      · subst e; exact absurd (hb1 _ m) (irr _)
      · exact m'
theorem nodup_of_strict {α : Type} {R : α → α → Prop} (irr : ∀ x, ¬ R x x) {a : List α} (h : a.Pairwise R) : a.Nodup := h.imp fun {x y} r e => by subst e; exact irr x r
/-! the differences: start, start + g, .. -/
def apS (e s g : Int) : Int := -s + (e + s) % g
def apN (e s t g : Int) : Nat := (Builtin.Range.rangeSize (apS e s g) (t + 1) g).toNat
def apL (e s t g : Int) : List Int := (List.range (apN e s t g)).map fun (k : Nat) => apS e s g + (k : Int) * g
theorem rs_pos {x y g : Int} (g1 : 1 ≤ g) : Builtin.Range.rangeSize x y g = if x < y then (y - x - 1) / g + 1 else 0 := by
  unfold Builtin.Range.rangeSize
  simp only [show g > 0 by omega, if_true]
theorem lt_apN {e s t g : Int} (g1 : 1 ≤ g) (k : Nat) : k < apN e s t g ↔ apS e s g + (k : Int) * g ≤ t := by
  unfold apN
  rw [rs_pos g1]
  split
  · rename_i h
    have q0 : 0 ≤ (t + 1 - apS e s g - 1) / g := Int.ediv_nonneg (by omega) (by omega)
    have := Int.le_ediv_iff_mul_le (a := (k : Int)) (b := t + 1 - apS e s g - 1) (c := g) (by omega)
    omega
  · have := Int.mul_nonneg (show 0 ≤ (k : Int) by omega) (show 0 ≤ g by omega)
    omega
theorem apL_mem {e s t g : Int} (g1 : 1 ≤ g) (x : Int) : x ∈ apL e s t g ↔ (-s ≤ x ∧ x ≤ t ∧ ∃ m, x = e + g * m) := by
  have r0 := Int.emod_nonneg (e + s) (show g ≠ 0 by omega)
  have r1 := Int.emod_lt_of_pos (e + s) (show 0 < g by omega)
  have re := Int.emod_add_mul_ediv (e + s) g
  unfold apL
  rw [List.mem_map]
  constructor
  · rintro ⟨k, hk, rfl⟩
    rw [List.mem_range, lt_apN g1] at hk
    have kg := Int.mul_nonneg (show 0 ≤ (k : Int) by omega) (show 0 ≤ g by omega)
    unfold apS at hk ⊢
    refine ⟨by omega, hk, (k : Int) - (e + s) / g, ?_⟩
    rw [Int.mul_sub, Int.mul_comm g (k : Int)]
    omega
  · rintro ⟨h1, h2, m, rfl⟩
    have ex : e + g * m - apS e s g = g * (m + (e + s) / g) := by
      unfold apS
      rw [Int.mul_add]
      omega
    have n0 : 0 ≤ m + (e + s) / g := by
      by_cases h : 0 ≤ m + (e + s) / g
      · exact h
      · have := Int.mul_le_mul_of_nonneg_left (show m + (e + s) / g ≤ -1 by omega) (show 0 ≤ g by omega)
        unfold apS at ex
        omega
    have em : apS e s g + (((m + (e + s) / g).toNat : Nat) : Int) * g = e + g * m := by
      rw [Int.toNat_of_nonneg n0, Int.mul_comm]
      omega
    refine ⟨(m + (e + s) / g).toNat, ?_, em⟩
    rw [List.mem_range, lt_apN g1, em]
    exact h2
theorem apL_strict {e s t g : Int} (g1 : 1 ≤ g) : (apL e s t g).Pairwise (· < ·) := by
  unfold apL
  rw [List.pairwise_map]
  refine List.Pairwise.imp ?_ List.pairwise_lt_range
  intro x y h
  have := Int.mul_lt_mul_of_pos_right (show (x : Int) < y by omega) (show 0 < g by omega)
  omega
theorem apL_len {e s t g : Int} (g1 : 1 ≤ g) (s0 : 0 ≤ s) (t0 : 0 ≤ t) : ((apL e s t g).length : Int) ≤ s + t + 1 := by
  have r0 := Int.emod_nonneg (e + s) (show g ≠ 0 by omega)
  unfold apL
  rw [List.length_map, List.length_range]
  by_cases h : apN e s t g = 0
  · omega
  · have := (lt_apN (e := e) (s := s) (t := t) g1 (apN e s t g - 1)).mp (by omega)
    have l : ((apN e s t g - 1 : Nat) : Int) * 1 ≤ ((apN e s t g - 1 : Nat) : Int) * g := Int.mul_le_mul_of_nonneg_left (by omega) (by omega)
    unfold apS at this
    omega
end L2.AR.T
set_option Elab.async false
set_option linter.all false
set_option maxRecDepth 100000
set_option maxHeartbeats 4000000
namespace L2.AR.T
open PySem PySem.Spec PyProof.Rows
theorem is_is_int (a0 : D) : m_is_int [a0] = endB (s_is_int [.dat a0]) := runB_is rfl
theorem is_plain_form (a0 : D) : m_plain_form [a0] = endB (s_plain_form [.dat a0]) := runB_is rfl
theorem is_check_number (a0 a1 : D) : m_check_number [a0, a1] = endB (s_check_number [.dat a0, .dat a1]) := runB_is rfl
theorem is_are_beats (a0 : D) : m_are_beats [a0] = endB (s_are_beats [.dat a0, .no]) := runB_is rfl
theorem is_check_beats (a0 : D) : m_check_beats [a0] = endB (s_check_beats [.dat a0, .no]) := runB_is rfl
theorem is_are_fixed (a0 a1 : D) : m_are_fixed [a0, a1] = endB (s_are_fixed [.dat a0, .dat a1]) := runB_is rfl
theorem is_are_narrow (a0 a1 : D) : m_are_narrow [a0, a1] = endB (s_are_narrow [.dat a0, .dat a1]) := runB_is rfl
theorem is_ever_meet (a0 a1 : D) : m_ever_meet [a0, a1] = endB (s_ever_meet [.dat a0, .dat a1, .no, .no, .no, .no]) := runB_is rfl
theorem is_inverse_of (a0 a1 : D) : m_inverse_of [a0, a1] = endB (s_inverse_of [.dat a0, .dat a1, .no, .no, .no, .no, .no]) := runB_is rfl
theorem is_family_of (a0 a1 a2 : D) : m_family_of [a0, a1, a2] = endB (s_family_of [.dat a0, .dat a1, .dat a2, .no, .no, .no, .no, .no, .no, .no]) := runB_is rfl
theorem is_families_of (a0 a1 : D) : m_families_of [a0, a1] = endB (s_families_of [.dat a0, .dat a1, .no, .no, .no, .no]) := runB_is rfl
theorem is_met_families (a0 a1 : D) : m_met_families [a0, a1] = endB (s_met_families [.dat a0, .dat a1, .no, .no]) := runB_is rfl
theorem is_pairs_within (a0 a1 : D) : m_pairs_within [a0, a1] = endB (s_pairs_within [.dat a0, .dat a1, .no, .no, .no, .no, .no, .no]) := runB_is rfl
theorem is_met_number (a0 a1 a2 : D) : m_met_number [a0, a1, a2] = endB (s_met_number [.dat a0, .dat a1, .dat a2, .no, .no]) := runB_is rfl
theorem is_first_of_families (a0 : D) : m_first_of_families [a0] = endB (s_first_of_families [.dat a0, .no]) := runB_is rfl
theorem is_first_met (a0 a1 : D) : m_first_met [a0, a1] = endB (s_first_met [.dat a0, .dat a1, .no, .no]) := runB_is rfl
theorem is__law_just (a0 a1 : D) : m__law_just [a0, a1] = endB (s__law_just [.dat a0, .dat a1]) := runB_is rfl
theorem is__law_common (a0 a1 : D) : m__law_common [a0, a1] = endB (s__law_common [.dat a0, .dat a1, .no]) := runB_is rfl
theorem is__law_small_row (a0 : D) : m__law_small_row [a0] = endB (s__law_small_row [.dat a0, .no, .no]) := runB_is rfl
theorem is__law_families (a0 a1 : D) : m__law_families [a0, a1] = endB (s__law_families [.dat a0, .dat a1, .no, .no, .no, .no, .no, .no]) := runB_is rfl
theorem is__law_many (a0 a1 : D) : m__law_many [a0, a1] = endB (s__law_many [.dat a0, .dat a1, .no, .no, .no, .no, .no, .no]) := runB_is rfl
theorem is__law_tried (a0 a1 a2 : D) : m__law_tried [a0, a1, a2] = endB (s__law_tried [.dat a0, .dat a1, .dat a2, .no, .no, .no, .no]) := runB_is rfl
theorem is__law_heard_beats (a0 a1 a2 a3 : D) : m__law_heard_beats [a0, a1, a2, a3] = endB (s__law_heard_beats [.dat a0, .dat a1, .dat a2, .dat a3, .no, .no]) := runB_is rfl
theorem is__law_two_right (a0 a1 a2 a3 : D) : m__law_two_right [a0, a1, a2, a3] = endB (s__law_two_right [.dat a0, .dat a1, .dat a2, .dat a3, .no, .no, .no, .no, .no, .no, .no, .no, .no, .no, .no]) := runB_is rfl
theorem is__law_small_right (a0 : D) : m__law_small_right [a0] = endB (s__law_small_right [.dat a0, .no, .no, .no, .no]) := runB_is rfl
theorem is__law_great_right (a0 : D) : m__law_great_right [a0] = endB (s__law_great_right [.dat a0, .no, .no, .no, .no, .no, .no, .no, .no, .no, .no, .no]) := runB_is rfl
theorem is__law_wide_right (a0 : D) : m__law_wide_right [a0] = endB (s__law_wide_right [.dat a0, .no, .no, .no, .no, .no, .no, .no, .no, .no]) := runB_is rfl
theorem is__law_refused (a0 : D) : m__law_refused [a0] = endB (s__law_refused [.dat a0, .no, .no, .no, .no, .no, .no, .no, .no, .no, .no, .no, .no]) := runB_is rfl
/-! ### rows of beats -/
def wd (dr : Bool) : Str := if dr then "drift" else "fixed"
def bt (dr : Bool) (c p w : Int) : D := .tuple [.str (wd dr), .int c, .int p, .int w]
def btL (dr : Bool) (c p w : Int) : D := .list [.str (wd dr), .int c, .int p, .int w]
def Sm (i : Int) : Prop := i.natAbs < 2 ^ 60
structure Good (dr : Bool) (c p w : Int) : Prop where
  c0 : 0 ≤ c
  p1 : 1 ≤ p
  w0 : 0 ≤ w
  pw : dr = true → p ≤ w
  sc : Sm c
  sp : Sm p
  sw : Sm w
theorem ds_ne : (("drift" : Str) == ("fixed" : Str)) = false := by decide
theorem sd_ne : (("fixed" : Str) == ("drift" : Str)) = false := by decide
theorem sm64 {i : Int} (h : Sm i) : small64 i = true := by
  unfold Sm at h
  unfold small64
  simp
  omega
theorem sm_of {i : Int} (h : 0 ≤ i) (h2 : i ≤ 2 ^ 59) : Sm i := by
  unfold Sm
  omega
theorem log_sm {p : Int} (h : Sm p) (h0 : 0 < p) : p.natAbs.log2 < 9000 := by
  have := (Nat.log2_lt (n := p.natAbs) (by omega)).mpr h
  omega
theorem ix4_0 (a b c d : D) : op2 fIx (.tuple [a, b, c, d]) (.int 0) = ret a := rfl
theorem ix4_1 (a b c d : D) : op2 fIx (.tuple [a, b, c, d]) (.int 1) = ret b := rfl
theorem ix4_2 (a b c d : D) : op2 fIx (.tuple [a, b, c, d]) (.int 2) = ret c := rfl
theorem ix4_3 (a b c d : D) : op2 fIx (.tuple [a, b, c, d]) (.int 3) = ret d := rfl
theorem ix5_1 (a b c d e : D) : op2 fIx (.tuple [a, b, c, d, e]) (.int 1) = ret b := rfl
theorem ix5_2 (a b c d e : D) : op2 fIx (.tuple [a, b, c, d, e]) (.int 2) = ret c := rfl
theorem sl4_1 (a b c d : D) : sliceD (.tuple [a, b, c, d]) (some 1) none = ret (.tuple [b, c, d]) := rfl
theorem isi_int (i : Int) : m_is_int [.int i] = ret (.bool true) := by
  rw [is_is_int, s_is_int]
  simp
theorem check_number {i l : Int} (h : l ≤ i) : m_check_number [.int i, .int l] = ret (.int i) := by
  rw [is_check_number, s_check_number]
  have h' : ¬ i < l := by omega
  simp [isi_int, h']
theorem plain_bt {dr : Bool} {c p w : Int} : m_plain_form [bt dr c p w] = ret (bt dr c p w) := by
  rw [is_plain_form, s_plain_form]
  simp [m_told_plainly, bt, m_plain, okP, plainD, plainL]
theorem plain_btL {dr : Bool} {c p w : Int} : m_plain_form [btL dr c p w] = ret (bt dr c p w) := by
  rw [is_plain_form, s_plain_form]
  simp [m_told_plainly, bt, btL, m_plain, okP, plainD, plainL]
theorem in_f : op2 (fIn true) (.str "fixed") (.tuple [.str "fixed", .str "drift"]) = ret (.bool false) := rfl
theorem in_d : op2 (fIn true) (.str "drift") (.tuple [.str "fixed", .str "drift"]) = ret (.bool false) := rfl
theorem are_beats {dr : Bool} {c p w : Int} (g : Good dr c p w) : m_are_beats [bt dr c p w] = ret (.bool true) := by
  have h1 : ¬ c < 0 := by have := g.c0; omega
  have h2 : ¬ p < 0 := by have := g.p1; omega
  have h3 : ¬ w < 0 := by have := g.w0; omega
  have h4 : ¬ p < 1 := by have := g.p1; omega
  have h5 := g.pw
  rw [is_are_beats, s_are_beats]
  cases dr
  · simp [bt, wd, isi_int, mkT, ix4_0, ix4_1, ix4_2, ix4_3, sl4_1, ds_ne, in_f, in_d, o_neI, h1, h2, h3, h4]
  · have := h5 rfl
    simp [bt, wd, isi_int, mkT, ix4_0, ix4_1, ix4_2, ix4_3, sl4_1, ds_ne, in_f, in_d, o_neI, h1, h2, h3, h4, this]
theorem check_bt {dr : Bool} {c p w : Int} (g : Good dr c p w) : m_check_beats [bt dr c p w] = ret (bt dr c p w) := by
  rw [is_check_beats, s_check_beats]
  simp [plain_bt, are_beats g]
theorem check_btL {dr : Bool} {c p w : Int} (g : Good dr c p w) : m_check_beats [btL dr c p w] = ret (bt dr c p w) := by
  rw [is_check_beats, s_check_beats]
  simp [plain_btL, are_beats g]
structure Bt where
  dr : Bool
  c : Int
  p : Int
  w : Int
def Bt.d (b : Bt) : D := bt b.dr b.c b.p b.w
def Bt.l (b : Bt) : D := btL b.dr b.c b.p b.w
abbrev Bt.G (b : Bt) : Prop := Good b.dr b.c b.p b.w
theorem Bt.check (b : Bt) (g : b.G) : m_check_beats [b.d] = ret b.d := check_bt g
theorem Bt.checkL (b : Bt) (g : b.G) : m_check_beats [b.l] = ret b.d := check_btL g
theorem Bt.i0 (b : Bt) : op2 fIx b.d (.int 0) = ret (.str (wd b.dr)) := rfl
theorem Bt.i1 (b : Bt) : op2 fIx b.d (.int 1) = ret (.int b.c) := rfl
theorem Bt.i2 (b : Bt) : op2 fIx b.d (.int 2) = ret (.int b.p) := rfl
theorem Bt.i3 (b : Bt) : op2 fIx b.d (.int 3) = ret (.int b.w) := rfl
theorem are_fixed (o t : Bt) : m_are_fixed [o.d, t.d] = ret (.bool (!o.dr && !t.dr)) := by
  obtain ⟨a, c, p, w⟩ := o
  obtain ⟨a', c', p', w'⟩ := t
  rw [is_are_fixed, s_are_fixed]
  cases a <;> cases a' <;> simp [Bt.d, bt, wd, ix4_0, ds_ne]
theorem are_narrow (o t : Bt) : m_are_narrow [o.d, t.d] = ret (.bool (decide (o.w + t.w ≤ 2000))) := by
  rw [is_are_narrow, s_are_narrow]
  simp [Bt.i3]
/-! ### the inverse -/
abbrev invC : Rho → M Bool := (tV (b2 fGt (gVar 3) (cK (.int 0))))
abbrev invB : MS := (sSeq (sSet 6 (b2 fDiv (gVar 2) (gVar 3)))
 (sSeq (sPar 2 3 (aC (gVar 3) (aC (b2 fSub (gVar 2) (b2 fMul (gVar 6) (gVar 3))) aN)))
 (sPar 4 5 (aC (gVar 5) (aC (b2 fSub (gVar 4) (b2 fMul (gVar 6) (gVar 5))) aN)))))
theorem ar7 {a x y h l b w z t : Int} (e1 : a * x = h + b * w) (e2 : a * y = l + b * z) : a * (x - t * y) = h - t * l + b * (w - t * z) := by grind
theorem inv_loop {A B : Sl} {a b : Int} : ∀ (n : Nat) (h l x y : Int) (z : Sl), 0 ≤ l → l < n → 1 ≤ h → h < 2 ^ 60 → l < 2 ^ 60 → (∀ k, k ∣ h → k ∣ l → k ∣ 1) → (∃ w, a * x = h + b * w) → (∃ w, a * y = l + b * w) →
    ∃ x' y' z', loopW invC invB n [A, B, .dat (.int h), .dat (.int l), .dat (.int x), .dat (.int y), z] = okS .nx [A, B, .dat (.int 1), .dat (.int 0), .dat (.int x'), .dat (.int y'), z'] ∧ ∃ w, a * x' = 1 + b * w
  | 0, h, l, x, y, z, l0, l1, _, _, _, _, _, _ => by omega
  | n + 1, h, l, x, y, z, l0, l1, h1, h2, h3, co, ⟨w1, e1⟩, ⟨w2, e2⟩ => by
    rw [x_while0]
    by_cases c : l = 0
    · subst c
      have hh : h = 1 := by
        have := Int.eq_one_of_dvd_one (by omega) (co h (Int.dvd_refl h) (Int.dvd_zero h))
        exact this
      subst hh
      exact ⟨x, y, z, by simp, w1, e1⟩
    · have lp : 0 < l := by omega
      have sl : Sm l := by unfold Sm; omega
      have t0 : 0 ≤ h / l := Int.ediv_nonneg (by omega) (by omega)
      have t1 : h / l ≤ h := Int.ediv_le_self l (by omega)
      have st : Sm (h / l) := by unfold Sm; omega
      have r0 := Int.emod_nonneg h (show l ≠ 0 by omega)
      have r1 := Int.emod_lt_of_pos h lp
      have re : h - h / l * l = h % l := by have := Int.emod_add_mul_ediv h l; rw [Int.mul_comm l] at this; omega
      obtain ⟨x', y', z', e, w⟩ := inv_loop (A := A) (B := B) (a := a) (b := b) n l (h - h / l * l) y (x - h / l * y) (.dat (.int (h / l))) (by omega) (by push_cast at l1; omega) (by omega) (by omega) (by omega) (fun k k1 k2 => co k (by
        have := Int.dvd_add k2 (Int.dvd_mul_of_dvd_right k1 : k ∣ h / l * l)
        rwa [Int.sub_add_cancel] at this) k1) ⟨w2, e2⟩ ⟨w1 - h / l * w2, ar7 e1 e2⟩
      refine ⟨x', y', z', ?_, w⟩
      simp [lp, o_div lp (log_sm sl lp), o_mul (Or.inl (sm64 st))]
      exact e
theorem inverse_of {a b : Int} (b1 : 1 ≤ b) (b2 : b < 1000) (co : ∀ k, k ∣ a → k ∣ b → k ∣ 1) : ∃ v, m_inverse_of [.int a, .int b] = ret (.int v) ∧ 0 ≤ v ∧ v < b ∧ (a * v) % b = 1 % b := by
  have m0 := Int.emod_nonneg a (show b ≠ 0 by omega)
  have m1 := Int.emod_lt_of_pos a (show 0 < b by omega)
  have me := Int.emod_add_mul_ediv a b
  obtain ⟨x', y', z', e, w, hw⟩ := inv_loop (A := .dat (.int a)) (B := .dat (.int b)) (a := a) (b := b) 1000 b (a % b) 0 1 .no m0 (by omega) b1 (by omega) (by omega) (fun k k1 k2 => co k (by
    rw [← me]
    exact Int.dvd_add k2 (Int.dvd_mul_of_dvd_left k1)) k1) ⟨-1, by omega⟩ ⟨a / b, by omega⟩
  refine ⟨x' % b, ?_, Int.emod_nonneg _ (by omega), Int.emod_lt_of_pos _ (by omega), ?_⟩
  · rw [is_inverse_of, s_inverse_of]
    simp [o_mod (show 0 < b by omega), mkT]
    rw [e]
    simp [o_mod (show 0 < b by omega)]
  · rw [Int.mul_emod, Int.emod_emod, ← Int.mul_emod, hw, Int.add_mul_emod_self_left]
end L2.AR.T
set_option Elab.async false
set_option linter.all false
set_option maxRecDepth 100000
set_option maxHeartbeats 4000000
namespace L2.AR.T
open PySem PySem.Spec PyProof.Rows
/-! ### the families -/
def gI (o t : Bt) : Int := ((Nat.gcd o.p.natAbs t.p.natAbs : Nat) : Int)
def aI (o t : Bt) : Int := o.p / gI o t
def bI (o t : Bt) : Int := t.p / gI o t
def eI (o t : Bt) : Int := o.c - t.c
def dsI (o t : Bt) : List Int := apL (eI o t) o.w t.w (gI o t)
structure Pr (o t : Bt) : Prop where
  go : o.G
  gt : t.G
  fo : o.dr = false
  ft : t.dr = false
  nar : o.w + t.w ≤ 2000
  po : o.p < 1000000
  pt : t.p < 1000000
  a5 : aI o t < 1000
  b5 : bI o t < 1000
theorem gI_symm (o t : Bt) : gI o t = gI t o := by unfold gI; rw [Nat.gcd_comm]
theorem Pr.flip {o t : Bt} (h : Pr o t) : Pr t o := ⟨h.gt, h.go, h.ft, h.fo, by have := h.nar; omega, h.pt, h.po, by have := h.b5; unfold bI at this; unfold aI; rw [gI_symm]; exact this, by have := h.a5; unfold aI at this; unfold bI; rw [gI_symm]; exact this⟩
section
variable {o t : Bt} (h : Pr o t)
include h
theorem Pr.g1 : 1 ≤ gI o t := by
  have := h.go.p1
  have := Nat.gcd_pos_of_pos_left t.p.natAbs (show 0 < o.p.natAbs by omega)
  unfold gI
  omega
theorem Pr.gp : o.p = gI o t * aI o t := by
  have d : gI o t ∣ o.p := by
    unfold gI
    exact Int.gcd_dvd_left ..
  exact (Int.mul_ediv_cancel' d).symm
theorem Pr.gq : t.p = gI o t * bI o t := by
  have d : gI o t ∣ t.p := by
    unfold gI
    exact Int.gcd_dvd_right ..
  exact (Int.mul_ediv_cancel' d).symm
theorem Pr.a1 : 1 ≤ aI o t := by
  have e := h.gp
  have p1 := h.go.p1
  have g1 := h.g1
  by_cases c : 1 ≤ aI o t
  · exact c
  · have := Int.mul_le_mul_of_nonneg_left (show aI o t ≤ 0 by omega) (show 0 ≤ gI o t by omega)
    omega
theorem Pr.b1 : 1 ≤ bI o t := by
  have e := h.gq
  have p1 := h.gt.p1
  have g1 := h.g1
  by_cases c : 1 ≤ bI o t
  · exact c
  · have := Int.mul_le_mul_of_nonneg_left (show bI o t ≤ 0 by omega) (show 0 ≤ gI o t by omega)
    omega
theorem Pr.co (k : Int) (k1 : k ∣ aI o t) (k2 : k ∣ bI o t) : k ∣ 1 := by
  have g1 := h.g1
  have d1 : gI o t * k ∣ o.p := by
    have := Int.mul_dvd_mul_left (gI o t) k1
    rwa [← h.gp] at this
  have d2 : gI o t * k ∣ t.p := by
    have := Int.mul_dvd_mul_left (gI o t) k2
    rwa [← h.gq] at this
  have d3 : gI o t * k ∣ gI o t * 1 := by
    rw [Int.mul_one]
    show gI o t * k ∣ ((Int.gcd o.p t.p : Nat) : Int)
    exact Int.dvd_coe_gcd d1 d2
  exact Int.dvd_of_mul_dvd_mul_left (by omega) d3
end
def f5 (d i j b a : Int) : D := .tuple [.int d, .int i, .int j, .int b, .int a]
def famL (o t : Bt) (FI FJ : Int → Int) : List D := (dsI o t).map fun d => f5 d (FI d) (FJ d) (bI o t) (aI o t)
def FamOK (o t : Bt) (FI FJ : Int → Int) : Prop := ∀ d ∈ dsI o t, Fam (eI o t) o.p t.p d (FI d) (FJ d) (aI o t) (bI o t)
theorem famL_ext {o t : Bt} {FI FJ FI' FJ' : Int → Int} (h : FamOK o t FI FJ) (h' : FamOK o t FI' FJ') : famL o t FI FJ = famL o t FI' FJ' := by
  unfold famL
  refine List.map_congr_left fun d m => ?_
  obtain ⟨e1, e2⟩ := (h d m).uniq (h' d m)
  rw [e1, e2]
theorem step_ap (o t : Bt) : stepTo (apS (eI o t) o.w (gI o t)) (gI o t) (apN (eI o t) o.w t.w (gI o t)) = (dsI o t).map .int := by
  unfold stepTo dsI apL
  rw [List.map_map]
  rfl
theorem family_of {o t : Bt} (h : Pr o t) : ∃ v, ∀ d, m_family_of [o.d, t.d, .int d] = ret (f5 d (firstI ((d - o.c + t.c) / gI o t) (aI o t) (bI o t) v) (firstJ ((d - o.c + t.c) / gI o t) (aI o t) (bI o t) v) (bI o t) (aI o t)) ∧ (aI o t * v) % bI o t = 1 % bI o t := by
  obtain ⟨v, ev, v0, v1, hv⟩ := inverse_of h.b1 h.b5 h.co
  refine ⟨v, fun d => ⟨?_, hv⟩⟩
  have g1 := h.g1
  have a1 := h.a1
  have b1 := h.b1
  have a5 := h.a5
  have b5 := h.b5
  have gs : Sm (gI o t) := by
    have : gI o t ≤ o.p := Int.le_of_dvd (by have := h.go.p1; omega) ⟨_, h.gp⟩
    have := h.po
    unfold Sm
    omega
  have as : Sm (aI o t) := by unfold Sm; omega
  have bs : Sm (bI o t) := by unfold Sm; omega
  have vs : Sm v := by unfold Sm; omega
  have dg : ∀ x, op2 fDiv (.int x) (.int (gI o t)) = ret (.int (x / gI o t)) := fun x => o_div (by omega) (log_sm gs (by omega))
  have da : ∀ x, op2 fDiv (.int x) (.int (aI o t)) = ret (.int (x / aI o t)) := fun x => o_div (by omega) (log_sm as (by omega))
  have db : ∀ x, op2 fDiv (.int x) (.int (bI o t)) = ret (.int (x / bI o t)) := fun x => o_div (by omega) (log_sm bs (by omega))
  have mb : ∀ x, op2 fMod (.int x) (.int (bI o t)) = ret (.int (x % bI o t)) := fun x => o_mod (by omega)
  have gc : opA fGcd [.int o.p, .int t.p] = ret (.int (gI o t)) := rfl
  have ea : o.p / gI o t = aI o t := rfl
  have eb : t.p / gI o t = bI o t := rfl
  rw [is_family_of, s_family_of]
  simp only [x_seq, x_set, x_cA, x_aC, x_aN, x_b2, gVar0, gVarS, bnd_ret, bndS_ret, seqS_nx, sPut, Bt.i1, Bt.i2, x_cK]
  simp [-o_gcd, gc, Bt.i1, Bt.i2, dg, ea, eb, ev, da, db, mb, o_mul (Or.inr (sm64 vs)), o_mul (Or.inr (sm64 as)), mkT]
  simp [f5, firstI, firstJ, leastI]
theorem families_of {o t : Bt} (h : Pr o t) : ∃ FI FJ, m_families_of [o.d, t.d] = ret (.list (famL o t FI FJ)) ∧ FamOK o t FI FJ := by
  obtain ⟨v, ev⟩ := family_of h
  have g1 := h.g1
  have c1 := h.go.c0
  have c2 := h.gt.c0
  have w1 := h.go.w0
  have w2 := h.gt.w0
  have s1 := h.go.sc
  have s2 := h.gt.sc
  have nar := h.nar
  have gs : gI o t ≤ 1000000 := by
    have : gI o t ≤ o.p := Int.le_of_dvd (by have := h.go.p1; omega) ⟨_, h.gp⟩
    have := h.po
    omega
  have gc : opA fGcd [.int o.p, .int t.p] = ret (.int (gI o t)) := rfl
  have mg : ∀ x, op2 fMod (.int x) (.int (gI o t)) = ret (.int (x % gI o t)) := fun x => o_mod (by omega)
  have st : -o.w + (o.c - t.c + o.w) % gI o t = apS (eI o t) o.w (gI o t) := rfl
  have ll := apL_len (e := eI o t) g1 w1 w2
  refine ⟨fun d => firstI ((d - o.c + t.c) / gI o t) (aI o t) (bI o t) v, fun d => firstJ ((d - o.c + t.c) / gI o t) (aI o t) (bI o t) v, ?_, fun d m => ?_⟩
  rotate_left
  · obtain ⟨_, _, m, hm⟩ := (apL_mem g1 d).mp m
    have q : (d - o.c + t.c) / gI o t = m := by
      rw [show d - o.c + t.c = gI o t * m by unfold eI at hm; omega]
      exact Int.mul_ediv_cancel_left _ (by omega)
    have f := fam_mk (m := m) g1 h.a1 h.b1 h.gp h.gq hm (ev d).2
    rw [← q] at f
    exact f
  · have r0 := Int.emod_nonneg (eI o t + o.w) (show gI o t ≠ 0 by omega)
    have r1 := Int.emod_lt_of_pos (eI o t + o.w) (show 0 < gI o t by omega)
    have n0 : (Builtin.Range.rangeSize (apS (eI o t) o.w (gI o t)) (t.w + 1) (gI o t)) = (apN (eI o t) o.w t.w (gI o t) : Int) := by
      unfold apN
      exact rangeSize_toNat _ _ _
    have rg : rangeOf3 [.int (apS (eI o t) o.w (gI o t)), .int (t.w + 1), .int (gI o t)] = some ((dsI o t).map .int) := by
      rw [← step_ap]
      refine if_pos ⟨by omega, by omega, ?_, by omega⟩
      unfold apL at ll
      rw [List.length_map, List.length_range] at ll
      have sb : -o.w ≤ apS (eI o t) o.w (gI o t) ∧ apS (eI o t) o.w (gI o t) < gI o t := by unfold apS; omega
      unfold Builtin.Range.small Builtin.Range.rangeFitsLong
      rw [n0]
      have g0 : gI o t > 0 := by omega
      simp [g0]
      omega
    rw [is_families_of, s_families_of]
    simp [-o_gcd, -comp_cons, gc, Bt.i1, Bt.i2, Bt.i3, mg, st, rg, wipeR]
    rw [comp_map (f := fun d => match d with
      | .int d => f5 d (firstI ((d - o.c + t.c) / gI o t) (aI o t) (bI o t) v) (firstJ ((d - o.c + t.c) / gI o t) (aI o t) (bI o t) v) (bI o t) (aI o t)
      | _ => .none)]
    · simp
      rfl
    · intro d m
      obtain ⟨x, _, rfl⟩ := List.mem_map.mp m
      simp
      exact (ev x).1
    · intro d m
      obtain ⟨x, _, rfl⟩ := List.mem_map.mp m
      rfl
    · unfold dsI
      simp
      omega
end L2.AR.T
set_option Elab.async false
set_option linter.all false
set_option maxRecDepth 100000
set_option maxHeartbeats 4000000
namespace L2.AR.T
open PySem PySem.Spec PyProof.Rows
/-! ### pairs within k, both ways -/
def wI (k i j b a : Int) : Int := if 1 + (if (k - j) / a < (k - i) / b then (k - j) / a else (k - i) / b) > 0 then 1 + (if (k - j) / a < (k - i) / b then (k - j) / a else (k - i) / b) else 0
def wS (FI FJ : Int → Int) (b a k : Int) : List Int → Int
  | [] => 0
  | d :: ds => wI k (FI d) (FJ d) b a + wS FI FJ b a k ds
theorem wI_far {k i j b a : Int} (b1 : 1 ≤ b) (a1 : 1 ≤ a) (h : ¬ (i ≤ k ∧ j ≤ k)) : wI k i j b a = 0 := by
  unfold wI
  have : (if (k - j) / a < (k - i) / b then (k - j) / a else (k - i) / b) ≤ -1 := by
    by_cases c : i ≤ k
    · have : (k - j) / a < 0 := Int.ediv_neg_of_neg_of_pos (by omega) (by omega)
      split <;> omega
    · have : (k - i) / b < 0 := Int.ediv_neg_of_neg_of_pos (by omega) (by omega)
      split <;> omega
  rw [if_neg (by omega)]
theorem wI_near {k i j b a : Int} (b1 : 1 ≤ b) (a1 : 1 ≤ a) (h : i ≤ k) (h' : j ≤ k) : wI k i j b a = 1 + (if (k - j) / a < (k - i) / b then (k - j) / a else (k - i) / b) := by
  unfold wI
  have q1 : 0 ≤ (k - j) / a := Int.ediv_nonneg (by omega) (by omega)
  have q2 : 0 ≤ (k - i) / b := Int.ediv_nonneg (by omega) (by omega)
  rw [if_pos (by split <;> omega)]
theorem lp5 (b : MS) (x1 x2 x3 x4 x5 : D) (ds : List D) (ρ : Rho) : loopL (tgT [tgN 3, tgN 4, tgN 5, tgN 6, tgN 7]) b (.tuple [x1, x2, x3, x4, x5] :: ds) ρ = turnS (b (((((ρ.set 3 (.dat x1)).set 4 (.dat x2)).set 5 (.dat x3)).set 6 (.dat x4)).set 7 (.dat x5))) (loopL (tgT [tgN 3, tgN 4, tgN 5, tgN 6, tgN 7]) b ds) := x_loop1 rfl
abbrev pwB : MS := (sSet 2 (b2 fAdd (gVar 2) (cA fMax (aC (cK (.int 0)) (aC (b2 fAdd (cK (.int 1)) (cA fMin (aC (b2 fDiv (b2 fSub (gVar 1) (gVar 4)) (gVar 6)) (aC (b2 fDiv (b2 fSub (gVar 1) (gVar 5)) (gVar 7)) aN)))) aN)))))
theorem div_sm {a : Int} (a1 : 1 ≤ a) (a2 : a < 1000) (x : Int) : op2 fDiv (.int x) (.int a) = ret (.int (x / a)) := o_div (by omega) (log_sm (by unfold Sm; omega) (by omega))
theorem pw_loop {FI FJ : Int → Int} {a b k : Int} (a1 : 1 ≤ a) (a2 : a < 1000) (b1 : 1 ≤ b) (b2 : b < 1000) {X : Sl} : ∀ (ds : List Int) (n : Int) (x3 x4 x5 x6 x7 : Sl), ∃ y3 y4 y5 y6 y7,
    loopL (tgT [tgN 3, tgN 4, tgN 5, tgN 6, tgN 7]) pwB (ds.map fun d => f5 d (FI d) (FJ d) b a) [X, .dat (.int k), .dat (.int n), x3, x4, x5, x6, x7] = okS .nx [X, .dat (.int k), .dat (.int (n + wS FI FJ b a k ds)), y3, y4, y5, y6, y7]
  | [], n, x3, x4, x5, x6, x7 => ⟨x3, x4, x5, x6, x7, by simp [wS]⟩
  | d :: ds, n, x3, x4, x5, x6, x7 => by
    obtain ⟨y3, y4, y5, y6, y7, e⟩ := pw_loop (FI := FI) (FJ := FJ) (k := k) a1 a2 b1 b2 (X := X) ds (n + wI k (FI d) (FJ d) b a) (.dat (.int d)) (.dat (.int (FI d))) (.dat (.int (FJ d))) (.dat (.int b)) (.dat (.int a))
    refine ⟨y3, y4, y5, y6, y7, ?_⟩
    rw [List.map_cons]
    simp only [f5]
    rw [lp5]
    simp [div_sm a1 a2, div_sm b1 b2]
    rw [show n + wS FI FJ b a k (d :: ds) = n + wI k (FI d) (FJ d) b a + wS FI FJ b a k ds by simp only [wS]; omega]
    exact e
theorem pairs_within {o t : Bt} (h : Pr o t) {FI FJ : Int → Int} {k : Int} : m_pairs_within [.list (famL o t FI FJ), .int k] = ret (.int (wS FI FJ (bI o t) (aI o t) k (dsI o t))) := by
  obtain ⟨y3, y4, y5, y6, y7, e⟩ := pw_loop (FI := FI) (FJ := FJ) (k := k) (X := .dat (.list (famL o t FI FJ))) h.a1 h.a5 h.b1 h.b5 (dsI o t) 0 .no .no .no .no .no
  rw [is_pairs_within, s_pairs_within]
  simp
  unfold famL at e ⊢
  rw [e]
  simp
abbrev lmB : MS := (sIf (tAn (tV (b2 fLe (gVar 4) (gVar 1))) (tV (b2 fLe (gVar 5) (gVar 1))))
 (sSet 2 (b2 fAdd (b2 fAdd (gVar 2) (cK (.int 1))) (cA fMin (aC (b2 fDiv (b2 fSub (gVar 1) (gVar 4)) (cA fMax (aC (cK (.int 1)) (aC (gVar 6) aN)))) (aC (b2 fDiv (b2 fSub (gVar 1) (gVar 5)) (cA fMax (aC (cK (.int 1)) (aC (gVar 7) aN)))) aN)))))
 sSkip)
theorem max1 {b : Int} (b1 : 1 ≤ b) : (if b > 1 then b else 1) = b := by split <;> omega
theorem max1' {b : Int} (b1 : 1 ≤ b) : (if 1 < b then b else 1) = b := by split <;> omega
theorem lm_loop {FI FJ : Int → Int} {a b k : Int} (a1 : 1 ≤ a) (a2 : a < 1000) (b1 : 1 ≤ b) (b2 : b < 1000) {X : Sl} : ∀ (ds : List Int) (n : Int) (x3 x4 x5 x6 x7 : Sl), ∃ y3 y4 y5 y6 y7,
    loopL (tgT [tgN 3, tgN 4, tgN 5, tgN 6, tgN 7]) lmB (ds.map fun d => f5 d (FI d) (FJ d) b a) [X, .dat (.int k), .dat (.int n), x3, x4, x5, x6, x7] = okS .nx [X, .dat (.int k), .dat (.int (n + wS FI FJ b a k ds)), y3, y4, y5, y6, y7]
  | [], n, x3, x4, x5, x6, x7 => ⟨x3, x4, x5, x6, x7, by simp [wS]⟩
  | d :: ds, n, x3, x4, x5, x6, x7 => by
    obtain ⟨y3, y4, y5, y6, y7, e⟩ := lm_loop (FI := FI) (FJ := FJ) (k := k) a1 a2 b1 b2 (X := X) ds (n + wI k (FI d) (FJ d) b a) (.dat (.int d)) (.dat (.int (FI d))) (.dat (.int (FJ d))) (.dat (.int b)) (.dat (.int a))
    refine ⟨y3, y4, y5, y6, y7, ?_⟩
    rw [List.map_cons]
    simp only [f5]
    rw [lp5]
    rw [show n + wS FI FJ b a k (d :: ds) = n + wI k (FI d) (FJ d) b a + wS FI FJ b a k ds by simp only [wS]; omega]
    by_cases c1 : FI d ≤ k
    · by_cases c2 : FJ d ≤ k
      · rw [wI_near b1 a1 c1 c2] at e ⊢
        simp [c1, c2, max1' a1, max1' b1, div_sm a1 a2, div_sm b1 b2]
        rw [← e]
        congr 3
        simp
        omega
      · rw [wI_far b1 a1 (by omega), Int.add_zero] at e ⊢
        simp [c1, c2]
        exact e
    · rw [wI_far b1 a1 (by omega), Int.add_zero] at e ⊢
      simp [c1]
      exact e
theorem law_many {o t : Bt} (h : Pr o t) {FI FJ : Int → Int} {k : Int} : m__law_many [.tuple (famL o t FI FJ), .int k] = ret (.int (wS FI FJ (bI o t) (aI o t) k (dsI o t))) := by
  obtain ⟨y3, y4, y5, y6, y7, e⟩ := lm_loop (FI := FI) (FJ := FJ) (k := k) (X := .dat (.tuple (famL o t FI FJ))) h.a1 h.a5 h.b1 h.b5 (dsI o t) 0 .no .no .no .no .no
  rw [is__law_many, s__law_many]
  simp
  unfold famL at e ⊢
  rw [e]
  simp
end L2.AR.T
set_option Elab.async false
set_option linter.all false
set_option maxRecDepth 100000
set_option maxHeartbeats 4000000
namespace L2.AR.T
open PySem PySem.Spec PyProof.Rows
/-! ### the program's answers, the rows in either form -/
theorem tell_k (x : Str) (h : okP 12 (.str x) = true) : m_told_plainly [.str x] = ret (.str x) := by
  show mPlain 12 _ = _
  rw [m_plain h]
  simp [plainD]
def fst1 (o t : Bt) (FI FJ : Int → Int) : D := if dsI o t = [] then .none else .int (minI ((dsI o t).map fun d => if FJ d > FI d then FJ d else FI d))
theorem ints_max (FI FJ : Int → Int) (b a : Int) (ds : List Int) : intsOf ((ds.map fun d => f5 d (FI d) (FJ d) b a).map fun x => match x with
      | .tuple [_, .int i, .int j, _, _] => .int (if j > i then j else i)
      | _ => .none) = some (ds.map fun d => if FJ d > FI d then FJ d else FI d) := by
  rw [List.map_map]
  have : ((fun x => match x with
      | .tuple [_, .int i, .int j, _, _] => .int (if j > i then j else i)
      | _ => PyData.none) ∘ fun d => f5 d (FI d) (FJ d) b a) = PyData.int ∘ fun d => if FJ d > FI d then FJ d else FI d := rfl
  rw [this, ← List.map_map]
  exact intsOf_map _
theorem min_of {ρ : Rho} {i : Nat} {FI FJ : Int → Int} {o t : Bt} (hl : (dsI o t).length ≤ 1000000) (hi : ∀ d, gVar i (ρ.set i (.dat d)) = ret d) (ne : dsI o t ≠ []) :
    bnd (comp1 (tgN i) tYs (cA fMax (aC (b2 fIx (gVar i) (cK (.int 1))) (aC (b2 fIx (gVar i) (cK (.int 2))) aN))) ρ (famL o t FI FJ) []) (fun d => bnd (ret []) fun ds => bnd (ret (d :: ds)) (opA fMinL)) = ret (fst1 o t FI FJ) := by
  rw [comp_map (f := fun x => match x with
      | .tuple [_, .int i, .int j, _, _] => .int (if j > i then j else i)
      | _ => .none)]
  · simp only [bnd_ret, List.nil_append]
    have e := ints_max FI FJ (bI o t) (aI o t) (dsI o t)
    have k : fMinL [.list ((famL o t FI FJ).map fun x => match x with
      | .tuple [_, .int i, .int j, _, _] => .int (if j > i then j else i)
      | _ => .none)] = some (fst1 o t FI FJ) := by
      show (intsOf _).bind _ = _
      unfold famL
      rw [e]
      unfold fst1
      rw [if_neg ne]
      simp [ne]
    unfold opA
    rw [k]
    rfl
  · intro d m
    obtain ⟨x, _, rfl⟩ := List.mem_map.mp m
    simp [hi, f5, ix5_1, ix5_2]
  · intro d m
    obtain ⟨x, _, rfl⟩ := List.mem_map.mp m
    rfl
  · unfold famL
    simp
    omega
theorem Pr.dl {o t : Bt} (h : Pr o t) : (dsI o t).length ≤ 2001 := by
  have := apL_len (e := eI o t) h.g1 h.go.w0 h.gt.w0
  have := h.nar
  unfold dsI
  omega
theorem first_of {o t : Bt} (h : Pr o t) {FI FJ : Int → Int} : m_first_of_families [.list (famL o t FI FJ)] = ret (fst1 o t FI FJ) := by
  have dl := h.dl
  rw [is_first_of_families, s_first_of_families]
  by_cases c : dsI o t = []
  · have f0 : famL o t FI FJ = [] := by unfold famL; rw [c]; rfl
    have g0 : fst1 o t FI FJ = .none := if_pos c
    simp [f0, g0, o_eqI]
  · have l : ((famL o t FI FJ).length : Int) ≠ 0 := by
      unfold famL
      rw [List.length_map]
      have := List.length_pos_iff.mpr c
      omega
    have l2 : ((((famL o t FI FJ).length : Nat) : Int) == 0) = false := by simpa using l
    have mm := min_of (ρ := [.dat (.list (famL o t FI FJ)), .no]) (i := 1) (FI := FI) (FJ := FJ) (show (dsI o t).length ≤ 1000000 by omega) (fun d => rfl) c
    simp only [bnd_ret] at mm
    simp only [x_seq, x_if, x_tV, x_b2, x_cA, x_aC, x_aN, gVar0, bnd_ret, tok_list, o_lenL, x_cK, o_eqI, l2, asB_bool, bndS_ret, Bool.false_eq_true, if_false, x_skip, seqS_nx, x_ret', x_comp, items_list, orStk_some, wipeR, List.set_cons_succ, List.set_cons_zero, bnd_assoc, mm, endB_rt]
def evP (o t : Bt) : Bool := decide ((o.c - t.c) % gI o t ≤ t.w) || decide (gI o t - (o.c - t.c) % gI o t ≤ o.w)
section
variable {o t : Bt} {X Y : D} (ex : m_check_beats [X] = ret o.d) (ey : m_check_beats [Y] = ret t.d)
include ex ey
theorem met_families (h : Pr o t) {FI FJ : Int → Int} (ef : m_families_of [o.d, t.d] = ret (.list (famL o t FI FJ))) : m_met_families [X, Y] = ret (.tuple (famL o t FI FJ)) := by
  rw [is_met_families, s_met_families]
  simp [ex, ey, are_fixed, h.fo, h.ft, are_narrow, h.nar, ef]
theorem first_met (h : Pr o t) {FI FJ : Int → Int} (ef : m_families_of [o.d, t.d] = ret (.list (famL o t FI FJ))) : m_first_met [X, Y] = ret (fst1 o t FI FJ) := by
  rw [is_first_met, s_first_met]
  simp [ex, ey, are_fixed, h.fo, h.ft, are_narrow, h.nar, ef, first_of h]
theorem met_number (h : Pr o t) {FI FJ : Int → Int} {k : Int} (k0 : 0 ≤ k) (ef : m_families_of [o.d, t.d] = ret (.list (famL o t FI FJ))) : m_met_number [X, Y, .int k] = ret (.int (wS FI FJ (bI o t) (aI o t) k (dsI o t))) := by
  rw [is_met_number, s_met_number]
  simp [ex, ey, are_fixed, h.fo, h.ft, are_narrow, h.nar, ef, check_number k0, pairs_within h]
theorem ever_meet (p1 : 1 ≤ o.p) (fo : o.dr = false) (ft : t.dr = false) : m_ever_meet [X, Y] = ret (.bool (evP o t)) := by
  have gp : (0 : Int) < gI o t := by
    have := Nat.gcd_pos_of_pos_left t.p.natAbs (show 0 < o.p.natAbs by omega)
    unfold gI
    omega
  have gc : opA fGcd [.int o.p, .int t.p] = ret (.int (gI o t)) := rfl
  rw [is_ever_meet, s_ever_meet]
  simp [-o_gcd, ex, ey, are_fixed, fo, ft, Bt.i1, Bt.i2, Bt.i3, gc, o_mod gp]
  unfold evP
  by_cases h : (o.c - t.c) % gI o t ≤ t.w <;> simp [h]
theorem families_fx (h : (!o.dr && !t.dr) = false) : m_met_families [X, Y] = fail 2 (.str "fixed") := by
  rw [is_met_families, s_met_families]
  simp [ex, ey, are_fixed, h, tell_k "fixed" rfl]
theorem first_fx (h : (!o.dr && !t.dr) = false) : m_first_met [X, Y] = fail 2 (.str "fixed") := by
  rw [is_first_met, s_first_met]
  simp [ex, ey, are_fixed, h, tell_k "fixed" rfl]
theorem ever_fx (h : (!o.dr && !t.dr) = false) : m_ever_meet [X, Y] = fail 2 (.str "fixed") := by
  rw [is_ever_meet, s_ever_meet]
  simp [ex, ey, are_fixed, h, tell_k "fixed" rfl]
theorem number_fx (h : (!o.dr && !t.dr) = false) {k : Int} (k0 : 0 ≤ k) : m_met_number [X, Y, .int k] = fail 2 (.str "fixed") := by
  rw [is_met_number, s_met_number]
  simp [ex, ey, are_fixed, h, check_number k0, tell_k "fixed" rfl]
theorem families_wd (fo : o.dr = false) (ft : t.dr = false) (h : ¬ o.w + t.w ≤ 2000) : m_met_families [X, Y] = fail 2 (.str "wide") := by
  rw [is_met_families, s_met_families]
  simp [ex, ey, are_fixed, fo, ft, are_narrow, h, tell_k "wide" rfl]
theorem first_wd (fo : o.dr = false) (ft : t.dr = false) (h : ¬ o.w + t.w ≤ 2000) : m_first_met [X, Y] = fail 2 (.str "wide") := by
  rw [is_first_met, s_first_met]
  simp [ex, ey, are_fixed, fo, ft, are_narrow, h, tell_k "wide" rfl]
theorem number_wd (fo : o.dr = false) (ft : t.dr = false) (h : ¬ o.w + t.w ≤ 2000) {k : Int} (k0 : 0 ≤ k) : m_met_number [X, Y, .int k] = fail 2 (.str "wide") := by
  rw [is_met_number, s_met_number]
  simp [ex, ey, are_fixed, fo, ft, are_narrow, h, check_number k0, tell_k "wide" rfl]
theorem number_no {k : D} (h : m_check_number [k, .int 0] = fail 0 k) : m_met_number [X, Y, k] = fail 0 k := by
  rw [is_met_number, s_met_number]
  simp [ex, ey, h]
end
/-- they ever meet iff there is a family -/
theorem ever_iff {o t : Bt} (h : Pr o t) : evP o t = decide (0 < ((dsI o t).length : Int)) := by
  have g1 := h.g1
  have w1 := h.go.w0
  have w2 := h.gt.w0
  have r0 := Int.emod_nonneg (o.c - t.c) (show gI o t ≠ 0 by omega)
  have r1 := Int.emod_lt_of_pos (o.c - t.c) (show 0 < gI o t by omega)
  have re := Int.emod_add_mul_ediv (o.c - t.c) (gI o t)
  have key : ((o.c - t.c) % gI o t ≤ t.w ∨ gI o t - (o.c - t.c) % gI o t ≤ o.w) ↔ ∃ x, x ∈ dsI o t := by
    unfold dsI
    constructor
    · rintro (c | c)
      · refine ⟨(o.c - t.c) % gI o t, (apL_mem g1 _).mpr ⟨by omega, c, -((o.c - t.c) / gI o t), ?_⟩⟩
        unfold eI
        rw [Int.mul_neg]
        omega
      · refine ⟨(o.c - t.c) % gI o t - gI o t, (apL_mem g1 _).mpr ⟨by omega, by omega, -((o.c - t.c) / gI o t) - 1, ?_⟩⟩
        unfold eI
        rw [Int.mul_sub, Int.mul_neg]
        omega
    · rintro ⟨x, m⟩
      obtain ⟨h1, h2, k, hk⟩ := (apL_mem g1 x).mp m
      have ex : x = (o.c - t.c) % gI o t + gI o t * (k + (o.c - t.c) / gI o t) := by
        unfold eI at hk
        rw [Int.mul_add]
        omega
      by_cases c : 0 ≤ k + (o.c - t.c) / gI o t
      · have := Int.mul_nonneg (show 0 ≤ gI o t by omega) c
        exact .inl (by omega)
      · have := Int.mul_le_mul_of_nonneg_left (show k + (o.c - t.c) / gI o t ≤ -1 by omega) (show 0 ≤ gI o t by omega)
        exact .inr (by omega)
  unfold evP
  rw [← Bool.decide_or]
  congr 1
  apply propext
  rw [key]
  constructor
  · rintro ⟨x, m⟩
    have := List.length_pos_of_mem m
    omega
  · intro l
    exact List.exists_mem_of_length_pos (by omega)
end L2.AR.T
set_option Elab.async false
set_option linter.all false
set_option maxRecDepth 100000
set_option maxHeartbeats 4000000
namespace L2.AR.T
open PySem PySem.Spec PyProof.Rows
/-! ### pairs tried one by one -/
def ap (o t : Bt) (i j : Int) : Int := o.c + i * o.p - t.c - j * t.p
def inr (o t : Bt) (x : Int) : Bool := decide (-o.w ≤ x) && decide (x ≤ t.w)
def rowP (i : Int) : Int → Nat → List (Int × Int)
  | _, 0 => []
  | s, n + 1 => (i, s) :: rowP i (s + 1) n
def allP (m : Nat) : Int → Nat → List (Int × Int)
  | _, 0 => []
  | s, n + 1 => rowP s 1 m ++ allP m (s + 1) n
def hits (o t : Bt) (l : List (Int × Int)) : Nat := (l.filter fun x => inr o t (ap o t x.1 x.2)).length
theorem hits_app (o t : Bt) (a b : List (Int × Int)) : hits o t (a ++ b) = hits o t a + hits o t b := by simp [hits]
theorem rowP_mem {i : Int} : ∀ {n : Nat} {s : Int} {x : Int × Int}, x ∈ rowP i s n ↔ x.1 = i ∧ s ≤ x.2 ∧ x.2 < s + n
  | 0, s, x => by simp [rowP] <;> omega
  | n + 1, s, (a, b) => by
    rw [rowP, List.mem_cons, rowP_mem, Prod.mk.injEq]
    push_cast
    constructor
    · rintro (⟨h1, h2⟩ | h)
      · exact ⟨h1, by omega, by omega⟩
      · omega
    · intro h
      omega
theorem allP_mem {m : Nat} : ∀ {n : Nat} {s : Int} {x : Int × Int}, x ∈ allP m s n ↔ (s ≤ x.1 ∧ x.1 < s + n) ∧ 1 ≤ x.2 ∧ x.2 < 1 + m
  | 0, s, x => by simp [allP]; omega
  | n + 1, s, x => by
    rw [allP, List.mem_append, rowP_mem, allP_mem]
    push_cast
    omega
def lexR (x y : Int × Int) : Prop := x.1 < y.1 ∨ (x.1 = y.1 ∧ x.2 < y.2)
theorem lexR_irr (x : Int × Int) : ¬ lexR x x := by unfold lexR; omega
theorem lexR_tr (x y z : Int × Int) : lexR x y → lexR y z → lexR x z := by unfold lexR; omega
theorem rowP_lex {i : Int} : ∀ (n : Nat) (s : Int), (rowP i s n).Pairwise lexR
  | 0, s => .nil
  | n + 1, s => by
    refine List.pairwise_cons.mpr ⟨fun x m => ?_, rowP_lex n (s + 1)⟩
    have := rowP_mem.mp m
    unfold lexR
    simp only
    omega
theorem allP_lex {m : Nat} : ∀ (n : Nat) (s : Int), (allP m s n).Pairwise lexR
  | 0, s => .nil
  | n + 1, s => by
    refine List.pairwise_append.mpr ⟨rowP_lex m 1, allP_lex n (s + 1), fun x hx y hy => ?_⟩
    have := rowP_mem.mp hx
    have := allP_mem.mp hy
    unfold lexR
    omega
theorem lt_wI {k i j b a : Int} (b1 : 1 ≤ b) (a1 : 1 ≤ a) (n : Nat) : n < (wI k i j b a).toNat ↔ i + n * b ≤ k ∧ j + n * a ≤ k := by
  have nb := Int.mul_nonneg (show 0 ≤ (n : Int) by omega) (show 0 ≤ b by omega)
  have na := Int.mul_nonneg (show 0 ≤ (n : Int) by omega) (show 0 ≤ a by omega)
  by_cases h : i ≤ k ∧ j ≤ k
  · rw [wI_near b1 a1 h.1 h.2]
    have l1 := Int.le_ediv_iff_mul_le (a := (n : Int)) (b := k - i) (c := b) (by omega)
    have l2 := Int.le_ediv_iff_mul_le (a := (n : Int)) (b := k - j) (c := a) (by omega)
    split <;> omega
  · rw [wI_far b1 a1 h]
    omega
theorem wI_nonneg (k i j b a : Int) : 0 ≤ wI k i j b a := by unfold wI; split <;> omega
/-- the pairs at one difference -/
theorem at_one {o t : Bt} {d i j : Int} {k : Nat} (f : Fam (eI o t) o.p t.p d i j (aI o t) (bI o t)) : ((allP k 1 k).filter fun x => decide (ap o t x.1 x.2 = d)).length = (wI k i j (bI o t) (aI o t)).toNat := by
  have b1 := f.b1
  have a1 := f.a1
  have e : (allP k 1 k).filter (fun x => decide (ap o t x.1 x.2 = d)) = (List.range (wI k i j (bI o t) (aI o t)).toNat).map fun (n : Nat) => (i + n * bI o t, j + n * aI o t) := by
    refine strict_ext lexR_irr lexR_tr ((allP_lex k 1).filter _) ?_ fun x => ?_
    · rw [List.pairwise_map]
      refine List.Pairwise.imp ?_ List.pairwise_lt_range
      intro x y h
      have := Int.mul_lt_mul_of_pos_right (show (x : Int) < y by omega) (show 0 < bI o t by omega)
      exact .inl (by simp only; omega)
    · rw [List.mem_filter, allP_mem, decide_eq_true_eq, List.mem_map]
      constructor
      · rintro ⟨h, eq⟩
        obtain ⟨n, n0, e1, e2⟩ := f.fst x.1 x.2 (by omega) (by omega) (by unfold ap at eq; unfold eI; omega)
        have en : ((n.toNat : Nat) : Int) = n := Int.toNat_of_nonneg n0
        refine ⟨n.toNat, List.mem_range.mpr ((lt_wI b1 a1 _).mpr ?_), ?_⟩
        · rw [en]; omega
        · rw [en, ← e1, ← e2]
      · rintro ⟨n, m, rfl⟩
        have l := (lt_wI b1 a1 n).mp (List.mem_range.mp m)
        have i1 := f.i1
        have j1 := f.j1
        have nb := Int.mul_nonneg (show 0 ≤ (n : Int) by omega) (show 0 ≤ bI o t by omega)
        have na := Int.mul_nonneg (show 0 ≤ (n : Int) by omega) (show 0 ≤ aI o t by omega)
        refine ⟨by simp only; omega, ?_⟩
        have e := f.eq
        have q := f.ab
        unfold eI at e
        show o.c + (i + n * bI o t) * o.p - t.c - (j + n * aI o t) * t.p = d
        rw [Int.add_mul, Int.add_mul, Int.mul_assoc, Int.mul_assoc, q]
        omega
  rw [e, List.length_map, List.length_range]
theorem filter_or {α : Type} (p q : α → Bool) (l : List α) (h : ∀ x, p x = true → q x = true → False) : (l.filter fun x => p x || q x).length = (l.filter p).length + (l.filter q).length := by
  induction l with
  | nil => rfl
  | cons x l ih =>
    cases hp : p x
    · cases hq : q x
      · simp [List.filter_cons, hp, hq, ih]
      · simp [List.filter_cons, hp, hq, ih]; omega
    · cases hq : q x
      · simp [List.filter_cons, hp, hq, ih]; omega
      · exact (h x hp hq).elim
theorem wS_is {o t : Bt} {FI FJ : Int → Int} {k : Nat} : ∀ ds : List Int, ds.Nodup → (∀ d ∈ ds, Fam (eI o t) o.p t.p d (FI d) (FJ d) (aI o t) (bI o t)) →
    wS FI FJ (bI o t) (aI o t) k ds = (((allP k 1 k).filter fun x => decide (ap o t x.1 x.2 ∈ ds)).length : Int)
  | [], _, _ => by
    have : (allP k 1 k).filter (fun x => decide (ap o t x.1 x.2 ∈ ([] : List Int))) = [] := List.filter_eq_nil_iff.mpr (by simp)
    rw [this]
    rfl
  | d :: ds, nd, f => by
    obtain ⟨h1, h2⟩ := List.nodup_cons.mp nd
    have ih := wS_is (k := k) ds h2 (fun x m => f x (by simp [m]))
    have e := at_one (k := k) (f d (by simp))
    have z := wI_nonneg k (FI d) (FJ d) (bI o t) (aI o t)
    have s := filter_or (fun x : Int × Int => decide (ap o t x.1 x.2 = d)) (fun x => decide (ap o t x.1 x.2 ∈ ds)) (allP k 1 k) (fun x p q => by
      rw [decide_eq_true_eq] at p q
      exact h1 (p ▸ q))
    have g : (fun x : Int × Int => decide (ap o t x.1 x.2 ∈ d :: ds)) = fun x => decide (ap o t x.1 x.2 = d) || decide (ap o t x.1 x.2 ∈ ds) := by
      funext x
      rw [← Bool.decide_or]
      congr 1
      rw [List.mem_cons]
    rw [wS, ih, g, s, e]
    omega
theorem ap_in {o t : Bt} (h : Pr o t) (i j : Int) : ap o t i j ∈ dsI o t ↔ inr o t (ap o t i j) = true := by
  unfold dsI inr
  rw [apL_mem h.g1, Bool.and_eq_true, decide_eq_true_eq, decide_eq_true_eq]
  constructor
  · rintro ⟨h1, h2, _⟩
    exact ⟨h1, h2⟩
  · rintro ⟨h1, h2⟩
    refine ⟨h1, h2, i * aI o t - j * bI o t, ?_⟩
    have p := h.gp
    have q := h.gq
    unfold ap eI
    rw [Int.mul_sub, ← Int.mul_assoc, ← Int.mul_assoc, Int.mul_comm (gI o t) i, Int.mul_comm (gI o t) j, Int.mul_assoc, Int.mul_assoc, ← p, ← q]
    omega
theorem wS_hits {o t : Bt} (h : Pr o t) {FI FJ : Int → Int} (f : FamOK o t FI FJ) (k : Nat) : wS FI FJ (bI o t) (aI o t) k (dsI o t) = hits o t (allP k 1 k) := by
  have nd : (dsI o t).Nodup := nodup_of_strict (R := (· < ·)) (fun x => Int.lt_irrefl x) (apL_strict h.g1)
  rw [wS_is _ nd f]
  unfold hits
  congr 2
  refine List.filter_congr fun x _ => ?_
  rw [Bool.eq_iff_iff, decide_eq_true_eq]
  exact ap_in h _ _
/-! the law's loops -/
abbrev trI : MS := (sSeq (sSet 6 (b2 fSub (b2 fSub (b2 fAdd (b2 fIx (gVar 0) (cK (.int 1))) (b2 fMul (gVar 4) (b2 fIx (gVar 0) (cK (.int 2))))) (b2 fIx (gVar 1) (cK (.int 1)))) (b2 fMul (gVar 5) (b2 fIx (gVar 1) (cK (.int 2))))))
 (sIf (tV (ch3 fLe fLe (vNeg (b2 fIx (gVar 0) (cK (.int 3)))) (gVar 6) (b2 fIx (gVar 1) (cK (.int 3)))))
 (sSet 3 (b2 fAdd (gVar 3) (cK (.int 1))))
 sSkip))
theorem ch3_is {a b c : Rho → M D} {ρ : Rho} {x y z : Int} (ea : a ρ = ret (.int x)) (eb : b ρ = ret (.int y)) (ec : c ρ = ret (.int z)) : ch3 fLe fLe a b c ρ = ret (.bool (decide (x ≤ y) && decide (y ≤ z))) := by
  unfold ch3
  rw [ea, eb, ec]
  simp
  by_cases h : x ≤ y <;> simp [h]
theorem tr_in {o t : Bt} (so : Sm o.p) (st : Sm t.p) {K : D} {i : Int} : ∀ (n : Nat) (s T : Int) (x5 x6 : Sl), ∃ y5 y6,
    loopL (tgN 5) trI (upTo s n) [.dat o.d, .dat t.d, .dat K, .dat (.int T), .dat (.int i), x5, x6] = okS .nx [.dat o.d, .dat t.d, .dat K, .dat (.int (T + hits o t (rowP i s n))), .dat (.int i), y5, y6]
  | 0, s, T, x5, x6 => ⟨x5, x6, by simp [upTo_zero, rowP, hits]⟩
  | n + 1, s, T, x5, x6 => by
    have hh : hits o t (rowP i s (n + 1)) = (if inr o t (ap o t i s) then 1 else 0) + hits o t (rowP i (s + 1) n) := by
      unfold hits
      rw [rowP, List.filter_cons]
      split <;> simp <;> omega
    have e6 : ∀ ρ : Rho, ρ[6]? = some (.dat (.int (ap o t i s))) → gVar 6 ρ = ret (.int (ap o t i s)) := fun ρ h => gVar_is h
    obtain ⟨y5, y6, e⟩ := tr_in so st (K := K) (i := i) n (s + 1) (T + (if inr o t (ap o t i s) then 1 else 0)) (.dat (.int s)) (.dat (.int (ap o t i s)))
    refine ⟨y5, y6, ?_⟩
    rw [upTo_succ, x_loopN, hh]
    have ea : o.c + i * o.p - t.c - s * t.p = ap o t i s := rfl
    simp [Bt.i1, Bt.i2, o_mul (Or.inr (sm64 so)), o_mul (Or.inr (sm64 st)), ea]
    rw [ch3_is (x := -o.w) (y := ap o t i s) (z := t.w) (by simp [Bt.i3]) (by simp) (by simp [Bt.i3])]
    have ei : (decide (-o.w ≤ ap o t i s) && decide (ap o t i s ≤ t.w)) = inr o t (ap o t i s) := rfl
    rw [ei]
    cases c : inr o t (ap o t i s)
    · rw [c] at e
      simp at e ⊢
      exact e
    · rw [c] at e
      simp at e ⊢
      rw [e]
      congr 3
      simp
      omega
end L2.AR.T
set_option Elab.async false
set_option linter.all false
set_option maxRecDepth 100000
set_option maxHeartbeats 4000000
namespace L2.AR.T
open PySem PySem.Spec PyProof.Rows
theorem range_k {k : Nat} (k1 : k < 1000) : rangeOf [.int 1, .int ((k : Int) + 1)] = some (upTo 1 k) := by
  rw [range_2 (by omega) (by omega) (by omega) (by omega)]
  rw [show ((k : Int) + 1 - 1).toNat = k by omega]
abbrev trO : MS := (sForR (aC (cK (.int 1)) (aC (b2 fAdd (gVar 2) (cK (.int 1))) aN)) (tgN 5) trI)
theorem tr_out {o t : Bt} (so : Sm o.p) (st : Sm t.p) {k : Int} {m : Nat} (rk : rangeOf [.int 1, .int (k + 1)] = some (upTo 1 m)) : ∀ (n : Nat) (s T : Int) (x4 x5 x6 : Sl), ∃ y4 y5 y6,
    loopL (tgN 4) trO (upTo s n) [.dat o.d, .dat t.d, .dat (.int k), .dat (.int T), x4, x5, x6] = okS .nx [.dat o.d, .dat t.d, .dat (.int k), .dat (.int (T + hits o t (allP m s n))), y4, y5, y6]
  | 0, s, T, x4, x5, x6 => ⟨x4, x5, x6, by simp [upTo_zero, allP, hits]⟩
  | n + 1, s, T, x4, x5, x6 => by
    obtain ⟨y5, y6, e1⟩ := tr_in so st (K := .int k) (i := s) m 1 T x5 x6
    obtain ⟨z4, z5, z6, e⟩ := tr_out so st rk n (s + 1) (T + hits o t (rowP s 1 m)) (.dat (.int s)) y5 y6
    refine ⟨z4, z5, z6, ?_⟩
    rw [upTo_succ, x_loopN]
    simp [rk]
    rw [e1]
    simp
    rw [allP, hits_app, Int.natCast_add, ← Int.add_assoc]
    exact e
theorem law_tried0 {o t : Bt} (so : Sm o.p) (st : Sm t.p) {k : Int} {m : Nat} (rk : rangeOf [.int 1, .int (k + 1)] = some (upTo 1 m)) : m__law_tried [o.d, t.d, .int k] = ret (.int (hits o t (allP m 1 m))) := by
  obtain ⟨y4, y5, y6, e⟩ := tr_out so st rk m 1 0 .no .no .no
  rw [is__law_tried, s__law_tried]
  simp [rk]
  rw [e]
  simp
theorem law_tried {o t : Bt} (so : Sm o.p) (st : Sm t.p) {k : Nat} (k1 : k < 1000) : m__law_tried [o.d, t.d, .int k] = ret (.int (hits o t (allP k 1 k))) := law_tried0 so st (range_k k1)
end L2.AR.T
set_option Elab.async false
set_option linter.all false
set_option maxRecDepth 100000
set_option maxHeartbeats 4000000
namespace L2.AR.T
open PySem PySem.Spec PyProof.Rows
/-! ### the law's own families -/
abbrev cmB : MS := (sSeq (sIf (tV (b2 fEq (gVar 1) (cK (.int 0))))
 sBrk
 sSkip)
 (sPar 0 1 (aC (gVar 1) (aC (b2 fMod (cA fInt (aC (gVar 0) aN)) (cA fInt (aC (gVar 1) aN))) aN))))
theorem com_loop : ∀ (n : Nat) (s a b : Int) (x : Sl), 0 ≤ a → 0 ≤ b → b < n → ∃ y z, loopL (tgN 2) cmB (upTo s n) [.dat (.int a), .dat (.int b), x] = okS .nx [.dat (.int ((Nat.gcd a.natAbs b.natAbs : Nat) : Int)), y, z]
  | 0, s, a, b, x, _, b0, b1 => by omega
  | n + 1, s, a, b, x, a0, b0, b1 => by
    rw [upTo_succ, x_loopN]
    by_cases c : b = 0
    · subst c
      refine ⟨.dat (.int 0), .dat (.int s), ?_⟩
      have : ((a.natAbs : Nat) : Int) = a := Int.natAbs_of_nonneg a0
      simp [o_eqI, this]
    · have bp : 0 < b := by omega
      have m0 := Int.emod_nonneg a c
      have m1 := Int.emod_lt_of_pos a bp
      obtain ⟨y, z, e⟩ := com_loop n (s + 1) b (a % b) (.dat (.int s)) b0 m0 (by push_cast at b1; omega)
      refine ⟨y, z, ?_⟩
      have g : Nat.gcd a.natAbs b.natAbs = Nat.gcd b.natAbs (a % b).natAbs := by
        have e1 : (a % b).natAbs = a.natAbs % b.natAbs := by
          have h1 : a = (a.natAbs : Int) := (Int.natAbs_of_nonneg a0).symm
          have h2 : b = (b.natAbs : Int) := (Int.natAbs_of_nonneg b0).symm
          generalize a.natAbs = p at *
          generalize b.natAbs = q at *
          subst h1
          subst h2
          rw [← Int.natCast_emod, Int.natAbs_natCast]
        rw [e1, Nat.gcd_comm, Nat.gcd_rec, Nat.gcd_comm]
      have c' : (b == 0) = false := by simpa using c
      rw [g]
      simp [o_eqI, c, c', o_mod bp]
      exact e
theorem law_common {o t : Bt} (po : 1 ≤ o.p) (pt : 1 ≤ t.p) (p2 : t.p < 200) : m__law_common [.int o.p, .int t.p] = ret (.int (gI o t)) := by
  obtain ⟨y, z, e⟩ := com_loop 200 0 o.p t.p .no (by omega) (by omega) (by omega)
  rw [is__law_common, s__law_common]
  have rg : rangeOf [.int 200] = some (upTo 0 200) := rfl
  simp [rg, -x_loopN]
  rw [e]
  simp
  rfl
/-- small enough to be found among 60 by 60 -/
structure Sl60 (o t : Bt) : Prop where
  pr : Pr o t
  c1 : o.c ≤ 20
  c2 : t.c ≤ 20
  p1 : o.p ≤ 12
  p2 : t.p ≤ 12
  w1 : o.w ≤ 5
  w2 : t.w ≤ 5
theorem low60 {o t : Bt} (h : Sl60 o t) {d i j : Int} (m : d ∈ dsI o t) (f : Fam (eI o t) o.p t.p d i j (aI o t) (bI o t)) : i ≤ 60 ∧ j ≤ 60 := by
  obtain ⟨hp, c1, c2, p1, p2, w1, w2⟩ := h
  have g1 := hp.g1
  have ep := hp.gp
  have eq := hp.gq
  have a1 := hp.a1
  have b1 := hp.b1
  have o1 := hp.go.p1
  have t1 := hp.gt.p1
  have z1 := hp.go.c0
  have z2 := hp.gt.c0
  have ab := f.ab
  have fe := f.eq
  have al : aI o t ≤ 12 := by
    have := Int.mul_le_mul_of_nonneg_right g1 (show 0 ≤ aI o t by omega)
    omega
  have bl : bI o t ≤ 12 := by
    have := Int.mul_le_mul_of_nonneg_right g1 (show 0 ≤ bI o t by omega)
    omega
  obtain ⟨d1, d2, _⟩ := (apL_mem g1 d).mp m
  unfold eI at fe
  have near : i ≤ bI o t ∨ j ≤ aI o t := by
    by_cases h1 : i ≤ bI o t
    · exact .inl h1
    · by_cases h2 : j ≤ aI o t
      · exact .inr h2
      · obtain ⟨n, n0, e1, e2⟩ := f.fst (i - bI o t) (j - aI o t) (by omega) (by omega) (by rw [Int.sub_mul, Int.sub_mul]; unfold eI; omega)
        have := Int.mul_nonneg n0 (show 0 ≤ bI o t by omega)
        omega
  rcases near with c | c
  · have l1 := Int.mul_le_mul_of_nonneg_right c (show 0 ≤ o.p by omega)
    have l2 : j * t.p ≤ (aI o t + 25) * t.p := by rw [Int.add_mul]; omega
    have := Int.le_of_mul_le_mul_right l2 (by omega)
    omega
  · have l1 := Int.mul_le_mul_of_nonneg_right c (show 0 ≤ t.p by omega)
    have l2 : i * o.p ≤ (bI o t + 25) * o.p := by rw [Int.add_mul]; omega
    have := Int.le_of_mul_le_mul_right l2 (by omega)
    omega
def ijD (i j : Int) : D := .tuple [.int i, .int j]
structure InvD (o t : Bt) (FI FJ : Int → Int) (es : List (Int × D)) (s r : Int) : Prop where
  nd : (es.map (·.1)).Nodup
  get : ∀ d, getE es d = if d ∈ dsI o t ∧ (FI d < s ∨ (FI d = s ∧ FJ d < r)) then some (ijD (FI d) (FJ d)) else none
  len : (es.length : Int) ≤ 60 * (s - 1) + (r - 1)
section
variable {o t : Bt} {FI FJ : Int → Int} {es : List (Int × D)} {s r : Int}
theorem InvD.put (h : Pr o t) (f : FamOK o t FI FJ) (i : InvD o t FI FJ es s r) (s1 : 1 ≤ s) (r1 : 1 ≤ r) (hi : inr o t (ap o t s r) = true) (hn : getE es (ap o t s r) = none) : InvD o t FI FJ (putE es (ap o t s r) (ijD s r)) s (r + 1) := by
  have mx := (ap_in h s r).mpr hi
  have fx := f _ mx
  have hg := i.get (ap o t s r)
  rw [hn] at hg
  have hc : ¬ (FI (ap o t s r) < s ∨ (FI (ap o t s r) = s ∧ FJ (ap o t s r) < r)) := fun c => by
    rw [if_pos ⟨mx, c⟩] at hg
    cases hg
  obtain ⟨n, n0, e1, e2⟩ := fx.fst s r s1 r1 (by unfold ap eI; omega)
  have nz : n = 0 := by
    by_cases c : n = 0
    · exact c
    · have := Int.mul_le_mul_of_nonneg_right (show 1 ≤ n by omega) (show 0 ≤ bI o t by have := fx.b1; omega)
      have := fx.b1
      omega
  subst nz
  have eI' : FI (ap o t s r) = s := by omega
  have eJ' : FJ (ap o t s r) = r := by omega
  rw [putE_new hn]
  refine ⟨?_, fun d => ?_, ?_⟩
  · rw [List.map_append, List.nodup_append]
    refine ⟨i.nd, by simp, fun a ha b hb e => ?_⟩
    subst e
    have : a = ap o t s r := by simpa using hb
    subst this
    have := getE_mem.mpr ha
    rw [hn] at this
    cases this
  · rw [getE_snoc]
    by_cases e : ap o t s r = d
    · subst e
      rw [hn]
      have q : (if ap o t s r ∈ dsI o t ∧ (FI (ap o t s r) < s ∨ FI (ap o t s r) = s ∧ FJ (ap o t s r) < r + 1) then some (ijD (FI (ap o t s r)) (FJ (ap o t s r))) else none) = some (ijD (FI (ap o t s r)) (FJ (ap o t s r))) := if_pos ⟨mx, .inr ⟨eI', by omega⟩⟩
      rw [q, eI', eJ']
      simp
    · by_cases c : d ∈ dsI o t ∧ (FI d < s ∨ (FI d = s ∧ FJ d < r))
      · rw [(i.get d).trans (if_pos c)]
        exact (if_pos ⟨c.1, by omega⟩).symm
      · rw [(i.get d).trans (if_neg c)]
        have q : ¬ (d ∈ dsI o t ∧ (FI d < s ∨ FI d = s ∧ FJ d < r + 1)) := by
          rintro ⟨m, z⟩
          refine c ⟨m, ?_⟩
          by_cases q : FI d = s ∧ FJ d = r
          · have := (f d m).eq
            rw [q.1, q.2] at this
            exact absurd (by unfold ap; unfold eI at this; omega) e
          · omega
        rw [if_neg q]
        simp [e]
  · have := i.len
    simp
    omega
theorem InvD.stay (h : Pr o t) (f : FamOK o t FI FJ) (i : InvD o t FI FJ es s r) (hi : ¬ (inr o t (ap o t s r) = true ∧ getE es (ap o t s r) = none)) : InvD o t FI FJ es s (r + 1) := by
  refine ⟨i.nd, fun d => ?_, by have := i.len; omega⟩
  rw [i.get d]
  by_cases c : d ∈ dsI o t ∧ (FI d < s ∨ (FI d = s ∧ FJ d < r))
  · rw [if_pos c, if_pos ⟨c.1, by omega⟩]
  · rw [if_neg c, if_neg]
    rintro ⟨m, z⟩
    refine c ⟨m, ?_⟩
    by_cases q : FI d = s ∧ FJ d = r
    · have e := (f d m).eq
      rw [q.1, q.2] at e
      have e' : ap o t s r = d := by unfold ap; unfold eI at e; omega
      refine absurd ⟨(ap_in h s r).mp (by rw [e']; exact m), ?_⟩ hi
      rw [e', i.get d, if_neg c]
    · omega
theorem InvD.row (h : Sl60 o t) (f : FamOK o t FI FJ) (i : InvD o t FI FJ es s 61) : InvD o t FI FJ es (s + 1) 1 := by
  refine ⟨i.nd, fun d => ?_, by have := i.len; omega⟩
  rw [i.get d]
  by_cases m : d ∈ dsI o t
  · have l := low60 h m (f d m)
    have j1 := (f d m).j1
    by_cases c : FI d < s ∨ (FI d = s ∧ FJ d < 61)
    · rw [if_pos ⟨m, c⟩, if_pos ⟨m, by omega⟩]
    · rw [if_neg (fun z => c z.2), if_neg (fun z => c (by omega))]
  · rw [if_neg (fun z => m z.1), if_neg (fun z => m z.1)]
theorem InvD.start (f : FamOK o t FI FJ) : InvD o t FI FJ [] 1 1 := by
  refine ⟨.nil, fun d => ?_, by simp⟩
  rw [getE_nil, if_neg]
  rintro ⟨m, z⟩
  have := (f d m).i1
  have := (f d m).j1
  omega
theorem InvD.keys (h : Sl60 o t) (f : FamOK o t FI FJ) (i : InvD o t FI FJ es 61 1) : sortI (es.map (·.1)) = dsI o t := by
  have nd : (sortI (es.map (·.1))).Pairwise (· ≠ ·) := (sortI_perm _).nodup_iff.mpr i.nd
  refine strict_ext (R := (· < ·)) (fun x => Int.lt_irrefl x) (fun x y z => Int.lt_trans) ?_ (apL_strict h.pr.g1) fun x => ?_
  · have := List.Pairwise.and (sortI_srt (es.map (·.1))) nd
    exact this.imp fun {a b} z => by
      have := z.1
      have := z.2
      omega
  · rw [(sortI_perm _).mem_iff, ← getE_mem, i.get x]
    constructor
    · intro z
      by_cases c : x ∈ dsI o t
      · exact c
      · rw [if_neg (fun q => c q.1)] at z
        cases z
    · intro m
      have l := low60 h m (f x m)
      rw [if_pos ⟨m, by omega⟩]
      rfl
end
end L2.AR.T
set_option Elab.async false
set_option linter.all false
set_option maxRecDepth 100000
set_option maxHeartbeats 4000000
namespace L2.AR.T
open PySem PySem.Spec PyProof.Rows
/-! ### the law's families, its loops -/
abbrev lfI : MS := (sSeq (sSet 6 (b2 fSub (b2 fSub (b2 fAdd (b2 fIx (gVar 0) (cK (.int 1))) (b2 fMul (gVar 4) (b2 fIx (gVar 0) (cK (.int 2))))) (b2 fIx (gVar 1) (cK (.int 1)))) (b2 fMul (gVar 7) (b2 fIx (gVar 1) (cK (.int 2))))))
 (sIf (tAn (tV (ch3 fLe fLe (vNeg (b2 fIx (gVar 0) (cK (.int 3)))) (gVar 6) (b2 fIx (gVar 1) (cK (.int 3))))) (tV (gInD true 3 (gVar 6))))
 (sPutD 3 (gVar 6) (cA mkTup (aC (gVar 4) (aC (gVar 7) aN))))
 sSkip))
theorem lf_in {o t : Bt} (h : Sl60 o t) {FI FJ : Int → Int} (f : FamOK o t FI FJ) {C N : Sl} {i : Int} (i1 : 1 ≤ i) (i60 : i ≤ 60) : ∀ (n : Nat) (s : Int) (es : List (Int × D)) (x6 x7 : Sl), 1 ≤ s → s + n = 61 → InvD o t FI FJ es i s → ∃ es' y6 y7,
    loopL (tgN 7) lfI (upTo s n) [.dat o.d, .dat t.d, C, .owd es, .dat (.int i), N, x6, x7] = okS .nx [.dat o.d, .dat t.d, C, .owd es', .dat (.int i), N, y6, y7] ∧ InvD o t FI FJ es' i 61
  | 0, s, es, x6, x7, s1, se, iv => ⟨es, x6, x7, by simp [upTo_zero], by rw [show (61 : Int) = s by omega]; exact iv⟩
  | n + 1, s, es, x6, x7, s1, se, iv => by
    have so := sm64 h.pr.go.sp
    have st := sm64 h.pr.gt.sp
    have ea : o.c + i * o.p - t.c - s * t.p = ap o t i s := rfl
    have ei : (decide (-o.w ≤ ap o t i s) && decide (ap o t i s ≤ t.w)) = inr o t (ap o t i s) := rfl
    rw [upTo_succ, x_loopN]
    by_cases c1 : inr o t (ap o t i s) = true
    · by_cases c2 : getE es (ap o t i s) = none
      · obtain ⟨es', y6, y7, e, iv'⟩ := lf_in h f (C := C) (N := N) i1 i60 n (s + 1) (putE es (ap o t i s) (ijD i s)) (.dat (.int (ap o t i s))) (.dat (.int s)) (by omega) (by push_cast at se; omega) (iv.put h.pr f i1 s1 c1 c2)
        refine ⟨es', y6, y7, ?_, iv'⟩
        simp [Bt.i1, Bt.i2, o_mul (Or.inr so), o_mul (Or.inr st), ea]
        rw [ch3_is (x := -o.w) (y := ap o t i s) (z := t.w) (by simp [Bt.i3]) (by simp) (by simp [Bt.i3]), ei]
        rw [x_inD (es := es) (n := ap o t i s) rfl (by simp)]
        simp [c1, c2]
        rw [x_putD (es := es) (n := ap o t i s) (d := ijD i s) rfl (by simp [mkT, ijD]) (by simp) rfl (by have := iv.len; omega)]
        simp
        exact e
      · obtain ⟨es', y6, y7, e, iv'⟩ := lf_in h f (C := C) (N := N) i1 i60 n (s + 1) es (.dat (.int (ap o t i s))) (.dat (.int s)) (by omega) (by push_cast at se; omega) (iv.stay h.pr f (fun z => c2 z.2))
        refine ⟨es', y6, y7, ?_, iv'⟩
        have c3 : (getE es (ap o t i s)).isSome = true := by
          cases q : getE es (ap o t i s) with
          | none => exact absurd q c2
          | some _ => rfl
        simp [Bt.i1, Bt.i2, o_mul (Or.inr so), o_mul (Or.inr st), ea]
        rw [ch3_is (x := -o.w) (y := ap o t i s) (z := t.w) (by simp [Bt.i3]) (by simp) (by simp [Bt.i3]), ei]
        rw [x_inD (es := es) (n := ap o t i s) rfl (by simp)]
        simp [c1, c3]
        exact e
    · obtain ⟨es', y6, y7, e, iv'⟩ := lf_in h f (C := C) (N := N) i1 i60 n (s + 1) es (.dat (.int (ap o t i s))) (.dat (.int s)) (by omega) (by push_cast at se; omega) (iv.stay h.pr f (fun z => c1 z.1))
      refine ⟨es', y6, y7, ?_, iv'⟩
      simp [Bt.i1, Bt.i2, o_mul (Or.inr so), o_mul (Or.inr st), ea]
      rw [ch3_is (x := -o.w) (y := ap o t i s) (z := t.w) (by simp [Bt.i3]) (by simp) (by simp [Bt.i3]), ei]
      simp [c1]
      exact e
abbrev lfO : MS := (sForR (aC (cK (.int 1)) (aC (cK (.int 61)) aN)) (tgN 7) lfI)
theorem rg61 : rangeOf [.int 1, .int 61] = some (upTo 1 60) := rfl
theorem lf_out {o t : Bt} (h : Sl60 o t) {FI FJ : Int → Int} (f : FamOK o t FI FJ) {C N : Sl} : ∀ (n : Nat) (s : Int) (es : List (Int × D)) (x4 x6 x7 : Sl), 1 ≤ s → s + n = 61 → InvD o t FI FJ es s 1 → ∃ es' y4 y6 y7,
    loopL (tgN 4) lfO (upTo s n) [.dat o.d, .dat t.d, C, .owd es, x4, N, x6, x7] = okS .nx [.dat o.d, .dat t.d, C, .owd es', y4, N, y6, y7] ∧ InvD o t FI FJ es' 61 1
  | 0, s, es, x4, x6, x7, s1, se, iv => ⟨es, x4, x6, x7, by simp [upTo_zero], by rw [show (61 : Int) = s by omega]; exact iv⟩
  | n + 1, s, es, x4, x6, x7, s1, se, iv => by
    obtain ⟨es1, y6, y7, e1, iv1⟩ := lf_in h f (C := C) (N := N) (i := s) s1 (by push_cast at se; omega) 60 1 es x6 x7 (by omega) (by omega) iv
    obtain ⟨es', y4, z6, z7, e, iv'⟩ := lf_out h f (C := C) (N := N) n (s + 1) es1 (.dat (.int s)) y6 y7 (by omega) (by push_cast at se; omega) (iv1.row h f)
    refine ⟨es', y4, z6, z7, ?_, iv'⟩
    rw [upTo_succ, x_loopN]
    simp [rg61, -x_loopN]
    rw [e1]
    simp
    exact e
abbrev lfT : MS := (sApp 5 (b2 fAdd (b2 fAdd (cA mkTup (aC (gVar 6) aN)) (gGetD 3 (gVar 6))) (cA mkTup (aC (b2 fDiv (b2 fIx (gVar 1) (cK (.int 2))) (gVar 2)) (aC (b2 fDiv (b2 fIx (gVar 0) (cK (.int 2))) (gVar 2)) aN)))))
theorem lf_told {o t : Bt} (h : Sl60 o t) {FI FJ : Int → Int} {X4 : Sl} {es : List (Int × D)} : ∀ (ds : List Int) (l : List D) (x6 x7 : Sl), (∀ d ∈ ds, getE es d = some (ijD (FI d) (FJ d))) → l.length + ds.length < 1000 → ∃ y6,
    loopL (tgN 6) lfT (ds.map .int) [.dat o.d, .dat t.d, .dat (.int (gI o t)), .owd es, X4, .own l, x6, x7] = okS .nx [.dat o.d, .dat t.d, .dat (.int (gI o t)), .owd es, X4, .own (l ++ ds.map fun d => f5 d (FI d) (FJ d) (bI o t) (aI o t)), y6, x7]
  | [], l, x6, x7, _, _ => ⟨x6, by simp⟩
  | d :: ds, l, x6, x7, hg, hl => by
    obtain ⟨y6, e⟩ := lf_told h (FI := FI) (FJ := FJ) (X4 := X4) (es := es) ds (l ++ [f5 d (FI d) (FJ d) (bI o t) (aI o t)]) (.dat (.int d)) x7 (fun x m => hg x (by simp [m])) (by simp at hl ⊢; omega)
    refine ⟨y6, ?_⟩
    have g1 := h.pr.g1
    have gs : Sm (gI o t) := by
      have : gI o t ≤ o.p := Int.le_of_dvd (by have := h.pr.go.p1; omega) ⟨_, h.pr.gp⟩
      have := h.p1
      unfold Sm
      omega
    have dg : ∀ x, op2 fDiv (.int x) (.int (gI o t)) = ret (.int (x / gI o t)) := fun x => o_div (by omega) (log_sm gs (by omega))
    rw [List.map_cons, x_loopN]
    simp at hl ⊢
    unfold lfT at e ⊢
    rw [x_app (ds := l) (d := f5 d (FI d) (FJ d) (bI o t) (aI o t)) rfl (by
      simp only [x_b2, x_cA, x_aC, x_aN, bnd_ret]
      rw [x_getD (es := es) (n := d) (d := ijD (FI d) (FJ d)) rfl (by simp) (hg d (by simp))]
      simp [mkT, ijD, Bt.i2, dg, f5, aI, bI]) rfl (by omega)]
    simp
    rw [e]
    simp
theorem law_families {o t : Bt} (h : Sl60 o t) {FI FJ : Int → Int} (f : FamOK o t FI FJ) : m__law_families [o.d, t.d] = ret (.tuple (famL o t FI FJ)) := by
  obtain ⟨es, y4, y6, y7, e1, iv⟩ := lf_out h f (C := .dat (.int (gI o t))) (N := .no) 60 1 [] .no .no .no (by omega) (by omega) (InvD.start f)
  have ks := iv.keys h f
  have dl := apL_len (e := eI o t) h.pr.g1 h.pr.go.w0 h.pr.gt.w0
  have w1 := h.w1
  have w2 := h.w2
  have dl' : (dsI o t).length ≤ 11 := by unfold dsI; omega
  have el : es.length < 64 := by
    have : (sortI (es.map (·.1))).length = (dsI o t).length := by rw [ks]
    rw [(sortI_perm _).length_eq, List.length_map] at this
    omega
  obtain ⟨z6, e2⟩ := lf_told h (FI := FI) (FJ := FJ) (X4 := y4) (es := es) (dsI o t) [] y6 y7 (fun d m => by
    rw [iv.get d, if_pos]
    have := low60 h m (f d m)
    exact ⟨m, by omega⟩) (by simp; omega)
  have cm := law_common h.pr.go.p1 h.pr.gt.p1 (show t.p < 200 by have := h.p2; omega)
  rw [is__law_families, s__law_families]
  simp [Bt.i2, cm, rg61, -x_loopN]
  rw [e1]
  simp
  rw [x_sortD (es := es) rfl el, ks]
  simp
  rw [e2]
  simp
  rw [x_frz_own rfl]
  simp
  rfl
/-! ### what is heard -/
def kd : Nat → Str
  | 0 => "number"
  | 1 => "bounds"
  | _ => "case"
def hd (c : Nat) (d : D) : D := .tuple [.str (kd c), d, .bool true, .bool false]
section
variable {a b k d : D} {c : Nat}
theorem heard0 (hc : c < 3) (t : isTok d = false) (e : m_met_families [a, b] = fail c d) : m__law_heard_beats [.int 0, a, b, k] = ret (hd c d) := by
  rw [is__law_heard_beats, s__law_heard_beats]
  match c, hc with
  | 0, _ => simp [mkT, o_eqI, e, t, isX, hd, kd]
  | 1, _ => simp [mkT, o_eqI, e, t, isX, hd, kd]
  | 2, _ => simp [mkT, o_eqI, e, t, isX, hd, kd]
theorem heard1 (hc : c < 3) (t : isTok d = false) (e : m_first_met [a, b] = fail c d) : m__law_heard_beats [.int 1, a, b, k] = ret (hd c d) := by
  rw [is__law_heard_beats, s__law_heard_beats]
  match c, hc with
  | 0, _ => simp [mkT, o_eqI, e, t, isX, hd, kd]
  | 1, _ => simp [mkT, o_eqI, e, t, isX, hd, kd]
  | 2, _ => simp [mkT, o_eqI, e, t, isX, hd, kd]
theorem heard2 (hc : c < 3) (t : isTok d = false) (e : m_ever_meet [a, b] = fail c d) : m__law_heard_beats [.int 2, a, b, k] = ret (hd c d) := by
  rw [is__law_heard_beats, s__law_heard_beats]
  match c, hc with
  | 0, _ => simp [mkT, o_eqI, e, t, isX, hd, kd]
  | 1, _ => simp [mkT, o_eqI, e, t, isX, hd, kd]
  | 2, _ => simp [mkT, o_eqI, e, t, isX, hd, kd]
theorem heard3 (hc : c < 3) (t : isTok d = false) (e : m_met_number [a, b, k] = fail c d) : m__law_heard_beats [.int 3, a, b, k] = ret (hd c d) := by
  rw [is__law_heard_beats, s__law_heard_beats]
  match c, hc with
  | 0, _ => simp [mkT, o_eqI, e, t, isX, hd, kd]
  | 1, _ => simp [mkT, o_eqI, e, t, isX, hd, kd]
  | 2, _ => simp [mkT, o_eqI, e, t, isX, hd, kd]
def td (d : D) : D := .tuple [.str "told", d]
theorem told0 (t : isTok d = false) (e : m_met_families [a, b] = ret d) : m__law_heard_beats [.int 0, a, b, k] = ret (td d) := by
  rw [is__law_heard_beats, s__law_heard_beats]
  simp [mkT, o_eqI, e, t, td]
theorem told1 (t : isTok d = false) (e : m_first_met [a, b] = ret d) : m__law_heard_beats [.int 1, a, b, k] = ret (td d) := by
  rw [is__law_heard_beats, s__law_heard_beats]
  simp [mkT, o_eqI, e, t, td]
theorem told2 (t : isTok d = false) (e : m_ever_meet [a, b] = ret d) : m__law_heard_beats [.int 2, a, b, k] = ret (td d) := by
  rw [is__law_heard_beats, s__law_heard_beats]
  simp [mkT, o_eqI, e, t, td]
theorem told3 (t : isTok d = false) (e : m_met_number [a, b, k] = ret d) : m__law_heard_beats [.int 3, a, b, k] = ret (td d) := by
  rw [is__law_heard_beats, s__law_heard_beats]
  simp [mkT, o_eqI, e, t, td]
end
/-! ### just -/
theorem just_self {n : Nat} {d : D} (h : J n d = true) (hn : n ≤ 40) (hz : sz d ≤ 16777216) : m__law_just [d, d] = ret (.bool true) := by
  rw [is__law_just, s__law_just]
  simp [j_eq h h hn, j_self h, j_repr h hn hz]
theorem jI_of {a : Int} (s : a.natAbs < 2 ^ 200) : jI a = true := decide_eq_true s
theorem jS_told : jS "told" = true := by decide +kernel
theorem just_told {n : Nat} {d : D} (h : J n d = true) (hn : n ≤ 39) (hz : sz d ≤ 16770000) : m__law_just [td d, td d] = ret (.bool true) := by
  refine just_self (n := n + 1) ?_ (by omega) ?_
  · have : J n (.str "told") = true := by cases n <;> simp [J, jS_told]
    simp [td, J, this, h]
  · simp only [td, sz, szA]
    omega
theorem just_int {a : Int} (s : a.natAbs < 2 ^ 200) : m__law_just [td (.int a), td (.int a)] = ret (.bool true) := just_told (n := 0) (by simp [J, jI_of s]) (by decide) (by simp [sz])
theorem just_bool {a : Bool} : m__law_just [td (.bool a), td (.bool a)] = ret (.bool true) := just_told (n := 0) (by simp [J]) (by decide) (by simp [sz])
end L2.AR.T
set_option Elab.async false
set_option linter.all false
set_option maxRecDepth 100000
set_option maxHeartbeats 4000000
namespace L2.AR.T
open PySem PySem.Spec PyProof.Rows
/-! ### sizes -/
theorem Fam.near {e p q d i j a b : Int} (f : Fam e p q d i j a b) : i ≤ b ∨ j ≤ a := by
  by_cases h1 : i ≤ b
  · exact .inl h1
  · by_cases h2 : j ≤ a
    · exact .inr h2
    · have ab := f.ab
      obtain ⟨n, n0, e1, e2⟩ := f.fst (i - b) (j - a) (by omega) (by omega) (by rw [Int.sub_mul, Int.sub_mul]; have := f.eq; omega)
      have := Int.mul_nonneg n0 (show 0 ≤ b by have := f.b1; omega)
      have := f.b1
      omega
theorem fam_small {o t : Bt} (h : Pr o t) {d i j : Int} (m : d ∈ dsI o t) (f : Fam (eI o t) o.p t.p d i j (aI o t) (bI o t)) : d.natAbs < 2 ^ 70 ∧ i.natAbs < 2 ^ 70 ∧ j.natAbs < 2 ^ 70 ∧ 1 ≤ i ∧ 1 ≤ j := by
  obtain ⟨d1, d2, _⟩ := (apL_mem h.g1 d).mp m
  have nar := h.nar
  have w1 := h.go.w0
  have w2 := h.gt.w0
  have s1 := h.go.sc
  have s2 := h.gt.sc
  have a1 := h.a1
  have b1 := h.b1
  have a5 := h.a5
  have b5 := h.b5
  have p1 := h.go.p1
  have q1 := h.gt.p1
  have po := h.po
  have pt := h.pt
  have i1 := f.i1
  have j1 := f.j1
  have e := f.eq
  unfold eI at e
  unfold Sm at s1 s2
  refine ⟨by omega, ?_, ?_, i1, j1⟩
  all_goals
    rcases f.near with c | c
    · have l1 : i * o.p ≤ 1000 * 1000000 := Int.mul_le_mul (by omega) (by omega) (by omega) (by omega)
      have l2 : j * 1 ≤ j * t.p := Int.mul_le_mul_of_nonneg_left q1 (by omega)
      omega
    · have l1 : j * t.p ≤ 1000 * 1000000 := Int.mul_le_mul (by omega) (by omega) (by omega) (by omega)
      have l2 : i * 1 ≤ i * o.p := Int.mul_le_mul_of_nonneg_left p1 (by omega)
      omega
theorem jI70 {a : Int} (s : a.natAbs < 2 ^ 70) : jI a = true := jI_of (Nat.lt_trans s (by decide))
theorem f5_j {d i j b a : Int} (hd : d.natAbs < 2 ^ 70) (hi : i.natAbs < 2 ^ 70) (hj : j.natAbs < 2 ^ 70) (hb : b.natAbs < 2 ^ 70) (ha : a.natAbs < 2 ^ 70) : J 1 (f5 d i j b a) = true := by
  simp [f5, J, jI70 hd, jI70 hi, jI70 hj, jI70 hb, jI70 ha]
theorem szA_le {ds : List D} {c : Nat} (h : ∀ d ∈ ds, sz d ≤ c) : szA ds ≤ ds.length * (c + 2) := by
  induction ds with
  | nil => simp [szA]
  | cons d ds ih =>
    have := ih (fun x m => h x (by simp [m]))
    have := h d (by simp)
    simp only [szA, List.length_cons, Nat.succ_mul]
    omega
theorem famL_j {o t : Bt} (h : Pr o t) {FI FJ : Int → Int} (f : FamOK o t FI FJ) : J 2 (.tuple (famL o t FI FJ)) = true ∧ sz (.tuple (famL o t FI FJ)) ≤ 3000000 := by
  have a1 := h.a1
  have b1 := h.b1
  have a5 := h.a5
  have b5 := h.b5
  have dl := h.dl
  constructor
  · simp only [J]
    rw [List.all_eq_true]
    intro x m
    obtain ⟨d, md, rfl⟩ := List.mem_map.mp m
    obtain ⟨h1, h2, h3, _⟩ := fam_small h md (f d md)
    exact f5_j h1 h2 h3 (by omega) (by omega)
  · have := szA_le (ds := famL o t FI FJ) (c := 1200) (fun x m => by
      obtain ⟨d, md, rfl⟩ := List.mem_map.mp m
      simp [f5, sz, szA])
    have l : (famL o t FI FJ).length ≤ 2001 := by unfold famL; rw [List.length_map]; exact dl
    have := Nat.mul_le_mul_right 1202 l
    simp only [sz]
    omega
theorem just_fams {o t : Bt} (h : Pr o t) {FI FJ : Int → Int} (f : FamOK o t FI FJ) : m__law_just [td (.tuple (famL o t FI FJ)), td (.tuple (famL o t FI FJ))] = ret (.bool true) := just_told (famL_j h f).1 (by decide) (by have := (famL_j h f).2; omega)
theorem just_fst {o t : Bt} (h : Pr o t) {FI FJ : Int → Int} (f : FamOK o t FI FJ) : m__law_just [td (fst1 o t FI FJ), td (fst1 o t FI FJ)] = ret (.bool true) := by
  unfold fst1
  split
  · exact just_told (n := 0) (by simp [J]) (by decide) (by simp [sz])
  · rename_i c
    refine just_int ?_
    have := (minI_mem (l := (dsI o t).map fun d => if FJ d > FI d then FJ d else FI d) (by simpa using c)).1
    obtain ⟨d, md, e⟩ := List.mem_map.mp this
    rw [← e]
    obtain ⟨h1, h2, h3, _⟩ := fam_small h md (f d md)
    split <;> omega
theorem wS_le {o t : Bt} (h : Pr o t) {FI FJ : Int → Int} {k : Int} (k0 : 0 ≤ k) : ∀ ds : List Int, (∀ d ∈ ds, Fam (eI o t) o.p t.p d (FI d) (FJ d) (aI o t) (bI o t)) → 0 ≤ wS FI FJ (bI o t) (aI o t) k ds ∧ wS FI FJ (bI o t) (aI o t) k ds ≤ ds.length * (k + 1)
  | [], _ => by simp [wS]
  | d :: ds, f => by
    have ih := wS_le h k0 ds (fun x m => f x (by simp [m]))
    have fd := f d (by simp)
    have z := wI_nonneg k (FI d) (FJ d) (bI o t) (aI o t)
    have l : wI k (FI d) (FJ d) (bI o t) (aI o t) ≤ k + 1 := by
      by_cases c : FI d ≤ k ∧ FJ d ≤ k
      · rw [wI_near fd.b1 fd.a1 c.1 c.2]
        have e1 : (k - FI d) / bI o t ≤ k - FI d := Int.ediv_le_self _ (by omega)
        have e2 : (k - FJ d) / aI o t ≤ k - FJ d := Int.ediv_le_self _ (by omega)
        have := fd.i1
        have := fd.j1
        split <;> omega
      · rw [wI_far fd.b1 fd.a1 c]
        omega
    rw [wS, List.length_cons]
    push_cast
    rw [Int.add_mul]
    omega
theorem just_num {o t : Bt} (h : Pr o t) {FI FJ : Int → Int} (f : FamOK o t FI FJ) {k : Int} (k0 : 0 ≤ k) (k1 : k ≤ 2000000000) : m__law_just [td (.int (wS FI FJ (bI o t) (aI o t) k (dsI o t))), td (.int (wS FI FJ (bI o t) (aI o t) k (dsI o t)))] = ret (.bool true) := by
  refine just_int ?_
  have := wS_le h k0 (dsI o t) f
  have dl := h.dl
  have : ((dsI o t).length : Int) * (k + 1) ≤ 2001 * 3000000000 := Int.mul_le_mul (by omega) (by omega) (by omega) (by omega)
  omega
/-! ### the turned families, sorted -/
theorem lexLt_tr' {x y z : List Int} (h1 : HT.lexLt x y = true) (h2 : HT.lexLt y z = true) : HT.lexLt x z = true := by
  have a := SrtO.lexLt_asym h1
  have b := SrtO.lexLt_asym h2
  have c := SrtO.lexLt_tr a b
  cases q : HT.lexLt x z with
  | true => rfl
  | false =>
    have := SrtO.lexLt_total q c
    subst this
    rw [b] at h1
    cases h1
theorem lexLt_head {x y : Int} (h : x < y) (r s : List Int) : HT.lexLt (x :: r) (y :: s) = true := by
  rw [HT.lexLt_cons, if_neg (by omega)]
  exact decide_eq_true h
def l5 (d i j b a : Int) : List Int := [d, i, j, b, a]
theorem sort_turned {o t : Bt} (h : Pr o t) {FI FJ FI' FJ' : Int → Int} (f : FamOK o t FI FJ) (f' : FamOK t o FI' FJ') :
    sortT ((dsI o t).map fun d => l5 (-d) (FJ d) (FI d) (aI o t) (bI o t)) = (dsI t o).map fun d => l5 d (FI' d) (FJ' d) (bI t o) (aI t o) := by
  have ea : bI t o = aI o t := by unfold aI bI; rw [gI_symm]
  have eb : aI t o = bI o t := by unfold aI bI; rw [gI_symm]
  have g1 := h.g1
  have mem : ∀ d, d ∈ dsI o t ↔ -d ∈ dsI t o := fun d => by
    unfold dsI
    rw [apL_mem g1, apL_mem (by rw [gI_symm]; exact g1), gI_symm t o]
    unfold eI
    constructor
    · rintro ⟨h1, h2, m, e⟩
      exact ⟨by omega, by omega, -m, by rw [Int.mul_neg]; omega⟩
    · rintro ⟨h1, h2, m, e⟩
      exact ⟨by omega, by omega, -m, by rw [Int.mul_neg]; omega⟩
  have fl : ∀ d ∈ dsI o t, FI' (-d) = FJ d ∧ FJ' (-d) = FI d := fun d m => by
    have x := f' (-d) ((mem d).mp m)
    have y := (f d m).flip
    rw [ea, eb] at x
    have : -eI o t = eI t o := by unfold eI; omega
    rw [this] at y
    exact x.uniq y
  refine strict_ext (R := fun x y => HT.lexLt x y = true) (fun x z => by rw [lex_refl] at z; cases z) (fun x y z => lexLt_tr') ?_ ?_ fun x => ?_
  · have nd : ((dsI o t).map fun d => l5 (-d) (FJ d) (FI d) (aI o t) (bI o t)).Pairwise (· ≠ ·) := by
      rw [List.pairwise_map]
      refine (apL_strict g1).imp fun {x y} l e => ?_
      have := (List.cons.inj e).1
      omega
    have nd2 := (sortT_perm _).nodup_iff.mpr nd
    refine (List.Pairwise.and (sortT_srt _) nd2).imp fun {x y} z => ?_
    cases q : HT.lexLt x y with
    | true => rfl
    | false => exact absurd (SrtO.lexLt_total q z.1) z.2
  · rw [List.pairwise_map]
    exact (apL_strict (by rw [gI_symm]; exact g1)).imp fun {x y} l => lexLt_head l _ _
  · rw [(sortT_perm _).mem_iff, List.mem_map, List.mem_map]
    constructor
    · rintro ⟨d, m, rfl⟩
      refine ⟨-d, (mem d).mp m, ?_⟩
      rw [(fl d m).1, (fl d m).2, ea, eb]
    · rintro ⟨d, m, rfl⟩
      have m' : -d ∈ dsI o t := (mem _).mpr (by rw [Int.neg_neg]; exact m)
      refine ⟨-d, m', ?_⟩
      have := fl _ m'
      rw [Int.neg_neg] at this
      rw [← this.1, ← this.2, ea, eb, Int.neg_neg]
theorem tups_l5 (g : Int → List Int) (ds : List Int) : tupsI ((ds.map g).map tupD) = some (ds.map g) := by
  induction ds with
  | nil => rfl
  | cons d ds ih =>
    rw [List.map_cons, List.map_cons, tupsI, ih]
    have : tupI (tupD (g d)) = some (g d) := intsOf_map _
    rw [this]
theorem sorted_is {o t : Bt} (h : Pr o t) {FI FJ FI' FJ' : Int → Int} (f : FamOK o t FI FJ) (f' : FamOK t o FI' FJ') :
    opA fSortT [.list ((dsI o t).map fun d => f5 (-d) (FJ d) (FI d) (aI o t) (bI o t))] = ret (.list (famL t o FI' FJ')) := by
  have e1 : ((dsI o t).map fun d => f5 (-d) (FJ d) (FI d) (aI o t) (bI o t)) = ((dsI o t).map fun d => l5 (-d) (FJ d) (FI d) (aI o t) (bI o t)).map tupD := by
    rw [List.map_map]
    rfl
  have e2 := tups_l5 (fun d => l5 (-d) (FJ d) (FI d) (aI o t) (bI o t)) (dsI o t)
  have e3 := sort_turned h f f'
  have key : fSortT [.list ((dsI o t).map fun d => f5 (-d) (FJ d) (FI d) (aI o t) (bI o t))] = some (.list (famL t o FI' FJ')) := by
    rw [e1]
    unfold fSortT
    simp only
    rw [e2]
    simp only
    rw [if_pos, e3, List.map_map]
    · rfl
    · rw [List.all_eq_true]
      intro l m
      obtain ⟨d, md, rfl⟩ := List.mem_map.mp m
      have : (((dsI o t).map fun d => l5 (-d) (FJ d) (FI d) (aI o t) (bI o t)).headD [0]).length = 5 := by
        cases q : dsI o t with
        | nil => rw [q] at md; cases md
        | cons x r => rfl
      rw [this]
      rfl
  unfold opA
  rw [key]
  rfl
end L2.AR.T
set_option Elab.async false
set_option linter.all false
set_option maxRecDepth 100000
set_option maxHeartbeats 4000000
namespace L2.AR.T
open PySem PySem.Spec PyProof.Rows
theorem seq_to {s t : MS} {ρ ρ' : Rho} (e : s ρ = okS .nx ρ') : sSeq s t ρ = t ρ' := by rw [x_seq, e]; rfl
theorem seq_ends {s t : MS} {ρ : Rho} {Q : Rho → Prop} {P : Fl → Rho → Prop} (e : EndsS (s ρ) fun f r => f = .nx ∧ Q r) (k : ∀ r, Q r → EndsS (t r) P) : EndsS (sSeq s t ρ) P := EndsS.seq e k
theorem draw (n : Int) (h0 : 0 < n) : Ends (m__law_draw [tok, .int n]) fun d => ∃ r, d = .int r ∧ 0 ≤ r ∧ r < n := draw_ends n h0
theorem lst_bt (b : Bt) : opA fList [b.d] = ret b.l := rfl
theorem tok_d (b : Bt) : isTok b.d = false := rfl
theorem tok_l (b : Bt) : isTok b.l = false := rfl
theorem ix2_0 (a b : D) : op2 fIx (.tuple [a, b]) (.int 0) = ret a := rfl
theorem ix2_1 (a b : D) : op2 fIx (.tuple [a, b]) (.int 1) = ret b := rfl
theorem pick2 {a b : D} {r : Int} (h0 : 0 ≤ r) (h1 : r < 2) : op2 fIx (.tuple [a, b]) (.int r) = ret a ∨ op2 fIx (.tuple [a, b]) (.int r) = ret b := by
  have : r = 0 ∨ r = 1 := by omega
  rcases this with rfl | rfl
  · exact .inl rfl
  · exact .inr rfl
abbrev tuB : MS := (sApp 7 (cA mkTup (aC (vNeg (gVar 9)) (aC (gVar 11) (aC (gVar 10) (aC (gVar 13) (aC (gVar 12) aN)))))))
theorem lp5' (b : MS) (x1 x2 x3 x4 x5 : D) (ds : List D) (ρ : Rho) : loopL (tgT [tgN 9, tgN 10, tgN 11, tgN 12, tgN 13]) b (.tuple [x1, x2, x3, x4, x5] :: ds) ρ = turnS (b (((((ρ.set 9 (.dat x1)).set 10 (.dat x2)).set 11 (.dat x3)).set 12 (.dat x4)).set 13 (.dat x5))) (loopL (tgT [tgN 9, tgN 10, tgN 11, tgN 12, tgN 13]) b ds) := x_loop1 rfl
theorem tu_loop {FI FJ : Int → Int} {b a : Int} {x0 x1 x2 x3 x4 x5 x6 x8 x14 : Sl} : ∀ (ds : List Int) (l : List D) (x9 x10 x11 x12 x13 : Sl), l.length + ds.length < 1000000 → ∃ y9 y10 y11 y12 y13,
    loopL (tgT [tgN 9, tgN 10, tgN 11, tgN 12, tgN 13]) tuB (ds.map fun d => f5 d (FI d) (FJ d) b a) [x0, x1, x2, x3, x4, x5, x6, .own l, x8, x9, x10, x11, x12, x13, x14]
      = okS .nx [x0, x1, x2, x3, x4, x5, x6, .own (l ++ ds.map fun d => f5 (-d) (FJ d) (FI d) a b), x8, y9, y10, y11, y12, y13, x14]
  | [], l, x9, x10, x11, x12, x13, _ => ⟨x9, x10, x11, x12, x13, by simp⟩
  | d :: ds, l, x9, x10, x11, x12, x13, hl => by
    obtain ⟨y9, y10, y11, y12, y13, e⟩ := tu_loop (FI := FI) (FJ := FJ) (b := b) (a := a) (x0 := x0) (x1 := x1) (x2 := x2) (x3 := x3) (x4 := x4) (x5 := x5) (x6 := x6) (x8 := x8) (x14 := x14) ds (l ++ [f5 (-d) (FJ d) (FI d) a b]) (.dat (.int d)) (.dat (.int (FI d))) (.dat (.int (FJ d))) (.dat (.int b)) (.dat (.int a)) (by simp at hl ⊢; omega)
    refine ⟨y9, y10, y11, y12, y13, ?_⟩
    rw [List.map_cons]
    unfold tuB at e ⊢
    have e0 : f5 d (FI d) (FJ d) b a = .tuple [.int d, .int (FI d), .int (FJ d), .int b, .int a] := rfl
    rw [e0, lp5']
    simp at hl
    rw [x_app (ds := l) (d := f5 (-d) (FJ d) (FI d) a b) rfl (by simp [mkT, f5]) rfl (by omega)]
    simp
    rw [e]
    simp
theorem just_bt {b : Bt} (g : b.G) : m__law_just [b.d, b.d] = ret (.bool true) := by
  have jw : jS (wd b.dr) = true := by cases b.dr <;> decide +kernel
  have js : ∀ {i : Int}, Sm i → jI i = true := fun h => jI_of (Nat.lt_trans h (by decide))
  exact just_self (n := 1) (by simp [Bt.d, bt, J, jw, js g.sc, js g.sp, js g.sw]) (by decide) (by simp [Bt.d, bt, sz, szA])
theorem j_bt {b : Bt} (g : b.G) : J 1 b.d = true ∧ J 1 b.l = true := by
  have jw : jS (wd b.dr) = true := by cases b.dr <;> decide +kernel
  have js : ∀ {i : Int}, Sm i → jI i = true := fun h => jI_of (Nat.lt_trans h (by decide))
  exact ⟨by simp [Bt.d, bt, J, jw, js g.sc, js g.sp, js g.sw], by simp [Bt.l, btL, J, jw, js g.sc, js g.sp, js g.sw]⟩
theorem just_btl {b : Bt} (g : b.G) : m__law_just [b.l, b.l] = ret (.bool true) := just_self (j_bt g).2 (by decide) (by simp [Bt.l, btL, sz, szA])
abbrev kB : MS := (sIf (tNo (tV (cM m__law_just (aC (cM m__law_heard_beats (aC (cK (.int 3)) (aC (gVar 5) (aC (gVar 6) (aC (gVar 8) aN))))) (aC (cA mkTup (aC (cK (.str "told")) (aC (cM m__law_many (aC (gVar 3) (aC (gVar 8) aN))) aN))) aN)))))
 (sRet (cK (.bool false)))
 sSkip)
theorem k_loop {o t : Bt} (h : Pr o t) {FI FJ : Int → Int} (f : FamOK o t FI FJ) (ef : m_families_of [o.d, t.d] = ret (.list (famL o t FI FJ))) {X Y : D} (ex : m_check_beats [X] = ret o.d) (ey : m_check_beats [Y] = ret t.d) {x0 x1 x2 x4 x7 : Sl} {r : List Sl} :
    ∀ (ks : List Int), (∀ k ∈ ks, 0 ≤ k ∧ k ≤ 2000000000) → ∀ x8, ∃ y8,
    loopL (tgN 8) kB (ks.map .int) (x0 :: x1 :: x2 :: .dat (.tuple (famL o t FI FJ)) :: x4 :: .dat X :: .dat Y :: x7 :: x8 :: r) = okS .nx (x0 :: x1 :: x2 :: .dat (.tuple (famL o t FI FJ)) :: x4 :: .dat X :: .dat Y :: x7 :: y8 :: r)
  | [], _, x8 => ⟨x8, rfl⟩
  | k :: ks, hk, x8 => by
    obtain ⟨k0, k1⟩ := hk k (by simp)
    obtain ⟨y8, e⟩ := k_loop h f ef ex ey (x0 := x0) (x1 := x1) (x2 := x2) (x4 := x4) (x7 := x7) (r := r) ks (fun z m => hk z (by simp [m])) (.dat (.int k))
    refine ⟨y8, ?_⟩
    have j := just_num h f k0 k1
    have z := told3 (k := .int k) rfl (met_number ex ey h k0 ef)
    have mt : opA mkTup [.str "told", .int (wS FI FJ (bI o t) (aI o t) k (dsI o t))] = ret (td (.int (wS FI FJ (bI o t) (aI o t) k (dsI o t)))) := rfl
    rw [List.map_cons, x_loopN]
    simp [z, law_many h, mt, j]
    exact e
theorem two_right {o t : Bt} (h : Pr o t) {FI FJ : Int → Int} (f : FamOK o t FI FJ) : Ends (m__law_two_right [tok, o.d, t.d, .tuple (famL o t FI FJ)]) fun d => d = .bool true := by
  obtain ⟨GI, GJ, eg, g⟩ := families_of h
  obtain ⟨FI', FJ', ef', f'⟩ := families_of h.flip
  have ef : m_families_of [o.d, t.d] = ret (.list (famL o t FI FJ)) := by rw [eg, famL_ext g f]
  have dl := h.dl
  rw [is__law_two_right, s__law_two_right]
  refine Ends.endB ?_
  -- the first
  rw [seq_to (ρ' := [.dat tok, .dat o.d, .dat t.d, .dat (.tuple (famL o t FI FJ)), .dat .none, .no, .no, .no, .no, .no, .no, .no, .no, .no, .no]) (by simp)]
  rw [seq_to (ρ' := [.dat tok, .dat o.d, .dat t.d, .dat (.tuple (famL o t FI FJ)), .dat (fst1 o t FI FJ), .no, .no, .no, .no, .no, .no, .no, .no, .no, .no]) (by
    by_cases c : dsI o t = []
    · have f0 : famL o t FI FJ = [] := by unfold famL; rw [c]; rfl
      have g0 : fst1 o t FI FJ = .none := if_pos c
      simp [f0, g0]
    · have l : 0 < (famL o t FI FJ).length := by
        unfold famL
        rw [List.length_map]
        exact List.length_pos_iff.mpr c
      have mm := min_of (ρ := [.dat tok, .dat o.d, .dat t.d, .dat (.tuple (famL o t FI FJ)), .dat .none, .no, .no, .no, .no, .no, .no, .no, .no, .no, .no]) (i := 14) (FI := FI) (FJ := FJ) (show (dsI o t).length ≤ 1000000 by omega) (fun d => rfl) c
      simp only [bnd_ret] at mm
      have l' : (0 : Int) < ((famL o t FI FJ).length : Nat) := by omega
      simp only [x_if, x_tV, x_b2, x_cA, x_aC, x_aN, gVar0, gVarS, bnd_ret, tok_list, tok_tuple, o_lenT, x_cK, o_gt, l', decide_true, asB_bool, bndS_ret, if_true, x_set, x_comp, items_tuple, orStk_some, wipeR, List.set_cons_succ, List.set_cons_zero, bnd_assoc, mm, x_put])]
  -- the two forms
  refine seq_ends (Q := fun r => ∃ X, (X = o.d ∨ X = o.l) ∧ r = [.dat tok, .dat o.d, .dat t.d, .dat (.tuple (famL o t FI FJ)), .dat (fst1 o t FI FJ), .dat X, .no, .no, .no, .no, .no, .no, .no, .no, .no]) ?_ ?_
  · simp only [x_set, x_b2, x_cA, x_aC, x_aN, gVar0, gVarS, bnd_ret, x_cM, x_cK, lst_bt, mkT, List.any_cons, tok_d, tok_l, List.any_nil, Bool.or_self, List.length_cons, List.length_nil, true_and, Nat.reduceAdd, Nat.reduceLeDiff, if_true, bndS_bnd]
    refine EndsS.bnd (draw 2 (by decide)) ?_
    rintro _ ⟨r, rfl, h0, h1⟩
    rcases pick2 (a := o.d) (b := o.l) h0 h1 with e | e
    · rw [e]
      exact EndsS.ok ⟨rfl, o.d, .inl rfl, rfl⟩
    · rw [e]
      exact EndsS.ok ⟨rfl, o.l, .inr rfl, rfl⟩
  rintro _ ⟨X, hX, rfl⟩
  refine seq_ends (Q := fun r => ∃ Y, (Y = t.d ∨ Y = t.l) ∧ r = [.dat tok, .dat o.d, .dat t.d, .dat (.tuple (famL o t FI FJ)), .dat (fst1 o t FI FJ), .dat X, .dat Y, .no, .no, .no, .no, .no, .no, .no, .no]) ?_ ?_
  · simp only [x_set, x_b2, x_cA, x_aC, x_aN, gVar0, gVarS, bnd_ret, x_cM, x_cK, lst_bt, mkT, List.any_cons, tok_d, tok_l, List.any_nil, Bool.or_self, List.length_cons, List.length_nil, true_and, Nat.reduceAdd, Nat.reduceLeDiff, if_true, bndS_bnd]
    refine EndsS.bnd (draw 2 (by decide)) ?_
    rintro _ ⟨r, rfl, h0, h1⟩
    rcases pick2 (a := t.l) (b := t.d) h0 h1 with e | e
    · rw [e]
      exact EndsS.ok ⟨rfl, t.l, .inr rfl, rfl⟩
    · rw [e]
      exact EndsS.ok ⟨rfl, t.d, .inl rfl, rfl⟩
  rintro _ ⟨Y, hY, rfl⟩
  have ex : m_check_beats [X] = ret o.d := by
    rcases hX with rfl | rfl
    · exact o.check h.go
    · exact o.checkL h.go
  have ey : m_check_beats [Y] = ret t.d := by
    rcases hY with rfl | rfl
    · exact t.check h.gt
    · exact t.checkL h.gt
  have mk : ∀ d : D, isTok d = false → opA mkTup [.str "told", d] = ret (td d) := fun d hd => by rw [mkT]; simp [hd, td]
  have tf : ∀ L : List D, isTok (.tuple L) = false := fun _ => rfl
  have t1 : isTok (fst1 o t FI FJ) = false := by unfold fst1; split <;> rfl
  have mkF : ∀ L : List D, opA mkTup [.str "told", .tuple L] = ret (td (.tuple L)) := fun L => mk _ rfl
  have mkB : ∀ b : Bool, opA mkTup [.str "told", .bool b] = ret (td (.bool b)) := fun b => mk _ rfl
  have mk1 := mk _ t1
  have z0 := told0 (k := .int 0) rfl (met_families ex ey h ef)
  have z1 := told1 (k := .int 0) t1 (first_met ex ey h ef)
  have z2 := told2 (k := .int 0) rfl (ever_meet ex ey h.go.p1 h.fo h.ft)
  have z3 := told0 (k := .int 0) rfl (met_families ey ex h.flip ef')
  rw [seq_to (ρ' := [.dat tok, .dat o.d, .dat t.d, .dat (.tuple (famL o t FI FJ)), .dat (fst1 o t FI FJ), .dat X, .dat Y, .no, .no, .no, .no, .no, .no, .no, .no]) (by simp [z0, mkF, just_fams h f])]
  rw [seq_to (ρ' := [.dat tok, .dat o.d, .dat t.d, .dat (.tuple (famL o t FI FJ)), .dat (fst1 o t FI FJ), .dat X, .dat Y, .no, .no, .no, .no, .no, .no, .no, .no]) (by simp [z1, mk1, just_fst h f])]
  rw [seq_to (ρ' := [.dat tok, .dat o.d, .dat t.d, .dat (.tuple (famL o t FI FJ)), .dat (fst1 o t FI FJ), .dat X, .dat Y, .no, .no, .no, .no, .no, .no, .no, .no]) (by
    have e := ever_iff h
    have ll : (famL o t FI FJ).length = (dsI o t).length := by unfold famL; rw [List.length_map]
    rw [e] at z2
    simp only [x_if, x_tNo, x_tV, x_cM, x_aC, x_aN, x_cK, x_b2, x_cA, gVarS, gVar0, bnd_ret, z2, o_lenT, o_gt, ll, mkB, just_bool, asB_bool, bndS_ret, Bool.not_true, Bool.false_eq_true, if_false, x_skip])]
  rw [seq_to (ρ' := [.dat tok, .dat o.d, .dat t.d, .dat (.tuple (famL o t FI FJ)), .dat (fst1 o t FI FJ), .dat X, .dat Y, .own [], .no, .no, .no, .no, .no, .no, .no]) (by simp)]
  obtain ⟨y9, y10, y11, y12, y13, eu⟩ := tu_loop (FI := FI) (FJ := FJ) (b := bI o t) (a := aI o t) (x0 := .dat tok) (x1 := .dat o.d) (x2 := .dat t.d) (x3 := .dat (.tuple (famL o t FI FJ))) (x4 := .dat (fst1 o t FI FJ)) (x5 := .dat X) (x6 := .dat Y) (x8 := .no) (x14 := .no) (dsI o t) [] .no .no .no .no .no (by simp; omega)
  rw [seq_to (ρ' := [.dat tok, .dat o.d, .dat t.d, .dat (.tuple (famL o t FI FJ)), .dat (fst1 o t FI FJ), .dat X, .dat Y, .own ((dsI o t).map fun d => f5 (-d) (FJ d) (FI d) (aI o t) (bI o t)), .no, y9, y10, y11, y12, y13, .no]) (by
    rw [x_for, gVarS, gVarS, gVarS, gVar0, bndS_ret, items_tuple, orStuck_some]
    exact eu)]
  rw [seq_to (x_frz_own rfl)]
  rw [seq_to (ρ' := [.dat tok, .dat o.d, .dat t.d, .dat (.tuple (famL o t FI FJ)), .dat (fst1 o t FI FJ), .dat X, .dat Y, .dat (.list ((dsI o t).map fun d => f5 (-d) (FJ d) (FI d) (aI o t) (bI o t))), .no, y9, y10, y11, y12, y13, .no]) (by
    simp [z3, sorted_is h f f', mkF, just_fams h.flip f'])]
  -- the counts
  refine seq_ends (Q := fun r => ∃ y8, r = [.dat tok, .dat o.d, .dat t.d, .dat (.tuple (famL o t FI FJ)), .dat (fst1 o t FI FJ), .dat X, .dat Y, .dat (.list ((dsI o t).map fun d => f5 (-d) (FJ d) (FI d) (aI o t) (bI o t))), y8, y9, y10, y11, y12, y13, .no]) ?_ ?_
  · have p9 : op2 fPow (.int 10) (.int 9) = ret (.int 1000000000) := rfl
    have p6 : op2 fPow (.int 10) (.int 6) = ret (.int 1000000) := rfl
    simp only [x_for, x_cA, x_aC, x_aN, x_b2, x_cM, x_cK, gVar0, bnd_ret, p9, p6, bndS_bnd, bnd_assoc]
    refine EndsS.bnd (draw 30 (by decide)) ?_
    rintro _ ⟨r1, rfl, h0, h1⟩
    have sm : small64 (1000 : Int) = true := by decide
    simp only [bnd_ret, bndS_ret, o_int, o_mul (Or.inr sm), o_add, bndS_bnd, bnd_assoc]
    refine EndsS.bnd (draw 30 (by decide)) ?_
    rintro _ ⟨r2, rfl, h2, h3⟩
    obtain ⟨y8, e⟩ := k_loop h f ef ex ey (x0 := .dat tok) (x1 := .dat o.d) (x2 := .dat t.d) (x4 := .dat (fst1 o t FI FJ)) (x7 := .dat (.list ((dsI o t).map fun d => f5 (-d) (FJ d) (FI d) (aI o t) (bI o t)))) (r := [y9, y10, y11, y12, y13, .no]) [1000000000, r1 * 1000 + 999, 1000000 + r2] (by simp; omega) .no
    simp only [bnd_ret, bndS_ret, o_add, mkT, List.any_cons, tok_int, List.any_nil, Bool.or_self, List.length_cons, List.length_nil, true_and, Nat.reduceAdd, Nat.reduceLeDiff, if_true, items_tuple, orStuck_some]
    simp only [List.map_cons, List.map_nil] at e
    rw [e]
    exact EndsS.ok ⟨rfl, y8, rfl⟩
  rintro _ ⟨y8, rfl⟩
  have fin : ∀ (h : HS → OutS), h = okS (.rt (.bool true)) [.dat tok, .dat o.d, .dat t.d, .dat (.tuple (famL o t FI FJ)), .dat (fst1 o t FI FJ), .dat X, .dat Y, .dat (.list ((dsI o t).map fun d => f5 (-d) (FJ d) (FI d) (aI o t) (bI o t))), y8, y9, y10, y11, y12, y13, .no] → EndsS h fun f _ => ∃ d, f = .rt d ∧ d = .bool true := fun h e => by
    rw [e]
    exact EndsS.ok ⟨_, rfl, rfl⟩
  refine fin _ ?_
  have jb := j_bt h.go
  have i1 : opA fInt [.bool true] = ret (.int 1) := rfl
  have i0 : opA fInt [.bool false] = ret (.int 0) := rfl
  rcases hX with rfl | rfl
  · simp [lst_bt, mkT, tok_d, tok_l, j_eq jb.1 jb.1 (by decide), j_self jb.1, i1, ix2_1, just_bt h.go]
  · have ne : PyData.eqv o.l o.d = false := by simp [Bt.l, Bt.d, btL, bt, PyData.eqv]
    simp [lst_bt, mkT, tok_d, tok_l, j_eq jb.2 jb.1 (by decide), ne, i0, ix2_0, just_btl h.go]
end L2.AR.T
set_option Elab.async false
set_option linter.all false
set_option maxRecDepth 100000
set_option maxHeartbeats 4000000
namespace L2.AR.T
open PySem PySem.Spec PyProof.Rows
/-! ### drawn small rows -/
theorem pickL (L : List Int) {r : Int} (h0 : 0 ≤ r) (h1 : r < L.length) : ∃ x ∈ L, op2 fIx (.tuple (L.map .int)) (.int r) = ret (.int x) := by
  obtain ⟨n, rfl⟩ : ∃ n : Nat, r = n := ⟨r.toNat, by omega⟩
  have l : n < L.length := by omega
  refine ⟨L[n], List.getElem_mem l, o_ixT ?_⟩
  exact atI_nat (by rw [List.getElem?_map, List.getElem?_eq_getElem l]; rfl)
structure Sr (b : Bt) : Prop where
  dr : b.dr = false
  c0 : 0 ≤ b.c
  c1 : b.c ≤ 20
  p0 : 1 ≤ b.p
  p1 : b.p ≤ 12
  w0 : 0 ≤ b.w
  w1 : b.w ≤ 5
theorem Sr.good {b : Bt} (s : Sr b) : b.G := by
  obtain ⟨a1, a2, a3, a4, a5, a6, a7⟩ := s
  exact ⟨a2, a4, a6, (fun e => by rw [a1] at e; cases e), by unfold Sm; omega, by unfold Sm; omega, by unfold Sm; omega⟩
theorem small_row : Ends (m__law_small_row [tok]) fun d => ∃ b : Bt, d = b.d ∧ Sr b := by
  rw [is__law_small_row, s__law_small_row]
  refine Ends.endB ?_
  refine seq_ends (Q := fun r => ∃ c, 0 ≤ c ∧ c ≤ 20 ∧ r = [.dat tok, .dat (.int c), .no]) ?_ ?_
  · simp only [x_set, x_b2, x_cA, x_aC, x_aN, gVar0, gVarS, bnd_ret, x_cM, x_cK, bndS_bnd]
    rw [o_mkT rfl (by decide)]
    simp only [bndS_ret, bndS_bnd]
    refine EndsS.bnd (draw 6 (by decide)) ?_
    rintro _ ⟨r, rfl, h0, h1⟩
    obtain ⟨x, m, e⟩ := pickL [0, 2, 5, 1, 13, 20] h0 h1
    simp only [List.map_cons, List.map_nil] at e
    rw [e]
    refine EndsS.ok ⟨rfl, x, ?_, ?_, rfl⟩ <;> (simp at m; omega)
  rintro _ ⟨c, c0, c1, rfl⟩
  refine seq_ends (Q := fun r => ∃ p, 1 ≤ p ∧ p ≤ 12 ∧ r = [.dat tok, .dat (.int c), .dat (.int p)]) ?_ ?_
  · simp only [x_set, x_b2, x_cA, x_aC, x_aN, gVar0, gVarS, bnd_ret, x_cM, x_cK, bndS_bnd]
    rw [o_mkT rfl (by decide)]
    simp only [bndS_ret, bndS_bnd]
    refine EndsS.bnd (draw 12 (by decide)) ?_
    rintro _ ⟨r, rfl, h0, h1⟩
    obtain ⟨x, m, e⟩ := pickL [6, 4, 9, 1, 2, 3, 5, 7, 8, 10, 11, 12] h0 h1
    simp only [List.map_cons, List.map_nil] at e
    rw [e]
    refine EndsS.ok ⟨rfl, x, ?_, ?_, rfl⟩ <;> (simp at m; omega)
  rintro _ ⟨p, p0, p1, rfl⟩
  simp only [x_ret, x_b2, x_cA, x_aC, x_aN, gVar0, gVarS, bnd_ret, x_cM, x_cK, bndS_bnd, bnd_assoc]
  rw [show opA mkTup [.int 1, .int 0, .int 2, .int 5, .int 3] = ret (.tuple [.int 1, .int 0, .int 2, .int 5, .int 3]) from rfl]
  simp only [bndS_ret, bndS_bnd, bnd_ret, bnd_assoc]
  refine EndsS.bnd (draw 5 (by decide)) ?_
  rintro _ ⟨r, rfl, h0, h1⟩
  obtain ⟨x, m, e⟩ := pickL [1, 0, 2, 5, 3] h0 h1
  simp only [List.map_cons, List.map_nil] at e
  rw [e]
  simp only [bndS_ret, bnd_ret]
  refine EndsS.ok ⟨_, rfl, ⟨false, c, p, x⟩, rfl, rfl, c0, c1, p0, p1, ?_, ?_⟩ <;> (simp at m; simp only; omega)
theorem Sr.sl {o t : Bt} (a : Sr o) (b : Sr t) : Sl60 o t := by
  have g1 := a.good
  have g2 := b.good
  obtain ⟨a1, a2, a3, a4, a5, a6, a7⟩ := a
  obtain ⟨b1, b2, b3, b4, b5, b6, b7⟩ := b
  have l1 : aI o t ≤ o.p := Int.ediv_le_self _ (by omega)
  have l2 : bI o t ≤ t.p := Int.ediv_le_self _ (by omega)
  exact ⟨⟨g1, g2, a1, b1, by omega, by omega, by omega, by omega, by omega⟩, a3, b3, a5, b5, a7, b7⟩
abbrev srB : MS := (sIf (tNo (tV (cM m__law_just (aC (cM m__law_heard_beats (aC (cK (.int 3)) (aC (gVar 3) (aC (gVar 4) (aC (gVar 2) aN))))) (aC (cA mkTup (aC (cK (.str "told")) (aC (cM m__law_tried (aC (gVar 3) (aC (gVar 4) (aC (gVar 2) aN)))) aN))) aN)))))
 (sRet (cK (.bool false)))
 sSkip)
theorem sr_loop {o t : Bt} (h : Pr o t) {FI FJ : Int → Int} (f : FamOK o t FI FJ) (ef : m_families_of [o.d, t.d] = ret (.list (famL o t FI FJ))) {x0 x1 : Sl} :
    ∀ (ks : List Nat), (∀ k ∈ ks, k < 1000) → ∀ x2, ∃ y2,
    loopL (tgN 2) srB (ks.map fun (k : Nat) => .int (k : Int)) [x0, x1, x2, .dat o.d, .dat t.d] = okS .nx [x0, x1, y2, .dat o.d, .dat t.d]
  | [], _, x2 => ⟨x2, rfl⟩
  | k :: ks, hk, x2 => by
    have k1 := hk k (by simp)
    obtain ⟨y2, e⟩ := sr_loop h f ef (x0 := x0) (x1 := x1) ks (fun z m => hk z (by simp [m])) (.dat (.int (k : Int)))
    refine ⟨y2, ?_⟩
    have j := just_num h f (k := (k : Int)) (by omega) (by omega)
    have z := told3 (k := .int (k : Int)) rfl (met_number (o.check h.go) (t.check h.gt) h (show (0 : Int) ≤ k by omega) ef)
    have tr := law_tried h.go.sp h.gt.sp k1
    rw [wS_hits h f k] at j z
    have mt : opA mkTup [.str "told", .int ((hits o t (allP k 1 k) : Nat) : Int)] = ret (td (.int ((hits o t (allP k 1 k) : Nat) : Int))) := rfl
    rw [List.map_cons, x_loopN]
    simp [z, tr, mt, j]
    exact e
theorem small_right : Ends (m__law_small_right [tok]) fun d => d = .bool true := by
  rw [is__law_small_right, s__law_small_right]
  refine Ends.endB ?_
  refine seq_ends (Q := fun r => ∃ o t : Bt, Sr o ∧ Sr t ∧ r = [.dat tok, .no, .no, .dat o.d, .dat t.d]) ?_ ?_
  · simp only [x_par, x_cA, x_aC, x_aN, gVar0, gVarS, bnd_ret, x_cM, x_cK, bndS_bnd, bnd_assoc]
    refine EndsS.bnd small_row ?_
    rintro _ ⟨o, rfl, so⟩
    refine EndsS.bnd small_row ?_
    rintro _ ⟨t, rfl, st⟩
    exact EndsS.ok ⟨rfl, o, t, so, st, rfl⟩
  rintro _ ⟨o, t, so, st, rfl⟩
  have s := so.sl st
  obtain ⟨FI, FJ, ef, f⟩ := families_of s.pr
  rw [seq_to (ρ' := [.dat tok, .dat (.tuple (famL o t FI FJ)), .no, .dat o.d, .dat t.d]) (by simp [law_families s f])]
  refine seq_ends (Q := fun r => ∃ y, r = [.dat tok, .dat (.tuple (famL o t FI FJ)), y, .dat o.d, .dat t.d]) ?_ ?_
  · simp only [x_for, x_b2, x_cA, x_aC, x_aN, gVar0, gVarS, bnd_ret, x_cM, x_cK, bndS_bnd, bnd_assoc]
    refine EndsS.bnd (draw 30 (by decide)) ?_
    rintro _ ⟨r, rfl, h0, h1⟩
    have m0 := Int.emod_nonneg r (show (21 : Int) ≠ 0 by decide)
    have m1 := Int.emod_lt_of_pos r (show (0 : Int) < 21 by decide)
    simp only [bnd_ret, o_int, o_mod (show (0 : Int) < 21 by decide), o_add, bndS_bnd, bnd_assoc, bndS_ret]
    refine EndsS.bnd (draw 6 (by decide)) ?_
    rintro _ ⟨r2, rfl, h2, h3⟩
    obtain ⟨n, en⟩ : ∃ n : Nat, r % 21 + 5 = n := ⟨(r % 21 + 5).toNat, by omega⟩
    obtain ⟨m, em⟩ : ∃ n : Nat, r2 = n := ⟨r2.toNat, by omega⟩
    rw [en, em]
    obtain ⟨y, e⟩ := sr_loop s.pr f ef (x0 := .dat tok) (x1 := .dat (.tuple (famL o t FI FJ))) [n, m] (by simp; omega) .no
    simp only [List.map_cons, List.map_nil] at e
    rw [o_mkT rfl (by simp)]
    simp only [bndS_ret, items_tuple, orStuck_some]
    rw [e]
    exact EndsS.ok ⟨rfl, y, rfl⟩
  rintro _ ⟨y, rfl⟩
  simp only [x_ret, x_cM, x_aC, x_aN, gVar0, gVarS, bnd_ret, bndS_ret]
  refine EndsS.bnd (two_right s.pr f) ?_
  rintro _ rfl
  exact EndsS.ok ⟨_, rfl, rfl⟩
end L2.AR.T
set_option Elab.async false
set_option linter.all false
set_option maxRecDepth 100000
set_option maxHeartbeats 4000000
namespace L2.AR.T
open PySem PySem.Spec PyProof.Rows
/-! ### great rows: one difference that is met -/
theorem ar8 {i' i a j' j b c p q e d : Int} (hp : p = a * c) (hq : q = b * c) (h : e + i * p - j * q = d) (h' : e + i' * p - j' * q = d) : c * ((i' - i) * a) = c * ((j' - j) * b) := by grind
theorem ar9 {u v x y a b : Int} (h : x * a + y * b = 1) (e : u * a = v * b) : u = (u * y + v * x) * b ∧ v = (u * y + v * x) * a := by
  constructor <;> grind
theorem fam_of {e p q d i j a b c x y : Int} (c1 : 1 ≤ c) (a1 : 1 ≤ a) (b1 : 1 ≤ b) (hp : p = a * c) (hq : q = b * c) (bz : x * a + y * b = 1) (i1 : 1 ≤ i) (j1 : 1 ≤ j) (near : i ≤ b ∨ j ≤ a) (eq : e + i * p - j * q = d) : Fam e p q d i j a b := by
  refine ⟨i1, j1, a1, b1, by rw [hp, hq]; grind, eq, fun i' j' i1' j1' eq' => ?_⟩
  have e1 := Int.eq_of_mul_eq_mul_left (by omega) (ar8 hp hq eq eq')
  obtain ⟨e2, e3⟩ := ar9 bz e1
  refine ⟨(i' - i) * y + (j' - j) * x, ?_, by omega, by omega⟩
  generalize (i' - i) * y + (j' - j) * x = n at *
  by_cases h : 0 ≤ n
  · exact h
  · have l1 : n * b ≤ (-1) * b := Int.mul_le_mul_of_nonneg_right (by omega) (by omega)
    have l2 : n * a ≤ (-1) * a := Int.mul_le_mul_of_nonneg_right (by omega) (by omega)
    omega
theorem gcd_of {a b c x y : Int} (c1 : 1 ≤ c) (a1 : 1 ≤ a) (b1 : 1 ≤ b) (bz : x * a + y * b = 1) : ((Nat.gcd (a * c).natAbs (b * c).natAbs : Nat) : Int) = c := by
  have e : Int.gcd (a * c) (b * c) = Int.gcd a b * c.natAbs := Int.gcd_mul_right ..
  have g : Int.gcd a b = 1 := by
    have d1 : ((Int.gcd a b : Nat) : Int) ∣ a := Int.gcd_dvd_left ..
    have d2 : ((Int.gcd a b : Nat) : Int) ∣ b := Int.gcd_dvd_right ..
    have d3 : ((Int.gcd a b : Nat) : Int) ∣ 1 := by
      rw [← bz]
      exact Int.dvd_add (Int.dvd_mul_of_dvd_right d1) (Int.dvd_mul_of_dvd_right d2)
    have := Int.eq_one_of_dvd_one (by omega) d3
    omega
  show ((Int.gcd (a * c) (b * c) : Nat) : Int) = c
  rw [e, g]
  omega
def gOne (late p w : Int) : Bt := ⟨false, if -late > 0 then -late else 0, p, w⟩
def gOth (late p w : Int) : Bt := ⟨false, if late > 0 then late else 0, p, w⟩
theorem great_ok {a b c s t d i j late : Int} (c1 : 1 ≤ c) (c3 : c ≤ 300) (a1 : 1 ≤ a) (a2 : a < 1000) (b1 : 1 ≤ b) (b2 : b < 1000) (bz : ∃ x y, x * a + y * b = 1) (s0 : 0 ≤ s) (t0 : 0 ≤ t) (st : s + t < c) (d0 : -s ≤ d) (d1 : d ≤ t) (i1 : 1 ≤ i) (i2 : i < 1000) (j1 : 1 ≤ j) (j2 : j < 1000) (near : i ≤ b ∨ j ≤ a)
    (hl : late = i * a * c - j * b * c - d) : Pr (gOne late (a * c) s) (gOth late (b * c) t) ∧ FamOK (gOne late (a * c) s) (gOth late (b * c) t) (fun _ => i) (fun _ => j) ∧ famL (gOne late (a * c) s) (gOth late (b * c) t) (fun _ => i) (fun _ => j) = [f5 d i j b a] := by
  obtain ⟨x, y, bz⟩ := bz
  have hg : gI (gOne late (a * c) s) (gOth late (b * c) t) = c := gcd_of c1 a1 b1 bz
  have ha : aI (gOne late (a * c) s) (gOth late (b * c) t) = a := by
    unfold aI
    rw [hg]
    exact Int.mul_ediv_cancel a (by omega)
  have hb : bI (gOne late (a * c) s) (gOth late (b * c) t) = b := by
    unfold bI
    rw [hg]
    exact Int.mul_ediv_cancel b (by omega)
  have he : eI (gOne late (a * c) s) (gOth late (b * c) t) = -late := by
    show (if -late > 0 then -late else 0) - (if late > 0 then late else 0) = -late
    split <;> split <;> omega
  have m1 : 1 ≤ a * c := by have := Int.mul_le_mul a1 c1 (by omega) (by omega); omega
  have m2 : 1 ≤ b * c := by have := Int.mul_le_mul b1 c1 (by omega) (by omega); omega
  have m3 : a * c ≤ 1000 * 300 := Int.mul_le_mul (by omega) c3 (by omega) (by omega)
  have m4 : b * c ≤ 1000 * 300 := Int.mul_le_mul (by omega) c3 (by omega) (by omega)
  have m5 : i * (a * c) ≤ 1000 * 300000 := Int.mul_le_mul (by omega) (by omega) (by omega) (by omega)
  have m6 : j * (b * c) ≤ 1000 * 300000 := Int.mul_le_mul (by omega) (by omega) (by omega) (by omega)
  have m7 : 0 ≤ i * (a * c) := Int.mul_nonneg (by omega) (by omega)
  have m8 : 0 ≤ j * (b * c) := Int.mul_nonneg (by omega) (by omega)
  rw [Int.mul_assoc, Int.mul_assoc] at hl
  have ll : late.natAbs < 2 ^ 50 := by omega
  have g1 : (gOne late (a * c) s).G := by
    refine ⟨?_, m1, s0, (fun e => by cases e), ?_, by show (a * c).natAbs < 2 ^ 60; omega, by show s.natAbs < 2 ^ 60; omega⟩
    · show 0 ≤ if -late > 0 then -late else 0
      split <;> omega
    · show (if -late > 0 then -late else 0).natAbs < 2 ^ 60
      split <;> omega
  have g2 : (gOth late (b * c) t).G := by
    refine ⟨?_, m2, t0, (fun e => by cases e), ?_, by show (b * c).natAbs < 2 ^ 60; omega, by show t.natAbs < 2 ^ 60; omega⟩
    · show 0 ≤ if late > 0 then late else 0
      split <;> omega
    · show (if late > 0 then late else 0).natAbs < 2 ^ 60
      split <;> omega
  have eq : -late + i * (a * c) - j * (b * c) = d := by omega
  have ds : dsI (gOne late (a * c) s) (gOth late (b * c) t) = [d] := by
    unfold dsI
    rw [he, hg]
    refine strict_ext (R := (· < ·)) (fun x => Int.lt_irrefl x) (fun x y z => Int.lt_trans) (apL_strict c1) (by simp) fun z => ?_
    rw [apL_mem c1, List.mem_singleton]
    constructor
    · rintro ⟨h1, h2, m, hm⟩
      have h1 : -s ≤ z := h1
      have h2 : z ≤ t := h2
      have e : z - d = c * (m - i * a + j * b) := by
        rw [Int.mul_add, Int.mul_sub, Int.mul_comm c (i * a), Int.mul_comm c (j * b), Int.mul_assoc, Int.mul_assoc]
        omega
      generalize m - i * a + j * b = n at e
      by_cases q : n = 0
      · rw [q] at e; omega
      · rcases Int.lt_or_gt_of_ne q with q | q
        · have := Int.mul_le_mul_of_nonneg_left (show n ≤ -1 by omega) (show 0 ≤ c by omega)
          omega
        · have := Int.mul_le_mul_of_nonneg_left (show 1 ≤ n by omega) (show 0 ≤ c by omega)
          omega
    · rintro rfl
      refine ⟨d0, d1, i * a - j * b, ?_⟩
      rw [Int.mul_sub, Int.mul_comm c (i * a), Int.mul_comm c (j * b), Int.mul_assoc, Int.mul_assoc]
      omega
  refine ⟨⟨g1, g2, rfl, rfl, by show s + t ≤ 2000; omega, by show a * c < 1000000; omega, by show b * c < 1000000; omega, by rw [ha]; exact a2, by rw [hb]; exact b2⟩, ?_, ?_⟩
  · intro z hz
    rw [ds, List.mem_singleton] at hz
    subst hz
    rw [ha, hb, he]
    exact fam_of c1 a1 b1 rfl rfl bz i1 j1 near eq
  · unfold famL
    rw [ds, ha, hb]
    rfl
theorem great_right : Ends (m__law_great_right [tok]) fun d => d = .bool true := by
  have s33 : small64 (33 : Int) = true := by decide
  have s7 : small64 (7 : Int) = true := by decide
  rw [is__law_great_right, s__law_great_right]
  refine Ends.endB ?_
  refine seq_ends (Q := fun r => ∃ c, 1 ≤ c ∧ c ≤ 300 ∧ r = [.dat tok, .dat (.int c), .no, .no, .no, .no, .no, .no, .no, .no, .no, .no]) ?_ ?_
  · simp only [x_set, x_b2, x_cA, x_aC, x_aN, gVar0, gVarS, bnd_ret, x_cM, x_cK, bndS_bnd]
    rw [o_mkT rfl (by decide)]
    simp only [bndS_ret, bndS_bnd]
    refine EndsS.bnd (draw 5 (by decide)) ?_
    rintro _ ⟨r, rfl, h0, h1⟩
    obtain ⟨x, m, e⟩ := pickL [6, 300, 1, 17, 2] h0 h1
    simp only [List.map_cons, List.map_nil] at e
    rw [e]
    refine EndsS.ok ⟨rfl, x, ?_, ?_, rfl⟩ <;> (simp at m; omega)
  rintro _ ⟨c, c1, c3, rfl⟩
  refine seq_ends (Q := fun r => ∃ a, 2 ≤ a ∧ a ≤ 959 ∧ r = [.dat tok, .dat (.int c), .dat (.int a), .no, .no, .no, .no, .no, .no, .no, .no, .no]) ?_ ?_
  · simp only [x_set, x_b2, x_cA, x_aC, x_aN, gVar0, gVarS, bnd_ret, x_cM, x_cK, bndS_bnd, bndS_ret, bnd_assoc]
    refine EndsS.bnd (draw 30 (by decide)) ?_
    rintro _ ⟨r, rfl, h0, h1⟩
    simp only [o_mul (Or.inl s33), bndS_ret, bnd_ret, o_add, x_put]
    exact EndsS.ok ⟨rfl, 2 + 33 * r, by omega, by omega, rfl⟩
  rintro _ ⟨a, a1, a2, rfl⟩
  have as : small64 a = true := sm64 (by unfold Sm; omega)
  refine seq_ends (Q := fun r => ∃ b, (b = a + 1 ∨ b = 1) ∧ r = [.dat tok, .dat (.int c), .dat (.int a), .dat (.int b), .no, .no, .no, .no, .no, .no, .no, .no]) ?_ ?_
  · simp only [x_set, x_b2, x_cA, x_aC, x_aN, gVar0, gVarS, bnd_ret, x_cM, x_cK, bndS_bnd, bndS_ret, bnd_assoc]
    rw [o_mkT rfl (by decide)]
    simp only [bndS_ret, bndS_bnd, bnd_ret, bnd_assoc]
    refine EndsS.bnd (draw 2 (by decide)) ?_
    rintro _ ⟨r, rfl, h0, h1⟩
    rcases pick2 (a := .int 1) (b := .int 0) h0 h1 with e | e
    · rw [e]
      simp only [o_mul (Or.inl as), bndS_ret, bnd_ret, o_add, x_put]
      exact EndsS.ok ⟨rfl, a * 1 + 1, by omega, rfl⟩
    · rw [e]
      simp only [o_mul (Or.inl as), bndS_ret, bnd_ret, o_add, x_put]
      exact EndsS.ok ⟨rfl, a * 0 + 1, by omega, rfl⟩
  rintro _ ⟨b, hb, rfl⟩
  have b1 : 1 ≤ b := by omega
  have b2 : b ≤ 960 := by omega
  have bs : small64 b = true := sm64 (by unfold Sm; omega)
  have cs : small64 c = true := sm64 (by unfold Sm; omega)
  have bz : ∃ x y, x * a + y * b = 1 := by
    rcases hb with rfl | rfl
    · exact ⟨-1, 1, by omega⟩
    · exact ⟨0, 1, by omega⟩
  refine seq_ends (Q := fun r => ∃ s, 0 ≤ s ∧ r = [.dat tok, .dat (.int c), .dat (.int a), .dat (.int b), .dat (.int s), .no, .no, .no, .no, .no, .no, .no]) ?_ ?_
  · simp only [x_set, x_b2, x_cA, x_aC, x_aN, gVar0, gVarS, bnd_ret, x_cM, x_cK, bndS_bnd, bndS_ret, bnd_assoc]
    refine EndsS.bnd (draw 30 (by decide)) ?_
    rintro _ ⟨r, rfl, h0, h1⟩
    exact EndsS.ok ⟨rfl, r, h0, rfl⟩
  rintro _ ⟨s, s0, rfl⟩
  have md : ∀ {x : Int} (y : Int), 0 < x → op2 fMod (.int y) (.int x) = ret (.int (y % x)) := fun y h => o_mod h
  have e0 := Int.emod_nonneg s (show c ≠ 0 by omega)
  have e1 := Int.emod_lt_of_pos s (show 0 < c by omega)
  rw [seq_to (ρ' := [.dat tok, .dat (.int c), .dat (.int a), .dat (.int b), .dat (.int (s % c)), .no, .no, .no, .no, .no, .no, .no]) (by simp [md s (show 0 < c by omega)])]
  generalize hs : s % c = s' at *
  refine seq_ends (Q := fun r => ∃ t, 0 ≤ t ∧ t < c - s' ∧ r = [.dat tok, .dat (.int c), .dat (.int a), .dat (.int b), .dat (.int s'), .dat (.int t), .no, .no, .no, .no, .no, .no]) ?_ ?_
  · simp only [x_set, x_b2, x_cA, x_aC, x_aN, gVar0, gVarS, bnd_ret, x_cM, x_cK, bndS_bnd, bndS_ret, bnd_assoc]
    refine EndsS.bnd (draw 30 (by decide)) ?_
    rintro _ ⟨r, rfl, h0, h1⟩
    simp only [o_int, bndS_ret, bnd_ret, o_sub, md r (show 0 < c - s' by omega), x_put]
    exact EndsS.ok ⟨rfl, r % (c - s'), Int.emod_nonneg _ (by omega), Int.emod_lt_of_pos _ (by omega), rfl⟩
  rintro _ ⟨t, t0, t1, rfl⟩
  refine seq_ends (Q := fun r => ∃ d, -s' ≤ d ∧ d ≤ t ∧ r = [.dat tok, .dat (.int c), .dat (.int a), .dat (.int b), .dat (.int s'), .dat (.int t), .dat (.int d), .no, .no, .no, .no, .no]) ?_ ?_
  · simp only [x_set, x_b2, x_cA, x_aC, x_aN, gVar0, gVarS, bnd_ret, x_cM, x_cK, bndS_bnd, bndS_ret, bnd_assoc]
    refine EndsS.bnd (draw 30 (by decide)) ?_
    rintro _ ⟨r, rfl, h0, h1⟩
    have q0 := Int.emod_nonneg r (show s' + t + 1 ≠ 0 by omega)
    have q1 := Int.emod_lt_of_pos r (show 0 < s' + t + 1 by omega)
    simp only [o_int, bndS_ret, bnd_ret, o_sub, o_add, md r (show 0 < s' + t + 1 by omega), x_put]
    exact EndsS.ok ⟨rfl, r % (s' + t + 1) - s', by omega, by omega, rfl⟩
  rintro _ ⟨d, d0, d1, rfl⟩
  refine seq_ends (Q := fun r => ∃ i, 1 ≤ i ∧ i ≤ b ∧ r = [.dat tok, .dat (.int c), .dat (.int a), .dat (.int b), .dat (.int s'), .dat (.int t), .dat (.int d), .dat (.int i), .no, .no, .no, .no]) ?_ ?_
  · simp only [x_set, x_b2, x_cA, x_aC, x_aN, gVar0, gVarS, bnd_ret, x_cM, x_cK, bndS_bnd, bndS_ret, bnd_assoc]
    refine EndsS.bnd (draw 30 (by decide)) ?_
    rintro _ ⟨r, rfl, h0, h1⟩
    simp only [o_mul (Or.inl s33), bndS_ret, bnd_ret, bndS_bnd, bnd_assoc]
    refine EndsS.bnd (draw 30 (by decide)) ?_
    rintro _ ⟨r2, rfl, h2, h3⟩
    have q0 := Int.emod_nonneg (33 * r + r2) (show b ≠ 0 by omega)
    have q1 := Int.emod_lt_of_pos (33 * r + r2) (show 0 < b by omega)
    simp only [o_add, o_int, bndS_ret, bnd_ret, md (33 * r + r2) (show 0 < b by omega), x_put]
    exact EndsS.ok ⟨rfl, 1 + (33 * r + r2) % b, by omega, by omega, rfl⟩
  rintro _ ⟨i, i1, i2, rfl⟩
  refine seq_ends (Q := fun r => ∃ j, 1 ≤ j ∧ j < 1000 ∧ r = [.dat tok, .dat (.int c), .dat (.int a), .dat (.int b), .dat (.int s'), .dat (.int t), .dat (.int d), .dat (.int i), .dat (.int j), .no, .no, .no]) ?_ ?_
  · simp only [x_set, x_b2, x_cA, x_aC, x_aN, gVar0, gVarS, bnd_ret, x_cM, x_cK, bndS_bnd, bndS_ret, bnd_assoc]
    refine EndsS.bnd (draw 30 (by decide)) ?_
    rintro _ ⟨r, rfl, h0, h1⟩
    simp only [o_mul (Or.inl s7), bndS_ret, bnd_ret, o_add, x_put]
    exact EndsS.ok ⟨rfl, 1 + 7 * r, by omega, by omega, rfl⟩
  rintro _ ⟨j, j1, j2, rfl⟩
  refine seq_ends (Q := fun r => ∃ i j, 1 ≤ i ∧ i < 1000 ∧ 1 ≤ j ∧ j < 1000 ∧ (i ≤ b ∨ j ≤ a) ∧ r = [.dat tok, .dat (.int c), .dat (.int a), .dat (.int b), .dat (.int s'), .dat (.int t), .dat (.int d), .dat (.int i), .dat (.int j), .no, .no, .no]) ?_ ?_
  · simp only [x_if, x_tV, x_b2, x_cA, x_aC, x_aN, gVar0, gVarS, bnd_ret, x_cM, x_cK, bndS_bnd, bndS_ret, bnd_assoc]
    refine EndsS.bnd (draw 2 (by decide)) ?_
    rintro _ ⟨r, rfl, h0, h1⟩
    have : r = 0 ∨ r = 1 := by omega
    rcases this with rfl | rfl
    · simp only [o_eqI, bndS_ret, asB_bool, show ((0 : Int) == 1) = false from rfl, Bool.false_eq_true, if_false, x_skip]
      exact EndsS.ok ⟨rfl, i, j, i1, by omega, j1, j2, .inl i2, rfl⟩
    · simp only [o_eqI, bndS_ret, asB_bool, show ((1 : Int) == 1) = true from rfl, if_true, x_par, x_b2, x_cA, x_aC, x_aN, gVar0, gVarS, bnd_ret, x_cM, x_cK, bndS_bnd, bndS_ret, bnd_assoc]
      refine EndsS.bnd (draw 30 (by decide)) ?_
      rintro _ ⟨r, rfl, h0, h1⟩
      simp only [o_mul (Or.inl s7), bndS_ret, bnd_ret, o_add, bndS_bnd, bnd_assoc]
      refine EndsS.bnd (draw 30 (by decide)) ?_
      rintro _ ⟨r2, rfl, h2, h3⟩
      simp only [o_mul (Or.inl s33), bndS_ret, bnd_ret, bndS_bnd, bnd_assoc]
      refine EndsS.bnd (draw 30 (by decide)) ?_
      rintro _ ⟨r3, rfl, h4, h5⟩
      have q0 := Int.emod_nonneg (33 * r2 + r3) (show a ≠ 0 by omega)
      have q1 := Int.emod_lt_of_pos (33 * r2 + r3) (show 0 < a by omega)
      simp only [o_add, o_int, bndS_ret, bnd_ret, md (33 * r2 + r3) (show 0 < a by omega), par2_is]
      exact EndsS.ok ⟨rfl, 1 + 7 * r, 1 + (33 * r2 + r3) % a, by omega, by omega, by omega, by omega, .inr (by omega), rfl⟩
  rintro _ ⟨i, j, i1, i2, j1, j2, near, rfl⟩
  obtain ⟨pr, fo, fl⟩ := great_ok c1 c3 (show 1 ≤ a by omega) (show a < 1000 by omega) b1 (show b < 1000 by omega) bz e0 t0 (by omega) d0 d1 i1 i2 j1 j2 near rfl
  rw [seq_to (ρ' := [.dat tok, .dat (.int c), .dat (.int a), .dat (.int b), .dat (.int s'), .dat (.int t), .dat (.int d), .dat (.int i), .dat (.int j), .dat (.int (i * a * c - j * b * c - d)), .no, .no]) (by simp [o_mul (Or.inr as), o_mul (Or.inr bs), o_mul (Or.inr cs)])]
  generalize hl : i * a * c - j * b * c - d = late at *
  rw [seq_to (ρ' := [.dat tok, .dat (.int c), .dat (.int a), .dat (.int b), .dat (.int s'), .dat (.int t), .dat (.int d), .dat (.int i), .dat (.int j), .dat (.int late), .dat (gOne late (a * c) s').d, .no]) (by
    simp only [x_set, x_cA, x_aC, x_aN, x_cK, x_vNeg, gVar0, gVarS, bnd_ret, negD_int, o_max, x_b2, o_mul (Or.inr cs)]
    rw [o_mkT rfl (by simp)]
    rfl)]
  rw [seq_to (ρ' := [.dat tok, .dat (.int c), .dat (.int a), .dat (.int b), .dat (.int s'), .dat (.int t), .dat (.int d), .dat (.int i), .dat (.int j), .dat (.int late), .dat (gOne late (a * c) s').d, .dat (gOth late (b * c) t).d]) (by
    simp only [x_set, x_cA, x_aC, x_aN, x_cK, x_vNeg, gVar0, gVarS, bnd_ret, negD_int, o_max, x_b2, o_mul (Or.inr cs)]
    rw [o_mkT rfl (by simp)]
    rfl)]
  have tw := two_right pr fo
  rw [fl] at tw
  have e1 : opA mkTup [.int d, .int i, .int j, .int b, .int a] = ret (f5 d i j b a) := rfl
  have e2 : opA mkTup [f5 d i j b a] = ret (.tuple [f5 d i j b a]) := rfl
  simp only [x_ret, x_cM, x_cA, x_aC, x_aN, gVar0, gVarS, bnd_ret, bndS_ret, e1, e2]
  refine EndsS.bnd tw ?_
  rintro _ rfl
  exact EndsS.ok ⟨_, rfl, rfl⟩
end L2.AR.T
set_option Elab.async false
set_option linter.all false
set_option maxRecDepth 100000
set_option maxHeartbeats 4000000
namespace L2.AR.T
open PySem PySem.Spec PyProof.Rows
/-! ### wide rows: one difference an hour -/
def wOne (c h : Int) : Bt := ⟨false, c, 1, h⟩
theorem gI_one (c h x k : Int) : gI (wOne c h) (wOne x k) = 1 := by
  unfold gI wOne
  simp
def mx1 (x : Int) : Int := if x > 1 then x else 1
theorem wide_ok {c h : Int} (c0 : 0 ≤ c) (c1 : c < 30) (h0 : 970 ≤ h) (h1 : h < 1000) : Pr (wOne c h) (wOne 0 (2000 - h)) ∧ FamOK (wOne c h) (wOne 0 (2000 - h)) (fun d => mx1 (1 + (d - c))) (fun d => mx1 (1 - (d - c)))
    ∧ (dsI (wOne c h) (wOne 0 (2000 - h))).map PyData.int = upTo (-h) 2001 ∧ hits (wOne c h) (wOne 0 (2000 - h)) (allP 7 1 7) = 49 ∧ aI (wOne c h) (wOne 0 (2000 - h)) = 1 ∧ bI (wOne c h) (wOne 0 (2000 - h)) = 1 := by
  have hg : gI (wOne c h) (wOne 0 (2000 - h)) = 1 := gI_one ..
  have ha : aI (wOne c h) (wOne 0 (2000 - h)) = 1 := by unfold aI; rw [hg]; rfl
  have hb : bI (wOne c h) (wOne 0 (2000 - h)) = 1 := by unfold bI; rw [hg]; rfl
  have he : eI (wOne c h) (wOne 0 (2000 - h)) = c := by show c - 0 = c; omega
  refine ⟨⟨⟨c0, by show (1 : Int) ≤ 1; decide, by show 0 ≤ h; omega, (fun e => by cases e), by show c.natAbs < 2 ^ 60; omega, by show (1 : Int).natAbs < 2 ^ 60; decide, by show h.natAbs < 2 ^ 60; omega⟩,
    ⟨by show (0 : Int) ≤ 0; decide, by show (1 : Int) ≤ 1; decide, by show 0 ≤ 2000 - h; omega, (fun e => by cases e), by show (0 : Int).natAbs < 2 ^ 60; decide, by show (1 : Int).natAbs < 2 ^ 60; decide, by show (2000 - h).natAbs < 2 ^ 60; omega⟩, rfl, rfl, by show h + (2000 - h) ≤ 2000; omega, by show (1 : Int) < 1000000; decide, by show (1 : Int) < 1000000; decide, by rw [ha]; decide, by rw [hb]; decide⟩, ?_, ?_, ?_, ha, hb⟩
  · intro d m
    rw [ha, hb, he]
    show Fam c 1 1 d (mx1 (1 + (d - c))) (mx1 (1 - (d - c))) 1 1
    have near : mx1 (1 + (d - c)) = 1 ∨ mx1 (1 - (d - c)) = 1 := by unfold mx1; split <;> split <;> omega
    have dif : mx1 (1 + (d - c)) - mx1 (1 - (d - c)) = d - c := by unfold mx1; split <;> split <;> omega
    have l1 : 1 ≤ mx1 (1 + (d - c)) := by unfold mx1; split <;> omega
    have l2 : 1 ≤ mx1 (1 - (d - c)) := by unfold mx1; split <;> omega
    refine ⟨l1, l2, by decide, by decide, rfl, ?_, fun i' j' i1 j1 e => ⟨i' - mx1 (1 + (d - c)), ?_, ?_, ?_⟩⟩
    · show c + mx1 (1 + (d - c)) * 1 - mx1 (1 - (d - c)) * 1 = d
      omega
    all_goals
      have e : c + i' * 1 - j' * 1 = d := e
      omega
  · have sp : apS c h 1 = -h := by unfold apS; omega
    have n : apN c h (2000 - h) 1 = 2001 := by
      unfold apN
      rw [sp, rs_pos (by decide), if_pos (by omega)]
      omega
    have := step_ap (wOne c h) (wOne 0 (2000 - h))
    rw [← this, hg, he]
    show stepTo (apS c h 1) 1 (apN c h (2000 - h) 1) = _
    rw [sp, n]
    unfold stepTo upTo
    refine List.map_congr_left fun k _ => ?_
    rw [Int.mul_one]
  · unfold hits
    rw [List.filter_eq_self.mpr]
    · rfl
    · rintro ⟨i, j⟩ m
      have := allP_mem.mp m
      unfold inr ap
      show (decide (-h ≤ c + i * 1 - 0 - j * 1) && decide (c + i * 1 - 0 - j * 1 ≤ 2000 - h)) = true
      rw [Bool.and_eq_true, decide_eq_true_eq, decide_eq_true_eq]
      simp only at this
      omega
abbrev wdB : MS := (sSeq (sSet 9 (b2 fSub (gVar 2) (gVar 5)))
 (sApp 1 (cA mkTup (aC (gVar 2) (aC (cA fMax (aC (cK (.int 1)) (aC (b2 fAdd (cK (.int 1)) (gVar 9)) aN))) (aC (cA fMax (aC (cK (.int 1)) (aC (b2 fSub (cK (.int 1)) (gVar 9)) aN))) (aC (cK (.int 1)) (aC (cK (.int 1)) aN))))))))
theorem wd_loop {c : Int} {x0 x3 x4 x6 x7 x8 : Sl} : ∀ (ds : List Int) (l : List D) (x2 x9 : Sl), l.length + ds.length < 1000000 → ∃ y2 y9,
    loopL (tgN 2) wdB (ds.map .int) [x0, .own l, x2, x3, x4, .dat (.int c), x6, x7, x8, x9] = okS .nx [x0, .own (l ++ ds.map fun d => f5 d (mx1 (1 + (d - c))) (mx1 (1 - (d - c))) 1 1), y2, x3, x4, .dat (.int c), x6, x7, x8, y9]
  | [], l, x2, x9, _ => ⟨x2, x9, by simp⟩
  | d :: ds, l, x2, x9, hl => by
    obtain ⟨y2, y9, e⟩ := wd_loop (c := c) (x0 := x0) (x3 := x3) (x4 := x4) (x6 := x6) (x7 := x7) (x8 := x8) ds (l ++ [f5 d (mx1 (1 + (d - c))) (mx1 (1 - (d - c))) 1 1]) (.dat (.int d)) (.dat (.int (d - c))) (by simp at hl ⊢; omega)
    refine ⟨y2, y9, ?_⟩
    rw [List.map_cons, x_loopN]
    simp at hl
    unfold wdB at e ⊢
    simp only [x_seq, x_set, x_b2, gVar0, gVarS, List.set_cons_succ, List.set_cons_zero, bnd_ret, o_sub, bndS_ret, x_put, seqS_nx]
    rw [x_app (ds := l) (d := f5 d (mx1 (1 + (d - c))) (mx1 (1 - (d - c))) 1 1) rfl (by
      simp only [x_b2, x_cA, x_aC, x_aN, x_cK, gVar0, gVarS, bnd_ret, o_add, o_sub, o_max]
      exact o_mkT rfl (by simp)) rfl (by omega)]
    simp
    rw [e]
    simp
theorem x_frz_dat {i : Nat} {ρ : Rho} {d : D} (e : ρ[i]? = some (.dat d)) : sFrz i ρ = okS .nx ρ := by
  funext h
  unfold sFrz
  rw [e]
  rfl
theorem jS_case : jS "case" = true := by decide +kernel
theorem jS_wide : jS "wide" = true := by decide +kernel
theorem jS_fixed : jS "fixed" = true := by decide +kernel
theorem just_wide : m__law_just [hd 2 (.str "wide"), .tuple [.str "case", .str "wide", .bool true, .bool false]] = ret (.bool true) :=
  just_self (d := hd 2 (.str "wide")) (n := 3) (by simp [J, hd, kd, jS_case, jS_wide]) (by decide) (by simp [sz, szA, hd])
theorem just_fixed : m__law_just [hd 2 (.str "fixed"), .tuple [.str "case", .str "fixed", .bool true, .bool false]] = ret (.bool true) :=
  just_self (d := hd 2 (.str "fixed")) (n := 3) (by simp [J, hd, kd, jS_case, jS_fixed]) (by decide) (by simp [sz, szA, hd])
theorem wide_row {c h : Int} : Bt.d (wOne c h) = .tuple [.str "fixed", .int c, .int 1, .int h] := rfl
theorem mkT4 (w : Str) (a b c : Int) : opA mkTup [.str w, .int a, .int b, .int c] = ret (.tuple [.str w, .int a, .int b, .int c]) := rfl
theorem wide_right : Ends (m__law_wide_right [tok]) fun d => d = .bool true := by
  rw [is__law_wide_right, s__law_wide_right]
  refine Ends.endB ?_
  refine seq_ends (Q := fun r => ∃ c h, 0 ≤ c ∧ c < 30 ∧ 970 ≤ h ∧ h < 1000 ∧ r = [.dat tok, .no, .no, .no, .no, .dat (.int c), .dat (.int h), .no, .no, .no]) ?_ ?_
  · simp only [x_par, x_b2, x_cA, x_aC, x_aN, gVar0, gVarS, bnd_ret, x_cM, x_cK, bndS_bnd, bnd_assoc]
    refine EndsS.bnd (draw 30 (by decide)) ?_
    rintro _ ⟨r, rfl, h0, h1⟩
    simp only [bndS_ret, bnd_ret, bndS_bnd, bnd_assoc]
    refine EndsS.bnd (draw 30 (by decide)) ?_
    rintro _ ⟨r2, rfl, h2, h3⟩
    simp only [o_add, bndS_ret, bnd_ret, par2_is]
    exact EndsS.ok ⟨rfl, r, 970 + r2, h0, h1, by omega, by omega, rfl⟩
  rintro _ ⟨c, h, c0, c1, h0, h1, rfl⟩
  obtain ⟨pr, fo, du, ht, ha, hb⟩ := wide_ok c0 c1 h0 h1
  rw [seq_to (ρ' := [.dat tok, .no, .no, .no, .no, .dat (.int c), .dat (.int h), .dat (wOne c h).d, .dat (wOne 0 (2000 - h)).d, .no]) (by simp [mkT4, wide_row])]
  rw [seq_to (ρ' := [.dat tok, .own [], .no, .no, .no, .dat (.int c), .dat (.int h), .dat (wOne c h).d, .dat (wOne 0 (2000 - h)).d, .no]) (by simp)]
  obtain ⟨y2, y9, el⟩ := wd_loop (c := c) (x0 := .dat tok) (x3 := .no) (x4 := .no) (x6 := .dat (.int h)) (x7 := .dat (wOne c h).d) (x8 := .dat (wOne 0 (2000 - h)).d) (dsI (wOne c h) (wOne 0 (2000 - h))) [] .no .no (by have := pr.dl; simp; omega)
  have efl : ((dsI (wOne c h) (wOne 0 (2000 - h))).map fun d => f5 d (mx1 (1 + (d - c))) (mx1 (1 - (d - c))) 1 1) = famL (wOne c h) (wOne 0 (2000 - h)) (fun d => mx1 (1 + (d - c))) (fun d => mx1 (1 - (d - c))) := by
    unfold famL
    rw [ha, hb]
  rw [du, List.nil_append, efl] at el
  have rg : rangeOf [.int (-h), .int (2001 - h)] = some (upTo (-h) 2001) := by
    rw [range_2 (by omega) (by omega) (by omega) (by omega), show (2001 - h - -h).toNat = 2001 by omega]
  generalize hF : famL (wOne c h) (wOne 0 (2000 - h)) (fun d => mx1 (1 + (d - c))) (fun d => mx1 (1 - (d - c))) = F at *
  rw [seq_to (ρ' := [.dat tok, .own F, y2, .no, .no, .dat (.int c), .dat (.int h), .dat (wOne c h).d, .dat (wOne 0 (2000 - h)).d, y9]) (by
    simp only [x_forR, x_aC, x_aN, x_cK, x_vNeg, x_b2, gVar0, gVarS, bnd_ret, negD_int, o_sub, bndS_ret, rg, orStuck_some]
    exact el)]
  rw [seq_to (x_frz_own rfl)]
  have z0 := told0 (k := .int 0) rfl (met_families ((wOne c h).check pr.go) ((wOne 0 (2000 - h)).check pr.gt) pr (FI := fun d => mx1 (1 + (d - c))) (FJ := fun d => mx1 (1 - (d - c))) (by
    obtain ⟨GI, GJ, eg, g⟩ := families_of pr
    rw [eg, famL_ext g fo]))
  have z3 := told3 (k := .int 7) rfl (met_number ((wOne c h).check pr.go) ((wOne 0 (2000 - h)).check pr.gt) pr (FI := fun d => mx1 (1 + (d - c))) (FJ := fun d => mx1 (1 - (d - c))) (k := 7) (by decide) (by
    obtain ⟨GI, GJ, eg, g⟩ := families_of pr
    rw [eg, famL_ext g fo]))
  have w49 := wS_hits pr fo 7
  rw [ht] at w49
  have w49' : wS (fun d => mx1 (1 + (d - c))) (fun d => mx1 (1 - (d - c))) (bI (wOne c h) (wOne 0 (2000 - h))) (aI (wOne c h) (wOne 0 (2000 - h))) 7 (dsI (wOne c h) (wOne 0 (2000 - h))) = 49 := w49
  rw [w49'] at z3
  have jf := just_fams pr fo
  rw [hF] at z0 jf
  have mkF : opA mkTup [.str "told", .tuple F] = ret (td (.tuple F)) := by rw [mkT]; simp [td]
  have mk49 : opA mkTup [.str "told", .int 49] = ret (td (.int 49)) := rfl
  have j49 : m__law_just [td (.int 49), td (.int 49)] = ret (.bool true) := just_int (by decide)
  refine seq_ends (Q := fun r => r = [.dat tok, .dat (.list F), y2, .no, .no, .dat (.int c), .dat (.int h), .dat (wOne c h).d, .dat (wOne 0 (2000 - h)).d, y9]) ?_ ?_
  · simp only [List.set_cons_succ, List.set_cons_zero, x_if, x_tV, x_b2, x_cM, x_aC, x_aN, x_cK, gVar0, gVarS, bnd_ret, bndS_bnd, bnd_assoc]
    refine EndsS.bnd (draw 6 (by decide)) ?_
    rintro _ ⟨r, rfl, r0, r1⟩
    simp only [bnd_ret, o_eqI, bndS_ret, asB_bool]
    by_cases q : r = 5
    · simp only [q, show ((5 : Int) == 5) = true from rfl, if_true]
      rw [seq_to (x_frz_dat rfl)]
      rw [seq_to (ρ' := [.dat tok, .dat (.list F), y2, .no, .no, .dat (.int c), .dat (.int h), .dat (wOne c h).d, .dat (wOne 0 (2000 - h)).d, y9]) (by simp [z0, mkF, jf])]
      simp only [x_if, x_tNo, x_tV, x_cM, x_cA, x_aC, x_aN, x_cK, gVar0, gVarS, bnd_ret, z3, mk49, j49, asB_bool, bndS_ret, Bool.not_true, Bool.false_eq_true, if_false, x_skip]
      exact EndsS.ok ⟨rfl, rfl⟩
    · have q' : (r == 5) = false := by simpa using q
      simp only [q', Bool.false_eq_true, if_false, x_skip]
      exact EndsS.ok ⟨rfl, rfl⟩
  rintro _ rfl
  have wg : (wOne 0 (2001 - h)).G := ⟨by show (0 : Int) ≤ 0; decide, by show (1 : Int) ≤ 1; decide, by show 0 ≤ 2001 - h; omega, (fun e => by cases e), by show (0 : Int).natAbs < 2 ^ 60; decide, by show (1 : Int).natAbs < 2 ^ 60; decide, by show (2001 - h).natAbs < 2 ^ 60; omega⟩
  have nw : ¬ (wOne c h).w + (wOne 0 (2001 - h)).w ≤ 2000 := by show ¬ h + (2001 - h) ≤ 2000; omega
  have cx := (wOne c h).check pr.go
  have cw := (wOne 0 (2001 - h)).check wg
  have v0 := heard0 (k := .int 5) (by decide) rfl (families_wd cx cw rfl rfl nw)
  have v1 := heard1 (k := .int 5) (by decide) rfl (first_wd cx cw rfl rfl nw)
  have v3 := heard3 (k := .int 5) (by decide) rfl (number_wd cx cw rfl rfl nw (k := 5) (by decide))
  have ev : evP (wOne c h) (wOne 0 (2001 - h)) = true := by
    unfold evP
    have : gI (wOne c h) (wOne 0 (2001 - h)) = 1 := gI_one ..
    rw [this, Bool.or_eq_true, decide_eq_true_eq]
    left
    show (c - 0) % 1 ≤ 2001 - h
    omega
  have v2 := told2 (k := .int 0) rfl (ever_meet cx cw (by show (1 : Int) ≤ 1; decide) rfl rfl)
  rw [ev] at v2
  have mkB : opA mkTup [.str "told", .bool true] = ret (td (.bool true)) := rfl
  rw [seq_to (ρ' := [.dat tok, .dat (.list F), y2, .dat (wOne 0 (2001 - h)).d, .no, .dat (.int c), .dat (.int h), .dat (wOne c h).d, .dat (wOne 0 (2000 - h)).d, y9]) (by simp [mkT4, wide_row])]
  rw [seq_to (ρ' := [.dat tok, .dat (.list F), y2, .dat (wOne 0 (2001 - h)).d, .dat (.int 3), .dat (.int c), .dat (.int h), .dat (wOne c h).d, .dat (wOne 0 (2000 - h)).d, y9]) (by simp [mkT, v0, v1, v3, just_wide])]
  simp only [x_ret, x_cM, x_cA, x_aC, x_aN, x_cK, gVar0, gVarS, bnd_ret, bndS_ret, v2, mkB, just_bool]
  exact EndsS.ok ⟨_, rfl, rfl⟩
end L2.AR.T
set_option Elab.async false
set_option linter.all false
set_option maxRecDepth 100000
set_option maxHeartbeats 4000000
namespace L2.AR.T
open PySem PySem.Spec PyProof.Rows
/-! ### what is refused -/
structure Bad (d : D) : Prop where
  ok : okP 12 d = true
  pl : plainD d = d
  no : m_are_beats [d] = ret (.bool false)
  tk : isTok d = false
  j : J 5 (hd 1 d) = true
  z : sz (hd 1 d) ≤ 16777216
theorem Bad.check {d : D} (b : Bad d) : m_check_beats [d] = fail 1 d := by
  have e : m_plain_form [d] = ret d := by
    rw [is_plain_form, s_plain_form]
    simp [m_told_plainly, m_plain b.ok, b.pl]
  rw [is_check_beats, s_check_beats]
  simp [e, b.no, m_told_plainly, m_plain b.ok, b.pl, b.tk]
/-- the first row of the pair that is bad is it -/
def Fst (d x y : D) : Prop := x = d ∨ (∃ b : Bt, b.G ∧ x = b.d) ∧ y = d
theorem Bad.h {d x y : D} (b : Bad d) (f : Fst d x y) {w : Int} (w0 : 0 ≤ w) (w1 : w < 4) {k : D} : m__law_heard_beats [.int w, x, y, k] = ret (hd 1 d) := by
  have : w = 0 ∨ w = 1 ∨ w = 2 ∨ w = 3 := by omega
  rcases f with rfl | ⟨⟨g, gg, rfl⟩, rfl⟩
  · rcases this with rfl | rfl | rfl | rfl
    · exact heard0 (by decide) b.tk (by rw [is_met_families, s_met_families]; simp [b.check])
    · exact heard1 (by decide) b.tk (by rw [is_first_met, s_first_met]; simp [b.check])
    · exact heard2 (by decide) b.tk (by rw [is_ever_meet, s_ever_meet]; simp [b.check])
    · exact heard3 (by decide) b.tk (by rw [is_met_number, s_met_number]; simp [b.check])
  · rcases this with rfl | rfl | rfl | rfl
    · exact heard0 (by decide) b.tk (by rw [is_met_families, s_met_families]; simp [b.check, g.check gg])
    · exact heard1 (by decide) b.tk (by rw [is_first_met, s_first_met]; simp [b.check, g.check gg])
    · exact heard2 (by decide) b.tk (by rw [is_ever_meet, s_ever_meet]; simp [b.check, g.check gg])
    · exact heard3 (by decide) b.tk (by rw [is_met_number, s_met_number]; simp [b.check, g.check gg])
theorem Bad.just {d : D} (b : Bad d) : m__law_just [hd 1 d, .tuple [.str "bounds", d, .bool true, .bool false]] = ret (.bool true) := just_self b.j (by decide) b.z
def bads : List D := [.none, .int 7, .str "fixed", .tuple [.str "fixed", .int 1, .int 2], .tuple [.str "fixed", .int (-1), .int 2, .int 0], .tuple [.str "fixed", .int 0, .int 0, .int 1],
  .tuple [.str "fixed", .int 0, .int 1, .int (-1)], .tuple [.str "drift", .int 0, .int 3, .int 2], .tuple [.str "fixt", .int 0, .int 1, .int 0], .tuple [.str "fixed", .bool true, .int 1, .int 0],
  .tuple [.str "fixed", .int 0, .int 1, .int 0, .int 1], .tuple [.str "drift", .int 0, .int 1, .none], .tuple []]
theorem in_t : op2 (fIn true) (.str "fixt") (.tuple [.str "fixed", .str "drift"]) = ret (.bool true) := rfl
theorem isi_str (x : Str) : m_is_int [.str x] = ret (.bool false) := by rw [is_is_int, s_is_int]; simp
theorem isi_none : m_is_int [.none] = ret (.bool false) := by rw [is_is_int, s_is_int]; simp
theorem isi_bool (x : Bool) : m_is_int [.bool x] = ret (.bool false) := by rw [is_is_int, s_is_int]; simp
theorem isi_tup (x : List D) : m_is_int [.tuple x] = ret (.bool false) := by rw [is_is_int, s_is_int]; simp
theorem bads_bad : ∀ d ∈ bads, Bad d := by
  intro d m
  simp only [bads, List.mem_cons, List.not_mem_nil, or_false] at m
  have jf : jS "fixed" = true := by decide +kernel
  have jd : jS "drift" = true := by decide +kernel
  have jF : jS "fixt" = true := by decide +kernel
  have jb : jS "bounds" = true := by decide +kernel
  have i0 : jI 0 = true := by decide
  have i1 : jI 1 = true := by decide
  have i2 : jI 2 = true := by decide
  have i3 : jI 3 = true := by decide
  have i7 : jI 7 = true := by decide
  have im : jI (-1) = true := by decide
  rcases m with rfl | rfl | rfl | rfl | rfl | rfl | rfl | rfl | rfl | rfl | rfl | rfl | rfl <;>
    exact ⟨by simp [okP], by simp [plainD, plainL], by
      rw [is_are_beats, s_are_beats]
      simp [mkT, ix4_0, ix4_1, ix4_2, ix4_3, sl4_1, ds_ne, sd_ne, in_f, in_d, in_t, o_neI, isi_int, isi_str, isi_none, isi_bool, isi_tup], rfl,
      by simp [J, hd, kd, jf, jd, jF, jb, i0, i1, i2, i3, i7, im], by simp [sz, szA, hd]⟩
def goodB : Bt := ⟨false, 0, 2, 1⟩
def wideB : Bt := ⟨false, 1, 3, 2500⟩
def driftB : Bt := ⟨true, 0, 2, 3⟩
theorem goodB_G : goodB.G := ⟨by decide, by decide, by decide, by decide, by show (0 : Int).natAbs < 2 ^ 60; decide, by show (2 : Int).natAbs < 2 ^ 60; decide, by show (1 : Int).natAbs < 2 ^ 60; decide⟩
theorem wideB_G : wideB.G := ⟨by decide, by decide, by decide, by decide, by show (1 : Int).natAbs < 2 ^ 60; decide, by show (3 : Int).natAbs < 2 ^ 60; decide, by show (2500 : Int).natAbs < 2 ^ 60; decide⟩
theorem driftB_G : driftB.G := ⟨by decide, by decide, by decide, by decide, by show (0 : Int).natAbs < 2 ^ 60; decide, by show (2 : Int).natAbs < 2 ^ 60; decide, by show (3 : Int).natAbs < 2 ^ 60; decide⟩
theorem pickB {r : Int} (h0 : 0 ≤ r) (h1 : r < 13) : ∃ d ∈ bads, op2 fIx (.tuple bads) (.int r) = ret d := by
  obtain ⟨n, rfl⟩ : ∃ n : Nat, r = n := ⟨r.toNat, by omega⟩
  have l : n < bads.length := by show n < 13; omega
  exact ⟨bads[n], List.getElem_mem l, o_ixT (atI_nat (List.getElem?_eq_getElem l))⟩
abbrev rfB : MS := (sSeq (sSet 8 (b2 fIx (gVar 1) (gVar 7)))
 (sSeq (sSet 9 (cA mkTup (aC (cK (.str "bounds")) (aC (gVar 8) (aC (cK (.bool true)) (aC (cK (.bool false)) aN))))))
 (sSeq (sSet 10 (cA mkTup (aC (cA mkTup (aC (gVar 8) (aC (b2 fIx (gVar 1) (b2 fMod (cA fInt (aC (b2 fAdd (gVar 7) (cK (.int 1))) aN)) (cA fLen (aC (gVar 1) aN)))) aN))) (aC (cA mkTup (aC (gVar 4) (aC (gVar 8) aN))) (aC (cA mkTup (aC (gVar 6) (aC (gVar 8) aN))) aN)))))
 (sSeq (sAsg (b2 fIx (gVar 10) (b2 fMod (cA fInt (aC (b2 fAdd (gVar 7) (gVar 2)) aN)) (cK (.int 3)))) (tgT [(tgN 11), (tgN 12)]))
 (sIf (tNo (tV (cM m__law_just (aC (cM m__law_heard_beats (aC (gVar 2) (aC (gVar 11) (aC (gVar 12) (aC (vNeg (cK (.int 1))) aN))))) (aC (gVar 9) aN)))))
 (sRet (cK (.bool false)))
 sSkip)))))
theorem pick3 {a b c : D} {r : Int} (h0 : 0 ≤ r) (h1 : r < 3) : op2 fIx (.tuple [a, b, c]) (.int r) = ret a ∨ op2 fIx (.tuple [a, b, c]) (.int r) = ret b ∨ op2 fIx (.tuple [a, b, c]) (.int r) = ret c := by
  have : r = 0 ∨ r = 1 ∨ r = 2 := by omega
  rcases this with rfl | rfl | rfl
  · exact .inl rfl
  · exact .inr (.inl rfl)
  · exact .inr (.inr rfl)
theorem rf_loop {w : Int} (w0 : 0 ≤ w) (w1 : w < 4) {x0 x3 x5 : Sl} : ∀ (n : Nat) (s : Int) (x7 x8 x9 x10 x11 x12 : Sl), 0 ≤ s → s + n = 13 → ∃ y7 y8 y9 y10 y11 y12,
    loopL (tgN 7) rfB (upTo s n) [x0, .dat (.tuple bads), .dat (.int w), x3, .dat goodB.d, x5, .dat driftB.d, x7, x8, x9, x10, x11, x12] = okS .nx [x0, .dat (.tuple bads), .dat (.int w), x3, .dat goodB.d, x5, .dat driftB.d, y7, y8, y9, y10, y11, y12]
  | 0, s, x7, x8, x9, x10, x11, x12, _, _ => ⟨x7, x8, x9, x10, x11, x12, rfl⟩
  | n + 1, s, x7, x8, x9, x10, x11, x12, s0, se => by
    obtain ⟨d, m, e⟩ := pickB (r := s) s0 (by push_cast at se; omega)
    obtain ⟨d2, m2, e2⟩ := pickB (r := (s + 1) % 13) (Int.emod_nonneg _ (by decide)) (Int.emod_lt_of_pos _ (by decide))
    have b := bads_bad d m
    have b2 := bads_bad d2 m2
    have q0 := Int.emod_nonneg (s + w) (show (3 : Int) ≠ 0 by decide)
    have q1 := Int.emod_lt_of_pos (s + w) (show (0 : Int) < 3 by decide)
    have tg : isTok goodB.d = false := rfl
    have td' : isTok driftB.d = false := rfl
    have bl : ((bads.length : Nat) : Int) = 13 := rfl
    have m13 : ∀ x, op2 fMod (.int x) (.int 13) = ret (.int (x % 13)) := fun x => o_mod (by decide)
    have m3 : ∀ x, op2 fMod (.int x) (.int 3) = ret (.int (x % 3)) := fun x => o_mod (by decide)
    have key : ∃ x y, Fst d x y ∧ op2 fIx (.tuple [.tuple [d, d2], .tuple [goodB.d, d], .tuple [driftB.d, d]]) (.int ((s + w) % 3)) = ret (.tuple [x, y]) := by
      rcases pick3 (a := .tuple [d, d2]) (b := .tuple [goodB.d, d]) (c := .tuple [driftB.d, d]) q0 q1 with z | z | z
      · exact ⟨d, d2, .inl rfl, z⟩
      · exact ⟨goodB.d, d, .inr ⟨⟨goodB, goodB_G, rfl⟩, rfl⟩, z⟩
      · exact ⟨driftB.d, d, .inr ⟨⟨driftB, driftB_G, rfl⟩, rfl⟩, z⟩
    obtain ⟨x, y, fs, ek⟩ := key
    obtain ⟨y7, y8, y9, y10, y11, y12, el⟩ := rf_loop w0 w1 (x0 := x0) (x3 := x3) (x5 := x5) n (s + 1) (.dat (.int s)) (.dat d) (.dat (.tuple [.str "bounds", d, .bool true, .bool false])) (.dat (.tuple [.tuple [d, d2], .tuple [goodB.d, d], .tuple [driftB.d, d]])) (.dat x) (.dat y) (by omega) (by push_cast at se; omega)
    refine ⟨y7, y8, y9, y10, y11, y12, ?_⟩
    have hh := b.h fs w0 w1 (k := .int (-1))
    rw [upTo_succ, x_loopN]
    simp [e, e2, mkT, b.tk, b2.tk, tg, td', bl, m13, m3, ek, hh, b.just]
    exact el
abbrev fxB : MS := (sIf (tNo (tV (cM m__law_just (aC (cM m__law_heard_beats (aC (gVar 2) (aC (gVar 11) (aC (gVar 12) (aC (cK (.int 3)) aN))))) (aC (cA mkTup (aC (cK (.str "case")) (aC (cK (.str "fixed")) (aC (cK (.bool true)) (aC (cK (.bool false)) aN))))) aN)))))
 (sRet (cK (.bool false)))
 sSkip)
theorem fx_heard {o t : Bt} (go : o.G) (gt : t.G) (h : (!o.dr && !t.dr) = false) {w : Int} (w0 : 0 ≤ w) (w1 : w < 4) : m__law_heard_beats [.int w, o.d, t.d, .int 3] = ret (hd 2 (.str "fixed")) := by
  have : w = 0 ∨ w = 1 ∨ w = 2 ∨ w = 3 := by omega
  have co := o.check go
  have ct := t.check gt
  rcases this with rfl | rfl | rfl | rfl
  · exact heard0 (by decide) rfl (families_fx co ct h)
  · exact heard1 (by decide) rfl (first_fx co ct h)
  · exact heard2 (by decide) rfl (ever_fx co ct h)
  · exact heard3 (by decide) rfl (number_fx co ct h (by decide))
theorem lp2 (b : MS) (x1 x2 : D) (ds : List D) (ρ : Rho) : loopL (tgT [tgN 11, tgN 12]) b (.tuple [x1, x2] :: ds) ρ = turnS (b ((ρ.set 11 (.dat x1)).set 12 (.dat x2))) (loopL (tgT [tgN 11, tgN 12]) b ds) := x_loop1 rfl
abbrev whB : MS := (sSeq (sForR (aC (cA fLen (aC (gVar 1) aN)) aN) (tgN 7) rfB)
 (sFor (cA mkTup (aC (cA mkTup (aC (gVar 6) (aC (gVar 5) aN))) (aC (cA mkTup (aC (gVar 5) (aC (gVar 6) aN))) (aC (cA mkTup (aC (gVar 6) (aC (gVar 6) aN))) aN)))) (tgT [(tgN 11), (tgN 12)]) fxB))
theorem wh_loop {x0 x3 : Sl} : ∀ (n : Nat) (s : Int) (x2 x7 x8 x9 x10 x11 x12 : Sl), 0 ≤ s → s + n = 4 → ∃ y2 y7 y8 y9 y10 y11 y12,
    loopL (tgN 2) whB (upTo s n) [x0, .dat (.tuple bads), x2, x3, .dat goodB.d, .dat wideB.d, .dat driftB.d, x7, x8, x9, x10, x11, x12] = okS .nx [x0, .dat (.tuple bads), y2, x3, .dat goodB.d, .dat wideB.d, .dat driftB.d, y7, y8, y9, y10, y11, y12]
  | 0, s, x2, x7, x8, x9, x10, x11, x12, _, _ => ⟨x2, x7, x8, x9, x10, x11, x12, rfl⟩
  | n + 1, s, x2, x7, x8, x9, x10, x11, x12, s0, se => by
    have s1 : s < 4 := by push_cast at se; omega
    obtain ⟨y7, y8, y9, y10, y11, y12, e1⟩ := rf_loop s0 s1 (x0 := x0) (x3 := x3) (x5 := .dat wideB.d) 13 0 x7 x8 x9 x10 x11 x12 (by omega) (by omega)
    obtain ⟨z2, z7, z8, z9, z10, z11, z12, e⟩ := wh_loop (x0 := x0) (x3 := x3) n (s + 1) (.dat (.int s)) y7 y8 y9 y10 (.dat driftB.d) (.dat driftB.d) (by omega) (by push_cast at se; omega)
    refine ⟨z2, z7, z8, z9, z10, z11, z12, ?_⟩
    have rg : rangeOf [.int ((bads.length : Nat) : Int)] = some (upTo 0 13) := rfl
    have h1 := fx_heard driftB_G wideB_G rfl s0 s1
    have h2 := fx_heard wideB_G driftB_G rfl s0 s1
    have h3 := fx_heard driftB_G driftB_G rfl s0 s1
    have tw : isTok wideB.d = false := rfl
    have td' : isTok driftB.d = false := rfl
    rw [upTo_succ, x_loopN]
    unfold whB
    rw [seq_to (ρ' := [x0, .dat (.tuple bads), .dat (.int s), x3, .dat goodB.d, .dat wideB.d, .dat driftB.d, y7, y8, y9, y10, y11, y12]) (by
      simp only [x_forR, x_cA, x_aC, x_aN, gVar0, gVarS, List.set_cons_succ, List.set_cons_zero, bnd_ret, o_lenT, bndS_ret, rg, orStuck_some]
      exact e1)]
    simp [mkT, tw, td', lp2, h1, h2, h3, just_fixed]
    exact e
structure NB (d : D) : Prop where
  n0 : m_check_number [d, .int 0] = fail 0 d
  tk : isTok d = false
  j : J 5 (hd 0 d) = true
  z : sz (hd 0 d) ≤ 16777216
theorem NB.just {d : D} (b : NB d) : m__law_just [hd 0 d, .tuple [.str "number", d, .bool true, .bool false]] = ret (.bool true) := just_self b.j (by decide) b.z
theorem NB.h {d : D} (b : NB d) {o t : Bt} (go : o.G) (gt : t.G) : m__law_heard_beats [.int 3, o.d, t.d, d] = ret (hd 0 d) := heard3 (by decide) b.tk (number_no (o.check go) (t.check gt) b.n0)
def nums : List D := [.int (-1), .bool true, .none, .str "3"]
theorem no_int {d : D} {l : Int} (ok : okP 12 d = true) (pl : plainD d = d) (tk : isTok d = false) (e : m_is_int [d] = ret (.bool false)) : m_check_number [d, .int l] = fail 0 d := by
  rw [is_check_number, s_check_number]
  simp [e, m_told_plainly, m_plain ok, pl, tk]
theorem no_low {i l : Int} (h : i < l) : m_check_number [.int i, .int l] = fail 0 (.int i) := by
  have ok : okP 12 (.int i) = true := by simp [okP]
  have pl : plainD (.int i) = .int i := by simp [plainD]
  rw [is_check_number, s_check_number]
  simp [isi_int, h, m_told_plainly, m_plain ok, pl]
theorem nums_nb : ∀ d ∈ nums, NB d := by
  intro d m
  simp only [nums, List.mem_cons, List.not_mem_nil, or_false] at m
  have jn : jS "number" = true := by decide +kernel
  have j3 : jS "3" = true := by decide +kernel
  have im : jI (-1) = true := by decide
  rcases m with rfl | rfl | rfl | rfl
  · exact ⟨no_low (by decide), rfl, by simp [J, hd, kd, jn, im], by simp [sz, szA, hd]⟩
  · exact ⟨no_int (by simp [okP]) (by simp [plainD]) rfl (isi_bool _), rfl, by simp [J, hd, kd, jn], by simp [sz, szA, hd]⟩
  · exact ⟨no_int (by simp [okP]) (by simp [plainD]) rfl isi_none, rfl, by simp [J, hd, kd, jn], by simp [sz, szA, hd]⟩
  · exact ⟨no_int (by simp [okP]) (by simp [plainD]) rfl (isi_str _), rfl, by simp [J, hd, kd, jn, j3], by simp [sz, szA, hd]⟩
abbrev nmB : MS := (sFor (cA mkTup (aC (cA mkTup (aC (gVar 4) (aC (gVar 4) aN))) (aC (cA mkTup (aC (gVar 6) (aC (gVar 5) aN))) (aC (cA mkTup (aC (gVar 5) (aC (gVar 5) aN))) aN)))) (tgT [(tgN 11), (tgN 12)])
 (sIf (tNo (tV (cM m__law_just (aC (cM m__law_heard_beats (aC (cK (.int 3)) (aC (gVar 11) (aC (gVar 12) (aC (gVar 3) aN))))) (aC (cA mkTup (aC (cK (.str "number")) (aC (gVar 3) (aC (cK (.bool true)) (aC (cK (.bool false)) aN))))) aN)))))
 (sRet (cK (.bool false)))
 sSkip))
theorem nm_loop {x0 x1 x2 : Sl} : ∀ (ds : List D), (∀ d ∈ ds, NB d) → ∀ (x3 x7 x8 x9 x10 x11 x12 : Sl), ∃ y3 y11 y12,
    loopL (tgN 3) nmB ds [x0, x1, x2, x3, .dat goodB.d, .dat wideB.d, .dat driftB.d, x7, x8, x9, x10, x11, x12] = okS .nx [x0, x1, x2, y3, .dat goodB.d, .dat wideB.d, .dat driftB.d, x7, x8, x9, x10, y11, y12]
  | [], _, x3, x7, x8, x9, x10, x11, x12 => ⟨x3, x11, x12, rfl⟩
  | d :: ds, h, x3, x7, x8, x9, x10, x11, x12 => by
    have b := h d (by simp)
    obtain ⟨y3, y11, y12, e⟩ := nm_loop (x0 := x0) (x1 := x1) (x2 := x2) ds (fun x m => h x (by simp [m])) (.dat d) x7 x8 x9 x10 (.dat wideB.d) (.dat wideB.d)
    refine ⟨y3, y11, y12, ?_⟩
    have tw : isTok wideB.d = false := rfl
    have td' : isTok driftB.d = false := rfl
    have tg : isTok goodB.d = false := rfl
    have h1 := b.h goodB_G goodB_G
    have h2 := b.h driftB_G wideB_G
    have h3 := b.h wideB_G wideB_G
    rw [x_loopN]
    simp [mkT, tw, td', tg, b.tk, lp2, h1, h2, h3, b.just]
    exact e
theorem refused : m__law_refused [tok] = ret (.bool true) := by
  obtain ⟨y2, y7, y8, y9, y10, y11, y12, e1⟩ := wh_loop (x0 := .dat tok) (x3 := .no) 4 0 .no .no .no .no .no .no .no (by omega) (by omega)
  obtain ⟨z3, z11, z12, e2⟩ := nm_loop (x0 := .dat tok) (x1 := .dat (.tuple bads)) (x2 := y2) nums nums_nb .no y7 y8 y9 y10 y11 y12
  have rg : rangeOf [.int 4] = some (upTo 0 4) := rfl
  rw [is__law_refused, s__law_refused]
  rw [seq_to (ρ' := [.dat tok, .no, .no, .no, .dat goodB.d, .dat wideB.d, .dat driftB.d, .no, .no, .no, .no, .no, .no]) (by simp [mkT, goodB, wideB, driftB, Bt.d, bt, wd])]
  rw [seq_to (ρ' := [.dat tok, .dat (.tuple [.none, .int 7, .str "fixed", .tuple [.str "fixed", .int 1, .int 2], .tuple [.str "fixed", .int (-1), .int 2, .int 0], .tuple [.str "fixed", .int 0, .int 0, .int 1],
  .tuple [.str "fixed", .int 0, .int 1, .int (-1)], .tuple [.str "drift", .int 0, .int 3, .int 2]]), .no, .no, .dat goodB.d, .dat wideB.d, .dat driftB.d, .no, .no, .no, .no, .no, .no]) (by simp [mkT])]
  rw [seq_to (ρ' := [.dat tok, .dat (.tuple bads), .no, .no, .dat goodB.d, .dat wideB.d, .dat driftB.d, .no, .no, .no, .no, .no, .no]) (by simp [mkT, bads])]
  rw [seq_to (ρ' := [.dat tok, .dat (.tuple bads), y2, .no, .dat goodB.d, .dat wideB.d, .dat driftB.d, y7, y8, y9, y10, y11, y12]) (by
    simp only [x_forR, x_aC, x_aN, x_cK, bnd_ret, bndS_ret, rg, orStuck_some]
    exact e1)]
  rw [seq_to (ρ' := [.dat tok, .dat (.tuple bads), y2, z3, .dat goodB.d, .dat wideB.d, .dat driftB.d, y7, y8, y9, y10, z11, z12]) (by
    rw [x_for]
    have en : cA mkTup (aC (vNeg (cK (.int 1))) (aC (cK (.bool true)) (aC (cK .none) (aC (cK (.str "3")) aN)))) [.dat tok, .dat (.tuple bads), y2, .no, .dat goodB.d, .dat wideB.d, .dat driftB.d, y7, y8, y9, y10, y11, y12] = ret (.tuple nums) := by simp [mkT, nums]
    rw [en, bndS_ret, items_tuple, orStuck_some]
    exact e2)]
  have pr : Pr goodB goodB := by
    have l1 : aI goodB goodB ≤ goodB.p := Int.ediv_le_self _ (by decide)
    have l2 : bI goodB goodB ≤ goodB.p := Int.ediv_le_self _ (by decide)
    have : goodB.p = 2 := rfl
    exact ⟨goodB_G, goodB_G, rfl, rfl, by decide, by decide, by decide, by omega, by omega⟩
  obtain ⟨FI, FJ, ef, f⟩ := families_of pr
  have z := told3 (k := .int 0) rfl (met_number (goodB.check goodB_G) (goodB.check goodB_G) pr (k := 0) (by decide) ef)
  have w := wS_hits pr f 0
  have w' : wS FI FJ (bI goodB goodB) (aI goodB goodB) 0 (dsI goodB goodB) = 0 := w
  rw [w'] at z
  have mk0 : opA mkTup [.str "told", .int 0] = ret (td (.int 0)) := rfl
  have j0 : m__law_just [td (.int 0), td (.int 0)] = ret (.bool true) := just_int (by decide)
  simp [z, mk0, j0]
theorem law_true (row : List Int) (_ : GoodRow row) : ∃ ρ h, s_law [.no, .dat tok] ⟨row, 0⟩ = .ok (.rt (.bool true)) ρ h := by
  have key : EndsS (s_law [.no, .dat tok]) fun f _ => f = .rt (.bool true) := by
    rw [s_law]
    refine seq_ends (Q := fun r => r = [.no, .dat tok]) ?_ ?_
    · simp only [x_if, x_tOr, x_tNo, x_tV, x_cM, x_aC, x_aN, gVar0, gVarS, bnd_ret, bndS_bnd, bnd_assoc]
      refine EndsS.bnd small_right ?_
      rintro _ rfl
      simp only [asB_bool, bndS_ret, bnd_ret, Bool.not_true, Bool.false_eq_true, if_false, bndS_bnd, bnd_assoc]
      refine EndsS.bnd great_right ?_
      rintro _ rfl
      simp only [asB_bool, bndS_ret, bnd_ret, Bool.not_true, Bool.false_eq_true, if_false, x_skip]
      exact EndsS.ok ⟨rfl, rfl⟩
    rintro _ rfl
    simp only [x_ret, x_vAn, x_cM, x_aC, x_aN, gVar0, gVarS, bnd_ret, bndS_bnd, bnd_assoc]
    refine EndsS.bnd wide_right ?_
    rintro _ rfl
    simp only [asB_bool, bndS_ret, bnd_ret, if_true, refused]
    exact EndsS.ok rfl
  obtain ⟨f, ρ, h, e, rfl⟩ := key ⟨row, 0⟩
  exact ⟨ρ, h, e⟩
end L2.AR.T
set_option Elab.async false
set_option maxRecDepth 100000
set_option maxHeartbeats 0
open PySem PySem.W PyProof.Rows
open_top head for PySem.Challenge.rw_asinrealtime_k74_families_counted
set_option Elab.async false
set_option linter.all false
set_option maxRecDepth 100000
open PySem PySem.W PyProof.Rows
set_option maxHeartbeats 0 in
theorem PySem.Challenge.cw_asinrealtime_k74_families_counted_holds : PySem.Challenge.rw_asinrealtime_k74_families_counted.Holds := by
  refine head ?_
  k_fill
  refine L2.AR.walk_ofG (l := PySem.Challenge.rw_asinrealtime_k74_families_counted) (n := 63) (k := 20) (x := "script") (CX := fun w => L2.CX PySem.Challenge.rw_asinrealtime_k74_families_counted.prog w) (sp := fun w => L2.AR.spLaw _) rfl (by decide) rfl ⟨rfl, by decide, by decide⟩ (fun w h Y => PySem.W.kIn_of Y) ?F (fun _ _ a ns hl _ hS => ⟨a, ns, rfl, hS, hl, fun _ => rfl⟩) (fun _ _ _ _ _ h => by obtain ⟨_, _, _, _, _, _, _, _, _, _, _, _, z⟩ := h; exact z)
  case F =>
    intro w mg fa h KX G hmg
    refine' L2.AR.T.all_mk L2.AR.T.law_true KX G hmg ?a_told_plainly ?F_told_plainly ?a_is_int ?F_is_int ?a_plain_form ?F_plain_form ?a_check_number ?F_check_number ?a_are_beats ?F_are_beats ?a_check_beats ?F_check_beats ?a_are_fixed ?F_are_fixed ?a_are_narrow ?F_are_narrow ?a_ever_meet ?F_ever_meet ?a_inverse_of ?F_inverse_of ?a_family_of ?F_family_of ?a_families_of ?F_families_of ?a_met_families ?F_met_families ?a_pairs_within ?F_pairs_within ?a_met_number ?F_met_number ?a_first_of_families ?F_first_of_families ?a_first_met ?F_first_met ?a__law_hand ?F__law_hand ?a__law_draw ?F__law_draw ?a__law_just ?F__law_just ?a__law_common ?F__law_common ?a__law_small_row ?F__law_small_row ?a__law_families ?F__law_families ?a__law_many ?F__law_many ?a__law_tried ?F__law_tried ?a__law_heard_beats ?F__law_heard_beats ?a__law_two_right ?F__law_two_right ?a__law_small_right ?F__law_small_right ?a__law_great_right ?F__law_great_right ?a__law_wide_right ?F__law_wide_right ?a__law_refused ?F__law_refused ?a_law ?F_law ?aC_BadNumber ?aC_BadBounds ?aC_BadCase ?aC_ClockError ?ox_BadNumber ?ic_BadNumber ?ti_BadNumber ?FI_BadNumber ?no_BadNumber ?ga_BadNumber ?gg_BadNumber ?hd_BadNumber ?ha_BadNumber ?hm_BadNumber ?ox_BadBounds ?ic_BadBounds ?ti_BadBounds ?FI_BadBounds ?no_BadBounds ?ga_BadBounds ?gg_BadBounds ?hd_BadBounds ?ha_BadBounds ?hm_BadBounds ?ox_BadCase ?ic_BadCase ?ti_BadCase ?FI_BadCase ?no_BadCase ?ga_BadCase ?gg_BadCase ?hd_BadCase ?ha_BadCase ?hm_BadCase ?hn ?ht ?eC_ClockError ?hd_ClockError ?tC_ClockError ?sub_0_0 ?kit_0_0 ?sub_0_1 ?kit_0_1 ?sub_0_2 ?kit_0_2 ?sub_0_3 ?kit_0_3 ?sub_1_0 ?kit_1_0 ?sub_1_1 ?kit_1_1 ?sub_1_2 ?kit_1_2 ?sub_1_3 ?kit_1_3 ?sub_2_0 ?kit_2_0 ?sub_2_1 ?kit_2_1 ?sub_2_2 ?kit_2_2 ?sub_2_3 ?kit_2_3 ?n_bool ?n_int ?n_isinstance ?n_len ?n_list ?n_max ?n_min ?n_range ?n_repr ?n_sorted ?n_str ?n_tuple ?k_WIDE_LIMIT ?i_gcd
    (case a_told_plainly => k_is)
    (case F_told_plainly => refine' L2.AR.T.fun_ex ?l ?c ?k; (case l => k_is); (case c => k_is); (case k => k_is))
    (case a_is_int => k_is)
    (case F_is_int => refine' L2.AR.T.fun_ex ?l ?c ?k; (case l => k_is); (case c => k_is); (case k => k_is))
    (case a_plain_form => k_is)
    (case F_plain_form => refine' L2.AR.T.fun_ex ?l ?c ?k; (case l => k_is); (case c => k_is); (case k => k_is))
    (case a_check_number => k_is)
    (case F_check_number => refine' L2.AR.T.fun_ex ?l ?c ?k; (case l => k_is); (case c => k_is); (case k => k_is))
    (case a_are_beats => k_is)
    (case F_are_beats => refine' L2.AR.T.fun_ex ?l ?c ?k; (case l => k_is); (case c => k_is); (case k => k_is))
    (case a_check_beats => k_is)
    (case F_check_beats => refine' L2.AR.T.fun_ex ?l ?c ?k; (case l => k_is); (case c => k_is); (case k => k_is))
    (case a_are_fixed => k_is)
    (case F_are_fixed => refine' L2.AR.T.fun_ex ?l ?c ?k; (case l => k_is); (case c => k_is); (case k => k_is))
    (case a_are_narrow => k_is)
    (case F_are_narrow => refine' L2.AR.T.fun_ex ?l ?c ?k; (case l => k_is); (case c => k_is); (case k => k_is))
    (case a_ever_meet => k_is)
    (case F_ever_meet => refine' L2.AR.T.fun_ex ?l ?c ?k; (case l => k_is); (case c => k_is); (case k => k_is))
    (case a_inverse_of => k_is)
    (case F_inverse_of => refine' L2.AR.T.fun_ex ?l ?c ?k; (case l => k_is); (case c => k_is); (case k => k_is))
    (case a_family_of => k_is)
    (case F_family_of => refine' L2.AR.T.fun_ex ?l ?c ?k; (case l => k_is); (case c => k_is); (case k => k_is))
    (case a_families_of => k_is)
    (case F_families_of => refine' L2.AR.T.fun_ex ?l ?c ?k; (case l => k_is); (case c => k_is); (case k => k_is))
    (case a_met_families => k_is)
    (case F_met_families => refine' L2.AR.T.fun_ex ?l ?c ?k; (case l => k_is); (case c => k_is); (case k => k_is))
    (case a_pairs_within => k_is)
    (case F_pairs_within => refine' L2.AR.T.fun_ex ?l ?c ?k; (case l => k_is); (case c => k_is); (case k => k_is))
    (case a_met_number => k_is)
    (case F_met_number => refine' L2.AR.T.fun_ex ?l ?c ?k; (case l => k_is); (case c => k_is); (case k => k_is))
    (case a_first_of_families => k_is)
    (case F_first_of_families => refine' L2.AR.T.fun_ex ?l ?c ?k; (case l => k_is); (case c => k_is); (case k => k_is))
    (case a_first_met => k_is)
    (case F_first_met => refine' L2.AR.T.fun_ex ?l ?c ?k; (case l => k_is); (case c => k_is); (case k => k_is))
    (case a__law_hand => k_is)
    (case F__law_hand => refine' L2.AR.T.fun_ex ?l ?c ?k; (case l => k_is); (case c => k_is); (case k => k_is))
    (case a__law_draw => k_is)
    (case F__law_draw => refine' L2.AR.T.fun_ex ?l ?c ?k; (case l => k_is); (case c => k_is); (case k => k_is))
    (case a__law_just => k_is)
    (case F__law_just => refine' L2.AR.T.fun_ex ?l ?c ?k; (case l => k_is); (case c => k_is); (case k => k_is))
    (case a__law_common => k_is)
    (case F__law_common => refine' L2.AR.T.fun_ex ?l ?c ?k; (case l => k_is); (case c => k_is); (case k => k_is))
    (case a__law_small_row => k_is)
    (case F__law_small_row => refine' L2.AR.T.fun_ex ?l ?c ?k; (case l => k_is); (case c => k_is); (case k => k_is))
    (case a__law_families => k_is)
    (case F__law_families => refine' L2.AR.T.fun_ex ?l ?c ?k; (case l => k_is); (case c => k_is); (case k => k_is))
    (case a__law_many => k_is)
    (case F__law_many => refine' L2.AR.T.fun_ex ?l ?c ?k; (case l => k_is); (case c => k_is); (case k => k_is))
    (case a__law_tried => k_is)
    (case F__law_tried => refine' L2.AR.T.fun_ex ?l ?c ?k; (case l => k_is); (case c => k_is); (case k => k_is))
    (case a__law_heard_beats => k_is)
    (case F__law_heard_beats => refine' L2.AR.T.fun_ex ?l ?c ?k; (case l => k_is); (case c => k_is); (case k => k_is))
    (case a__law_two_right => k_is)
    (case F__law_two_right => refine' L2.AR.T.fun_ex ?l ?c ?k; (case l => k_is); (case c => k_is); (case k => k_is))
    (case a__law_small_right => k_is)
    (case F__law_small_right => refine' L2.AR.T.fun_ex ?l ?c ?k; (case l => k_is); (case c => k_is); (case k => k_is))
    (case a__law_great_right => k_is)
    (case F__law_great_right => refine' L2.AR.T.fun_ex ?l ?c ?k; (case l => k_is); (case c => k_is); (case k => k_is))
    (case a__law_wide_right => k_is)
    (case F__law_wide_right => refine' L2.AR.T.fun_ex ?l ?c ?k; (case l => k_is); (case c => k_is); (case k => k_is))
    (case a__law_refused => k_is)
    (case F__law_refused => refine' L2.AR.T.fun_ex ?l ?c ?k; (case l => k_is); (case c => k_is); (case k => k_is))
    (case a_law => k_is)
    (case F_law => refine' L2.AR.T.fun_ex ?l ?c ?k; (case l => k_is); (case c => k_is); (case k => k_is))
    (case aC_BadNumber => k_is)
    (case aC_BadBounds => k_is)
    (case aC_BadCase => k_is)
    (case aC_ClockError => k_is)
    (case ox_BadNumber => refine' L2.AR.T.cls_mk ?xL ?hb ?sa ?eC ?tC ?kC; (case xL => k_is); (case hb => decide +kernel); (case sa => k_is); (case eC => k_is); (case tC => k_is); (case kC => k_is))
    (case ic_BadNumber => k_is)
    (case ti_BadNumber => k_is)
    (case FI_BadNumber => refine' L2.AR.T.fun_ex ?l ?c ?k; (case l => k_is); (case c => k_is); (case k => k_is))
    (case no_BadNumber => k_is)
    (case ga_BadNumber => k_is)
    (case gg_BadNumber => k_is)
    (case hd_BadNumber => k_is)
    (case ha_BadNumber => k_is)
    (case hm_BadNumber => k_is)
    (case ox_BadBounds => refine' L2.AR.T.cls_mk ?xL ?hb ?sa ?eC ?tC ?kC; (case xL => k_is); (case hb => decide +kernel); (case sa => k_is); (case eC => k_is); (case tC => k_is); (case kC => k_is))
    (case ic_BadBounds => k_is)
    (case ti_BadBounds => k_is)
    (case FI_BadBounds => refine' L2.AR.T.fun_ex ?l ?c ?k; (case l => k_is); (case c => k_is); (case k => k_is))
    (case no_BadBounds => k_is)
    (case ga_BadBounds => k_is)
    (case gg_BadBounds => k_is)
    (case hd_BadBounds => k_is)
    (case ha_BadBounds => k_is)
    (case hm_BadBounds => k_is)
    (case ox_BadCase => refine' L2.AR.T.cls_mk ?xL ?hb ?sa ?eC ?tC ?kC; (case xL => k_is); (case hb => decide +kernel); (case sa => k_is); (case eC => k_is); (case tC => k_is); (case kC => k_is))
    (case ic_BadCase => k_is)
    (case ti_BadCase => k_is)
    (case FI_BadCase => refine' L2.AR.T.fun_ex ?l ?c ?k; (case l => k_is); (case c => k_is); (case k => k_is))
    (case no_BadCase => k_is)
    (case ga_BadCase => k_is)
    (case gg_BadCase => k_is)
    (case hd_BadCase => k_is)
    (case ha_BadCase => k_is)
    (case hm_BadCase => k_is)
    (case hn => k_is)
    (case ht => k_is)
    (case eC_ClockError => k_is)
    (case hd_ClockError => k_is)
    (case tC_ClockError => k_is)
    (case sub_0_0 => first | rfl | k_is)
    (case kit_0_0 => first | rfl | k_is)
    (case sub_0_1 => first | rfl | k_is)
    (case kit_0_1 => first | rfl | k_is)
    (case sub_0_2 => first | rfl | k_is)
    (case kit_0_2 => first | rfl | k_is)
    (case sub_0_3 => first | rfl | k_is)
    (case kit_0_3 => first | rfl | k_is)
    (case sub_1_0 => first | rfl | k_is)
    (case kit_1_0 => first | rfl | k_is)
    (case sub_1_1 => first | rfl | k_is)
    (case kit_1_1 => first | rfl | k_is)
    (case sub_1_2 => first | rfl | k_is)
    (case kit_1_2 => first | rfl | k_is)
    (case sub_1_3 => first | rfl | k_is)
    (case kit_1_3 => first | rfl | k_is)
    (case sub_2_0 => first | rfl | k_is)
    (case kit_2_0 => first | rfl | k_is)
    (case sub_2_1 => first | rfl | k_is)
    (case kit_2_1 => first | rfl | k_is)
    (case sub_2_2 => first | rfl | k_is)
    (case kit_2_2 => first | rfl | k_is)
    (case sub_2_3 => first | rfl | k_is)
    (case kit_2_3 => first | rfl | k_is)
    (case n_bool => k_is)
    (case n_int => k_is)
    (case n_isinstance => k_is)
    (case n_len => k_is)
    (case n_list => k_is)
    (case n_max => k_is)
    (case n_min => k_is)
    (case n_range => k_is)
    (case n_repr => k_is)
    (case n_sorted => k_is)
    (case n_str => k_is)
    (case n_tuple => k_is)
    (case k_WIDE_LIMIT => k_is)
    (case i_gcd => k_is)
