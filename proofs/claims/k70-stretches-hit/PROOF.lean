import PyProof.Rows.All
import Wide.All
import OpenK.AllK
import Wide.FinOn
import HandS.ForExc
import HandS.Comp
import HandS.Dict
import HandS.ExcInit
import HandS.IsInst
import HandS.Wide
import HandS.Gcd
import HandS.TupAny
import HandS.Style
import PyProof.ReprRoads
import KE.DataFind
import HandS.SortInts
import HandS.ExcField
import HandS.ExcIs
import PyProof.StrLawsRepr
import HandS.More
import HandS.Iter
import HandS.SortRule
import HandS.TryOnly
import HandS.TupLe
import HandS.Conv
import HandS.SetFor
import KE.SortData
import HandS.SetBool
import HandS.Strs
import PySem.Challenge.RW_asinrealtime_k70_stretches_hit
set_option Elab.async false
set_option linter.all false
set_option maxRecDepth 100000
set_option maxHeartbeats 4000000
/-! Fw0: new tuples, known to have no dict of their own (what o.count of a tuple asks). -/
namespace L2.AR
open PySem PySem.Spec PyProof.Rows
/-- a tuple of this walk: its object has no dict -/
def SqS (F : Hp) (a : Addr) (xs : List V) : Prop := ∃ o : Obj, F a = some (.frz o (.tup xs)) ∧ o.dict = none
theorem SqS.sqt {K : PySem.W.Frag} {F : Hp} {a : Addr} {xs : List V} (h : SqS F a xs) : SqT K F a xs := by
  obtain ⟨o, e, _⟩ := h
  exact .inl (.inr ⟨o, e⟩)
theorem SqS.same {F H : Hp} {a : Addr} {xs : List V} (s : Same F H) (h : SqS F a xs) : SqS H a xs := by
  obtain ⟨o, e, n⟩ := h
  exact ⟨o, s _ _ e, n⟩
/-- Q of any new tuple -/
def NewT (H : Hp) (xs : List V) (Q : VK) : Prop := ∀ (p : Addr) (o : Obj), H p = none → o.dict = none → Q (.ref p) (upd H p (.frz o (.tup xs)))
section
variable {X : Cx} {e : Expr} {es : List Expr} {te : TE} {t : TA} {pos : Pos}
/-- the heap has grown by a tuple -/
theorem new_tup {pins : List (Addr × Obj)} {σ : St} {H : Hp} {s : Shared} {xs : List V} {its : List Value} {Q : VK} {a : Addr} {h' : Heap} {tk : Nat} (I : Inv X pins σ H s) (r : Vals xs its) (z : xs.length ≤ sizeLine) (ha : a = h'.objs.size)
    (k : ∀ b o, s.heap.get? b = some o → h'.get? b = some o) (q : NewT H xs Q) : EP X pins σ Q (.ref a) { s with heap := h'.push { cls := .type "tuple", data := .seq its.toArray }, toks := tk } := by
  subst ha
  have J : Inv X pins σ H { s with heap := h', toks := tk } := I.kept k
  have at' : (h'.push { cls := .type "tuple", data := .seq its.toArray }).get? h'.objs.size = some { cls := .type "tuple", data := .seq its.toArray } := Heap.get?_push_size _ rfl
  let ob : Obj := { cls := .type "tuple", data := .seq its.toArray }
  refine ⟨.ref h'.objs.size, upd H h'.objs.size (.frz ob (.tup xs)), J.laid (t' := tk) (fun b o w => Heap.get?_push_of_some _ w) (Nat.le_refl _) ⟨at', z, its, r, ⟨_, at', rfl, _, rfl⟩⟩, rfl, q _ _ (J.hok.fresh (Nat.le_refl _)) rfl⟩
theorem pe_tupF {x1} (h : PA X es t) : PE X (.Tuple es x1 pos) (fun σ H Q => t σ H fun xs H1 => xs.length ≤ sizeLine ∧ NewT H1 xs Q) := by
  refine ⟨fun pins s σ H Q I hq => wpAny_Tuple_spliced (thn (h.run pos pins s σ H _ I hq) fun us s1 ⟨xs, H1, J, r, z, q⟩ => ⟨by rw [← r.length]; exact z, ?_⟩)⟩
  exact new_tup (tk := s1.toks) J r z rfl (fun _ _ w => w) q
def rCatF (K : PySem.W.Frag) : R2 := fun x y H Q => ∃ a b xs ys, x = .ref a ∧ y = .ref b ∧ SqT K H a xs ∧ SqT K H b ys ∧ xs.length + ys.length ≤ sizeLine ∧ (xs = [] → Q (.ref b) H) ∧ (xs ≠ [] → ys = [] → Q (.ref a) H) ∧ (xs ≠ [] → ys ≠ [] → NewT H (xs ++ ys) Q)
theorem op_catF : OpR X (binaryOp .Add) (rCatF X.K) := by
  intro pins s σ H x y v u Q I rx ry h
  obtain ⟨a, b, xs, ys, rfl, rfl, ha, hb, hz, q0, q1, q2⟩ := h
  by_cases hx : xs = []
  · exact op_catA pins s σ H _ _ v u Q I rx ry ⟨a, b, xs, ys, rfl, rfl, ha, hb, hz, q0, q1, fun z => absurd hx z⟩
  · cases rx
    cases ry
    obtain ⟨its, r1, p1, _⟩ := I.tuple ha
    obtain ⟨its2, r2, p2, _⟩ := I.tuple hb
    apply HT.cat_tup p1 p2 (fun z => hx (r1.nil_iff.mp z)) (fun z => ⟨.ref a, H, I, rfl, q1 hx (r2.nil_iff.mp z)⟩) (fun z => ?_) (by rw [← r1.length, ← r2.length]; exact hz)
    exact new_tup (tk := s.toks) I (r1.append r2) (by rw [List.length_append]; exact hz) rfl (fun _ _ w => w) (q2 hx fun w => z (r2.nil_iff.mpr w))
def rTupF (K : PySem.W.Frag) : List V → Hp → VK → Prop := fun xs H Q => ∃ p ys, xs = [.ref p] ∧ ((SqL K H p ys ∧ NewT H ys Q) ∨ (SqT K H p ys ∧ Q (.ref p) H))
theorem call_tupF : CallR X (.type "tuple") (rTupF X.K) := by
  intro pins s σ H xs us Q I r h
  obtain ⟨p, ys, rfl, ⟨hq, q⟩ | ⟨hq, q⟩⟩ := h
  · obtain ⟨u, rfl, rx⟩ := vals1 r
    cases rx
    obtain ⟨its, r', pl, hz⟩ := I.list hq
    apply call_tuple_list pl.isList (fun h' kp => ?_) (by have := r'.length; simp only [List.size_toArray] <;> omega)
    exact new_tup (tk := s.toks) I r' hz rfl kp q
  · exact call_tuple_of pins s σ H _ us Q I r ⟨p, ys, rfl, .inr ⟨hq, q⟩⟩
def rSlF (K : PySem.W.Frag) : V → Option Int → Option Int → Hp → VK → Prop := fun x lo hi H Q => ∃ a xs, x = .ref a ∧ SqT K H a xs ∧
  (HT.sIx xs.length 0 lo = 0 ∧ HT.sIx xs.length xs.length hi = xs.length → Q (.ref a) H) ∧ (¬ (HT.sIx xs.length 0 lo = 0 ∧ HT.sIx xs.length xs.length hi = xs.length) → NewT H (cutV xs lo hi) Q)
theorem sl_tupF : SlR X (rSlF X.K) := by
  intro pins s σ H x v vl vu lo hi sl Q I rx hs pl pu h
  obtain ⟨a, xs, rfl, hx, q1, q2⟩ := h
  by_cases hw : HT.sIx xs.length 0 lo = 0 ∧ HT.sIx xs.length xs.length hi = xs.length
  · exact sl_tupA pins s σ H _ v vl vu lo hi sl Q I rx hs pl pu ⟨a, xs, rfl, hx, q1, fun z => absurd hw z⟩
  · cases rx
    obtain ⟨its, r, ht, hz⟩ := I.tuple hx
    have hlen : its.toArray.size = xs.length := by rw [List.size_toArray]; exact r.length.symm
    refine ⟨"tuple", _, PyProof.Rows.slot_tuple_getitem.lookup, ht.typeIs, ?_⟩
    apply HT.getItem_tuple_cut ht hs pl pu (by rw [hlen]; exact hw) _ (by rw [hlen]; exact hz)
    rw [hlen]
    exact new_tup (tk := s.toks) I ((r.drop _).take _) (Nat.le_trans (cutV_length xs lo hi) hz) rfl (fun _ _ w => w) (q2 hw)
end
end L2.AR
set_option Elab.async false
set_option linter.all false
set_option maxRecDepth 100000
set_option maxHeartbeats 4000000
/-! Fw1: pure readings. What a piece of Python does, as a plain Lean function over data, and what ties it to the machine. -/
namespace L2.AR
open PySem PySem.Spec PyProof.Rows

abbrev D := PyData
/-- the hand (a dict that the law's draws turn) as a datum: it never stands inside another datum -/
abbrev tok : D := .dict []
def isTok : D → Bool
  | .dict _ => true
  | _ => false

/-- the hand's state -/
structure HS where
  row : List Int
  pos : Nat

/-- how an expression ends -/
inductive Out (α : Type) where
  | ok (a : α) (h : HS)
  | err (c : Nat) (d : D) (h : HS)
  | stuck

abbrev M (α : Type) := HS → Out α
def ret {α : Type} (a : α) : M α := fun h => .ok a h
def bnd {α β : Type} (x : M α) (f : α → M β) : M β := fun h =>
  match x h with
  | .ok a h' => f a h'
  | .err c d h' => .err c d h'
  | .stuck => .stuck
def stk {α : Type} : M α := fun _ => .stuck
def fail {α : Type} (c : Nat) (d : D) : M α := fun h => .err c d h
def lift {α : Type} : Option α → M α
  | some a => ret a
  | none => stk
@[simp] theorem bnd_ret {α β : Type} (a : α) (f : α → M β) : bnd (ret a) f = f a := rfl
@[simp] theorem bnd_stk {α β : Type} (f : α → M β) : bnd stk f = stk := rfl
@[simp] theorem bnd_fail {α β : Type} (c : Nat) (d : D) (f : α → M β) : bnd (fail c d) f = fail c d := rfl
@[simp] theorem lift_some {α : Type} (a : α) : lift (some a) = ret a := rfl
@[simp] theorem lift_none {α : Type} : lift (none : Option α) = stk := rfl
theorem bnd_assoc {α β γ : Type} (x : M α) (f : α → M β) (g : β → M γ) : bnd (bnd x f) g = bnd x fun a => bnd (f a) g := by
  funext h
  unfold bnd
  cases x h <;> rfl

/-- a slot: nothing; a datum; a list that is this frame's own; a caught error -/
inductive Sl where
  | no
  | dat (d : D)
  | own (ds : List D)
  | owd (es : List (Int × D))
  | exc (c : Nat) (d : D)
abbrev Rho := List Sl

/-- what does not change within a def's run -/
structure Gh where
  K : PySem.W.Frag
  ha : Option Addr
  H0 : Hp
  F0 : Hp
  cl : Nat → Addr
  fld : Nat → Str
  W : WX
  ea : Addr
  dx : Option Addr
  ecls : Value

/-! ### data and heaps -/
mutual
/-- a value is a datum; a list is tracked as one -/
inductive Dq (K : PySem.W.Frag) (F : Hp) : V → D → Prop
  | non : Dq K F .non .none
  | bl (b : Bool) : Dq K F (.bl b) (.bool b)
  | int (i : Int) : Dq K F (.int i) (.int i)
  | str (x : Str) : Dq K F (.str x) (.str x)
  | lst {a : Addr} {xs : List V} {ds : List D} : F a = some (.lst xs) → DqAll K F xs ds → Dq K F (.ref a) (.list ds)
  | tup {a : Addr} {xs : List V} {ds : List D} : SqS F a xs → DqAll K F xs ds → Dq K F (.ref a) (.tuple ds)
inductive DqAll (K : PySem.W.Frag) (F : Hp) : List V → List D → Prop
  | nil : DqAll K F [] []
  | cons {v : V} {vs : List V} {d : D} {ds : List D} : Dq K F v d → DqAll K F vs ds → DqAll K F (v :: vs) (d :: ds)
end
mutual
theorem dq_dp {K : PySem.W.Frag} {F : Hp} : ∀ (d : D) (v : V), Dq K F v d → Dp K F v d
  | .none, _, h => by cases h; exact .non
  | .bool b, _, h => by cases h; exact .bl b
  | .int i, _, h => by cases h; exact .int i
  | .str x, _, h => by cases h; exact .str x
  | .list ds, _, h => by
    cases h with
    | lst hs ha => exact .lst (SqL.of hs) (dqAll_dp ds _ ha)
  | .tuple ds, _, h => by
    cases h with
    | tup hs ha => exact .tup hs.sqt (dqAll_dp ds _ ha)
  | .dict _, _, h => by cases h
theorem dqAll_dp {K : PySem.W.Frag} {F : Hp} : ∀ (ds : List D) (vs : List V), DqAll K F vs ds → DpAll K F vs ds
  | [], _, h => by cases h; exact .nil
  | d :: ds, _, h => by
    cases h with
    | cons h1 h2 => exact .cons (dq_dp d _ h1) (dqAll_dp ds _ h2)
end
mutual
theorem dp_same {K : PySem.W.Frag} {H H' : Hp} (s : Same H H') : ∀ (d : D) (v : V), Dq K H v d → Dq K H' v d
  | .none, _, h => by cases h; exact .non
  | .bool b, _, h => by cases h; exact .bl b
  | .int i, _, h => by cases h; exact .int i
  | .str x, _, h => by cases h; exact .str x
  | .list ds, _, h => by
    cases h with
    | lst hs ha => exact .lst (s _ _ hs) (dpAll_same s ds _ ha)
  | .tuple ds, _, h => by
    cases h with
    | tup hs ha =>
      exact .tup (hs.same s) (dpAll_same s ds _ ha)
  | .dict _, _, h => by cases h
theorem dpAll_same {K : PySem.W.Frag} {H H' : Hp} (s : Same H H') : ∀ (ds : List D) (vs : List V), DqAll K H vs ds → DqAll K H' vs ds
  | [], _, h => by cases h; exact .nil
  | d :: ds, _, h => by
    cases h with
    | cons h1 h2 => exact .cons (dp_same s d _ h1) (dpAll_same s ds _ h2)
end
theorem dpAll_len {K : PySem.W.Frag} {H : Hp} : ∀ {vs : List V} {ds : List D}, DqAll K H vs ds → vs.length = ds.length
  | _, _, .nil => rfl
  | _, _, .cons _ r => congrArg (· + 1) (dpAll_len r)
theorem dpAll_get {K : PySem.W.Frag} {H : Hp} : ∀ {vs : List V} {ds : List D} {i : Nat} {v : V}, DqAll K H vs ds → vs[i]? = some v → ∃ d, ds[i]? = some d ∧ Dq K H v d
  | _, _, i, v, .nil, e => by simp at e
  | _, _, 0, v, .cons r _, e => by simp at e; subst e; exact ⟨_, rfl, r⟩
  | _, _, i + 1, v, .cons _ t, e => by
    obtain ⟨d, h1, h2⟩ := dpAll_get (i := i) t (by simpa using e)
    exact ⟨d, by simpa using h1, h2⟩
theorem dpAll_get' {K : PySem.W.Frag} {H : Hp} : ∀ {vs : List V} {ds : List D} {i : Nat} {d : D}, DqAll K H vs ds → ds[i]? = some d → ∃ v, vs[i]? = some v ∧ Dq K H v d
  | _, _, i, v, .nil, e => by simp at e
  | _, _, 0, v, .cons r _, e => by simp at e; subst e; exact ⟨_, rfl, r⟩
  | _, _, i + 1, v, .cons _ t, e => by
    obtain ⟨d, h1, h2⟩ := dpAll_get' (i := i) t (by simpa using e)
    exact ⟨d, by simpa using h1, h2⟩
theorem dpAll_append {K : PySem.W.Frag} {H : Hp} : ∀ {vs ws : List V} {ds es : List D}, DqAll K H vs ds → DqAll K H ws es → DqAll K H (vs ++ ws) (ds ++ es)
  | _, _, _, _, .nil, s => s
  | _, _, _, _, .cons r t, s => .cons r (dpAll_append t s)
theorem dpAll_take {K : PySem.W.Frag} {H : Hp} : ∀ {vs : List V} {ds : List D} (n : Nat), DqAll K H vs ds → DqAll K H (vs.take n) (ds.take n)
  | _, _, 0, _ => .nil
  | _, _, _ + 1, .nil => .nil
  | _, _, n + 1, .cons r t => .cons r (dpAll_take n t)
theorem dpAll_drop {K : PySem.W.Frag} {H : Hp} : ∀ {vs : List V} {ds : List D} (n : Nat), DqAll K H vs ds → DqAll K H (vs.drop n) (ds.drop n)
  | _, _, 0, r => r
  | _, _, _ + 1, .nil => .nil
  | _, _, n + 1, .cons _ t => dpAll_drop n t
theorem dpAll_set {K : PySem.W.Frag} {H : Hp} {v : V} {d : D} (r : Dq K H v d) : ∀ {vs : List V} {ds : List D} (i : Nat), DqAll K H vs ds → DqAll K H (vs.set i v) (ds.set i d)
  | _, _, _, .nil => .nil
  | _, _, 0, .cons _ t => .cons r t
  | _, _, i + 1, .cons q t => .cons q (dpAll_set r i t)

/-- a value is a datum, or the hand -/
def Rp (K : PySem.W.Frag) (F : Hp) (ha : Option Addr) (v : V) (d : D) : Prop := Dq K F v d ∨ (d = tok ∧ ∃ a, ha = some a ∧ v = .ref a)
theorem Rp.dp {K : PySem.W.Frag} {F : Hp} {ha : Option Addr} {v : V} {d : D} (h : Rp K F ha v d) (n : isTok d = false) : Dq K F v d := by
  rcases h with h | ⟨e, _⟩
  · exact h
  · subst e; cases n
theorem Rp.same {K : PySem.W.Frag} {F F' : Hp} {ha : Option Addr} {v : V} {d : D} (h : Rp K F ha v d) (s : Same F F') : Rp K F' ha v d := by
  rcases h with h | h
  · exact .inl (dp_same s _ _ h)
  · exact .inr h
inductive RpAll (K : PySem.W.Frag) (F : Hp) (ha : Option Addr) : List V → List D → Prop
  | nil : RpAll K F ha [] []
  | cons {v : V} {vs : List V} {d : D} {ds : List D} : Rp K F ha v d → RpAll K F ha vs ds → RpAll K F ha (v :: vs) (d :: ds)
theorem RpAll.same {K : PySem.W.Frag} {F F' : Hp} {ha : Option Addr} (s : Same F F') : ∀ {vs : List V} {ds : List D}, RpAll K F ha vs ds → RpAll K F' ha vs ds
  | _, _, .nil => .nil
  | _, _, .cons r t => .cons (r.same s) (RpAll.same s t)
theorem RpAll.len {K : PySem.W.Frag} {F : Hp} {ha : Option Addr} : ∀ {vs : List V} {ds : List D}, RpAll K F ha vs ds → vs.length = ds.length
  | _, _, .nil => rfl
  | _, _, .cons _ r => congrArg (· + 1) (RpAll.len r)
theorem RpAll.dp {K : PySem.W.Frag} {F : Hp} {ha : Option Addr} : ∀ {vs : List V} {ds : List D}, RpAll K F ha vs ds → ds.any isTok = false → DqAll K F vs ds
  | _, _, .nil, _ => .nil
  | _, _, .cons (d := d) (ds := ds) r t, n => by
    rw [List.any_cons, Bool.or_eq_false_iff] at n
    exact .cons (r.dp n.1) (RpAll.dp t n.2)

/-- the hand stands at a: its row frozen, its place -/
def HandOK (ha : Option Addr) (F H : Hp) (hs : HS) : Prop := ∀ a, ha = some a → F a = none ∧ ∃ r, r ≠ a ∧ H a = some (.dK [(.inr "row", .ref r), (.inr "at", .int hs.pos)]) ∧ F r = some (.lst (hs.row.map V.int))

/-- what stood stands; the frozen part has grown by new objects alone -/
structure PStep (F H F' H' : Hp) : Prop where
  ff : Same F F'
  fh : Same F' H'
  keep : Same H H'
  new : ∀ b, F' b ≠ none → F b ≠ none ∨ H b = none
/-- the same, but the hand may have turned -/
structure Step (ha : Option Addr) (F H F' H' : Hp) : Prop where
  ff : Same F F'
  fh : Same F' H'
  keep : ∀ b o, H b = some o → ha ≠ some b → H' b = some o
  new : ∀ b, F' b ≠ none → F b ≠ none ∨ H b = none
theorem PStep.step {ha : Option Addr} {F H F' H' : Hp} (s : PStep F H F' H') : Step ha F H F' H' := ⟨s.ff, s.fh, fun b o e _ => s.keep b o e, s.new⟩
theorem PStep.refl {F H : Hp} (s : Same F H) : PStep F H F H := ⟨Same.refl F, s, Same.refl H, fun _ h => .inl h⟩
theorem Step.refl {ha : Option Addr} {F H : Hp} (s : Same F H) : Step ha F H F H := (PStep.refl s).step
theorem none_of_keep {H H' : Hp} (k : Same H H') {b : Addr} (h : H' b = none) : H b = none := k.free h
theorem PStep.trans {F H F1 H1 F2 H2 : Hp} (a : PStep F H F1 H1) (b : PStep F1 H1 F2 H2) : PStep F H F2 H2 :=
  ⟨a.ff.trans b.ff, b.fh, a.keep.trans b.keep, fun x h => by
    rcases b.new x h with z | z
    · exact a.new x z
    · exact .inr (a.keep.free z)⟩
theorem Step.trans {ha : Option Addr} {F H F1 H1 F2 H2 : Hp} (a : Step ha F H F1 H1) (b : Step ha F1 H1 F2 H2) (hh : ∀ x, ha = some x → F2 x = none) : Step ha F H F2 H2 :=
  ⟨a.ff.trans b.ff, b.fh, fun x o e n => b.keep x o (a.keep x o e n) n, fun x h => by
    rcases b.new x h with z | z
    · exact a.new x z
    · cases q : H x with
      | none => exact .inr rfl
      | some o =>
        by_cases hx : ha = some x
        · exact absurd (hh x hx) h
        · rw [a.keep x o q hx] at z; cases z⟩
theorem HandOK.pstep {ha : Option Addr} {F H F' H' : Hp} {hs : HS} (h : HandOK ha F H hs) (s : PStep F H F' H') : HandOK ha F' H' hs := fun a e => by
  obtain ⟨h1, r, n, h2, h3⟩ := h a e
  refine ⟨?_, r, n, s.keep _ _ h2, s.ff _ _ h3⟩
  cases q : F' a with
  | none => rfl
  | some o =>
    rcases s.new a (by rw [q]; simp) with z | z
    · exact absurd h1 z
    · rw [h2] at z; cases z
/-- a new frozen object -/
theorem PStep.alloc {F H : Hp} (s : Same F H) {p : Addr} {o : HO} (n : H p = none) : PStep F H (upd F p o) (upd H p o) :=
  ⟨fun b u e => by rw [upd_ne (ne_of_none e (s.free n))]; exact e,
   fun b u e => by
    by_cases hb : b = p
    · subst hb; rw [upd_same] at e ⊢; exact e
    · rw [upd_ne hb] at e ⊢; exact s b u e,
   fun b u e => by rw [upd_ne (ne_of_none e n)]; exact e,
   fun b h => by
    by_cases hb : b = p
    · subst hb; exact .inr n
    · rw [upd_ne hb] at h; exact .inl h⟩
/-- a new object that is not frozen (garbage, or to be this frame's own) -/
theorem PStep.garb {F H : Hp} (s : Same F H) {p : Addr} {o : HO} (n : H p = none) : PStep F H F (upd H p o) :=
  ⟨Same.refl F, fun b u e => by rw [upd_ne (ne_of_none (s b u e) n)]; exact s b u e, fun b u e => by rw [upd_ne (ne_of_none e n)]; exact e, fun _ h => .inl h⟩

/-- a dict of whole numbers and data -/
inductive KvR (K : PySem.W.Frag) (F : Hp) : List (Key × V) → List (Int × D) → Prop
  | nil : KvR K F [] []
  | cons {k : Int} {v : V} {d : D} {r : List (Key × V)} {es : List (Int × D)} : Dq K F v d → KvR K F r es → KvR K F ((.inl k, v) :: r) ((k, d) :: es)
theorem KvR.same {K : PySem.W.Frag} {F F' : Hp} (s : Same F F') {r : List (Key × V)} {es : List (Int × D)} (h : KvR K F r es) : KvR K F' r es := by
  induction h with
  | nil => exact .nil
  | cons a _ ih => exact .cons (dp_same s _ _ a) ih
/-- the state of a def's frame -/
def SlR (G : Gh) (F H : Hp) (s : Sl) (x : Option (Option V)) : Prop :=
  match s with
  | .no => True
  | .dat d => ∃ v, x = some (some v) ∧ Rp G.K F G.ha v d
  | .own ds => ∃ a vs, x = some (some (.ref a)) ∧ H a = some (.lst vs) ∧ F a = none ∧ G.H0 a = none ∧ G.ha ≠ some a ∧ DqAll G.K F vs ds
  | .owd es => ∃ a kvs, x = some (some (.ref a)) ∧ H a = some (.dK kvs) ∧ F a = none ∧ G.H0 a = none ∧ G.ha ≠ some a ∧ KvR G.K F kvs es
  | .exc c d => x = some (some (.ref G.ea)) ∧ G.ecls = .ref (G.cl c) ∧ ∃ dx v, G.dx = some dx ∧ H dx = some (.xd [(G.fld c, v)]) ∧ G.ha ≠ some dx ∧ Dq G.K F v d
def isOwn : Sl → Bool
  | .own _ => true
  | .owd _ => true
  | _ => false
theorem SlR.at {G : Gh} {F H : Hp} {x : Sl} {y : Option (Option V)} (h : SlR G F H x y) (o : isOwn x = true) : ∃ a ob, y = some (some (.ref a)) ∧ H a = some ob ∧ F a = none ∧ G.H0 a = none ∧ G.ha ≠ some a := by
  cases x with
  | own ds =>
    obtain ⟨a, vs, e, h1, h2, h3, h4, _⟩ := h
    exact ⟨a, _, e, h1, h2, h3, h4⟩
  | owd es =>
    obtain ⟨a, vs, e, h1, h2, h3, h4, _⟩ := h
    exact ⟨a, _, e, h1, h2, h3, h4⟩
  | _ => cases o
structure Rel (G : Gh) (F H : Hp) (hs : HS) (ρ : Rho) (σ : St) : Prop where
  sub : Same F H
  hand : HandOK G.ha F H hs
  base : ∀ b o, G.H0 b = some o → G.ha ≠ some b → H b = some o
  f0 : Same G.F0 F
  new0 : ∀ b, F b ≠ none → G.F0 b ≠ none ∨ G.H0 b = none
  len : σ.length = ρ.length
  slots : ∀ (i : Nat) (s : Sl), ρ[i]? = some s → SlR G F H s σ[i]?
  apart : ∀ (i j : Nat) (x y : Sl) (a : Addr), i ≠ j → ρ[i]? = some x → ρ[j]? = some y → isOwn x = true → isOwn y = true → σ[i]? = some (some (.ref a)) → σ[j]? ≠ some (some (.ref a))
theorem SlR.step {G : Gh} {F H F' H' : Hp} (s : Step G.ha F H F' H') {x : Sl} {y : Option (Option V)} (h : SlR G F H x y) : SlR G F' H' x y := by
  cases x with
  | no => trivial
  | dat d =>
    obtain ⟨v, e, r⟩ := h
    exact ⟨v, e, r.same s.ff⟩
  | own ds =>
    obtain ⟨a, vs, e, h1, h2, h3, h4, h5⟩ := h
    refine ⟨a, vs, e, s.keep _ _ h1 h4, ?_, h3, h4, dpAll_same s.ff _ _ h5⟩
    cases q : F' a with
    | none => rfl
    | some o =>
      rcases s.new a (by rw [q]; simp) with z | z
      · exact absurd h2 z
      · rw [h1] at z; cases z
  | owd es =>
    obtain ⟨a, vs, e, h1, h2, h3, h4, h5⟩ := h
    refine ⟨a, vs, e, s.keep _ _ h1 h4, ?_, h3, h4, h5.same s.ff⟩
    cases q : F' a with
    | none => rfl
    | some o =>
      rcases s.new a (by rw [q]; simp) with z | z
      · exact absurd h2 z
      · rw [h1] at z; cases z
  | exc c d =>
    obtain ⟨e, e2, dx, v, h0, h1, h2, h3⟩ := h
    exact ⟨e, e2, dx, v, h0, s.keep _ _ h1 h2, h2, dp_same s.ff _ _ h3⟩
theorem Rel.step {G : Gh} {F H F' H' : Hp} {hs hs' : HS} {ρ : Rho} {σ : St} (R : Rel G F H hs ρ σ) (s : Step G.ha F H F' H') (hh : HandOK G.ha F' H' hs') : Rel G F' H' hs' ρ σ where
  sub := s.fh
  hand := hh
  base := fun b o e n => s.keep b o (R.base b o e n) n
  f0 := R.f0.trans s.ff
  new0 := fun b h => by
    rcases s.new b h with z | z
    · exact R.new0 b z
    · cases q : G.H0 b with
      | none => exact .inr rfl
      | some o =>
        by_cases hb : G.ha = some b
        · exact absurd (hh b hb).1 h
        · rw [R.base b o q hb] at z; cases z
  len := R.len
  slots := fun i x e => (R.slots i x e).step s
  apart := R.apart
theorem Rel.pstep {G : Gh} {F H F' H' : Hp} {hs : HS} {ρ : Rho} {σ : St} (R : Rel G F H hs ρ σ) (s : PStep F H F' H') : Rel G F' H' hs ρ σ := R.step s.step (R.hand.pstep s)
/-- from the entry until now -/
theorem Rel.entry {G : Gh} {F H : Hp} {hs : HS} {ρ : Rho} {σ : St} (R : Rel G F H hs ρ σ) : Step G.ha G.F0 G.H0 F H := ⟨R.f0, R.sub, R.base, R.new0⟩
end L2.AR
set_option Elab.async false
set_option linter.all false
set_option maxRecDepth 100000
set_option maxHeartbeats 4000000
/-! Fw2: defs called where no repr is under way (guards known), the law's own call, repr of data. -/
namespace L2.AR
open PySem PySem.Spec PyProof.Rows

/-- no repr is under way -/
def Quiet (A : Around) : Prop := A.guards = some []
/-- a def's promise, kept wherever no repr is under way -/
structure FnG (P : Program) (w : World) (K : PySem.W.Frag) (mg : Str → Option Value) (base : Heap) (CX : CXT) (k : Nat) (f : Addr) (fd : FuncData) (ps : List Str) (sp : Sp) : Prop where
  len : ∀ vs H Q E, sp vs H Q E → vs.length = ps.length
  run : ∀ (A : Around) (outer : List Env) (s : Shared) (H : Hp) (args : Args) (us : List Value) (vs : List V) (Q : VK) (E : XK), Quiet A → Room k A → Env0 P w K mg base A outer s H → BindsTo s fd args (ps.zip us) → Vals vs us → sp vs H Q E →
    codeAny (model P w) A (.call (.ref f) args) (CR CX outer P w H s Q E) s
section
variable {P : Program} {w : World} {K : PySem.W.Frag} {mg : Str → Option Value} {base : Heap} {CX : CXT} {k : Nat} {f : Addr} {fd : FuncData} {ps : List Str} {sp : Sp}
theorem FnG.of (F : FnOk P w K mg base CX k f fd ps sp) : FnG P w K mg base CX k f fd ps sp := ⟨F.len, fun A outer s H args us vs Q E _ => F.run A outer s H args us vs Q E⟩
theorem FnG.up {j : Nat} (F : FnG P w K mg base CX j f fd ps sp) (h : j ≤ k) : FnG P w K mg base CX k f fd ps sp :=
  ⟨F.len, fun A outer s H args us vs Q E g r => F.run A outer s H args us vs Q E g (r.mono h)⟩
end
theorem quiet_deeper {A : Around} {env : Env} (h : Quiet A) : Quiet (A.deeper env) := h
section
variable {P : Program} {w : World} {K : PySem.W.Frag} {mg : Str → Option Value} {base : Heap}
/-- a def of the text, by its body -/
theorem okG {x qual : Str} {st : Stmt} {f : Addr} {fd : FuncData} {N ps : List Str} {k : Nat} {sp : Sp} (F : Fun K x qual st f fd) (S : FnScope N ps (defScope st)) (len : ∀ vs H Q E, sp vs H Q E → vs.length = ps.length)
    (hbody : ∀ (cdv : Value) (A : Around) (outer : List Env) (s : Shared) (H : Hp) (vs : List V) (Q : VK) (E : XK), Quiet (A.deeper (envOfC qual (defScope st) s.heap.objs.size f cdv)) → Room k (A.deeper (envOfC qual (defScope st) s.heap.objs.size f cdv)) → sp vs H Q E →
      ∃ t, PSs (cxOf (L2.CX P w) P w K mg base N qual (defScope st) f cdv A outer s H E) (defBody st) t ∧ t { nx := fun _ H' => Q .non H', rt := Q } (start N vs) H) : FnG P w K mg base (L2.CX P w) (k + 1) f fd ps sp := by
  obtain ⟨oc, od, kV, doc, pm, an, cdv, ct, osl, rfl, lk, hcd⟩ := F.ex
  constructor
  · exact len
  intro A outer s H args us vs Q E quiet room e0 bound rel want
  have inHeap : K.In s.heap := e0.mod.kin.keeps fun b o e => (e0.bs b o e).1
  have noLim : s.heap.NoLimit := e0.mod.nolimit.keeps fun b o e => (e0.bs b o e).1
  have kinds : ∀ y ∈ ps.zip us, (defScope st).names.lookup y.1 = some .local ∨ ((defScope st).names.lookup y.1 = some .cell ∧ ((cellsFrom (s.heap.objs.size + 1) (defScope st).names []).lookup y.1).isSome = true) := by
    intro y hy
    have hm : y.1 ∈ ps := (List.of_mem_zip (a := y.1) (b := y.2) hy).1
    exact (S.par _ hm).imp id fun q => ⟨q, PySem.W.cellsFrom_some _ _ _ (.inl q)⟩
  apply codeAny_call_function room.depth (inHeap _ _ lk) rfl S.co S.gen rfl (PySem.W.codeRec_of inHeap hcd) (bound _ _ _ _ _)
  apply wpAny_newFunctionEnv_cells S.kind kinds
  intro env he s1 x
  subst he
  refine ⟨noLim.keeps x.toInCall.keep, codeAny_func ?_⟩
  obtain ⟨t, ht, hq⟩ := hbody cdv A outer s H vs Q E (quiet_deeper quiet) (room.deeper _) want
  have I := inv_start (CX := L2.CX P w) (E := E) S room.hd e0 (len _ _ _ _ want) rel x
  apply wpAny_mono (ht.run [] s1 (start N vs) H _ I hq) _ fun _ _ z => z
  intro fl s' hs
  cases fl with
  | ret u =>
    obtain ⟨v, σ', H', J, rv, q⟩ := hs
    exact ⟨v, H', J.os, J.bare, J.base, J.hok, rv, q⟩
  | next =>
    obtain ⟨σ', H', J, q⟩ := hs
    exact ⟨V.non, H', J.os, J.bare, J.base, J.hok, rfl, q⟩
  | brk => exact hs.elim fun _ z => z.elim fun _ y => y.2.elim
  | cont => exact hs.elim fun _ z => z.elim fun _ y => y.2.elim
end
section
variable {X : Cx} {CX : CXT} {k : Nat} {f : Addr} {fd : FuncData} {ps : List Str} {sp : Sp} {E : St → XK} {x : Str} {p pos : Pos} {e : Expr} {es : List Expr} {t : TA}
theorem runG {pins : List (Addr × Obj)} {σ : St} {H : Hp} {s : Shared} {Q : VK} {us : List Value} {vs : List V} (g : Quiet X.A) (F : FnG X.prog X.w X.K X.mg X.base CX k f fd ps sp) (hr : Room k X.A) (hb : Binds X.K fd ps []) (hx : PassesAt CX X σ (E σ))
    (I : Inv X pins σ H s) (r : Vals vs us) (h : sp vs H Q (E σ)) : wpAny (model X.prog X.w) X.A (call (.ref f) us) (EP X pins σ Q) X.xe s := by
  have same : us.length = ps.length := by
    have z := F.len _ _ _ _ h
    rw [r.length] at z
    exact z
  have bs : BindsTo s fd ⟨us, []⟩ (ps.zip us) := by
    have z := hb s us I.kIn (by simpa using same)
    simpa using z
  apply wpAny_call
  apply codeAny_mono (F.run X.A X.stack s H ⟨us, []⟩ us vs Q (E σ) g hr I.env0 bs r h)
  intro o s' hq
  match o, hq with
  | .error e, hq => exact hx pins H s e s' I hq
  | .ok (.ret u), hq => exact I.after hq
/-- f(e, ..), f a def of the text -/
theorem pe_callG (g : Quiet X.A) (F : FnG X.prog X.w X.K X.mg X.base CX k f fd ps sp) (hr : Room k X.A) (hg : Gl X x) (hm : X.mg x = some (.ref f)) (hk : PySem.W.keepIn X.K (.ref f) = true) (hb : Binds X.K fd ps []) (hx : ∀ σ, PassesAt CX X σ (E σ))
    (ha : PA X (e :: es) t) (hdb : (x == ("__debug__" : Str)) = false := by decide) (he : starEach (e :: es) X.env = (false, eval e X.env) :: starEach es X.env := by rfl) (hpl : (backTo pos (starEach es X.env)).any (·.1) = false := by rfl) :
    PE X (.Call (.Name x p) (e :: es) [] pos) (tCallS sp E t) := by
  constructor
  intro pins s σ H Q I h
  apply wpAny_Call_Name_kw (ld_glob I hg hm _ hdb)
  apply PySem.W.callWith_K (h₀ := X.base) I.ok.mod.kin hk _ he hpl
  apply thn (ha.run pos pins s σ H _ I h)
  rintro us s1 ⟨vs, H1, I1, r, q⟩
  exact ⟨I1.kIn, runG g F hr hb (hx σ) I1 r q⟩
/-- f(), f a def of the text -/
theorem pe_callG0 (g : Quiet X.A) (F : FnG X.prog X.w X.K X.mg X.base CX k f fd ps sp) (hr : Room k X.A) (hg : Gl X x) (hm : X.mg x = some (.ref f)) (hk : PySem.W.keepIn X.K (.ref f) = true) (hb : Binds X.K fd ps []) (hx : ∀ σ, PassesAt CX X σ (E σ))
    (hdb : (x == ("__debug__" : Str)) = false := by decide) :
    PE X (.Call (.Name x p) [] [] pos) (tCallS sp E tNil) := by
  constructor
  intro pins s σ H Q I h
  apply wpAny_Call_Name_kw (ld_glob I hg hm _ hdb)
  exact PySem.W.callWith_K0 I.kIn hk (runG (us := []) g F hr hb (hx σ) I .nil h)
end
/-! ### repr of data -/
/-- what may be shown -/
def shows (d : D) : Bool := !isTok d && d.showable && !d.hasDict && decide (d.depth ≤ 40) && decide (d.shown.length ≤ 16777216)
theorem call_reprD {X : Cx} (g : Quiet X.A) (hu : X.A.units + 64 < cLine) : CallR X (.builtin "repr") (fun xs H Q => ∃ v d, xs = [v] ∧ Dq X.K H v d ∧ shows d = true ∧ Q (.str d.shown) H) := by
  intro pins s σ H xs us Q I r h
  obtain ⟨v, d, rfl, hd, hs, q⟩ := h
  cases r with
  | cons r0 rn =>
    rename_i u us'
    cases rn
    unfold shows at hs
    simp only [Bool.and_eq_true, Bool.not_eq_true', decide_eq_true_eq] at hs
    obtain ⟨⟨⟨⟨_, h1⟩, h2⟩, h3⟩, h4⟩ := hs
    have hz : d.shown.length ≤ sizeLine := by rw [sizeLine_eq]; exact h4
    obtain ⟨as, rd⟩ := Dp.reads I d v u (dq_dp d v hd) r0
    have big : ∀ a, u = .ref a → wpAny (model X.prog X.w) X.A (call (.builtin "repr") [u]) (EP X pins σ Q) X.xe s := by
      rintro a rfl
      exact repr_of_reads' rd h1 (fun z => by rw [h2] at z; cases z) g (by omega) (fun _ _ z => z) (fun h' t tk k => ⟨.str d.shown, H, I.kept k, ⟨_, rfl⟩, q⟩) hz
    cases hd with
    | non =>
      cases r0
      exact PySem.P.repr_of_none ⟨.str _, H, I.tok _, ⟨_, rfl⟩, q⟩
    | bl b =>
      cases r0
      exact PySem.P.repr_of_bool ⟨.str _, H, I.tok _, ⟨_, rfl⟩, q⟩
    | int i =>
      obtain ⟨t, rfl⟩ := r0
      exact PySem.P.repr_of_int (by simpa [PyData.showable] using h1) ⟨.str _, H, I.tok _, ⟨_, rfl⟩, q⟩
    | str x =>
      obtain ⟨t, rfl⟩ := r0
      exact PySem.P.repr_of_str ⟨.str _, H, I.tok _, ⟨_, rfl⟩, q⟩ (by simpa [PyData.shown] using hz)
    | lst _ _ => exact big _ r0
    | tup _ _ => exact big _ r0
/-! ### the law's own call -/
/-- the law's def is called at a heap in which the script at a may be tracked -/
theorem law_runG {P : Program} {w : World} {K : PySem.W.Frag} {mg mb : Str → Option Value} {CX : CXT} {k : Nat} {fa a : Addr} {fd : FuncData} {x : Str} {sp : Sp} {s₁ : Shared} {vs : List Value} {ns : List Int} {H : Hp}
    (inK : K.In s₁.heap) (globs : s₁.heap.Ns mainGlobals mg) (blts : s₁.heap.Ns builtinsNs mb) (boot : ∀ x : Str, x ≠ "__name__" → mb x = bootBuiltins x) (lim : s₁.heap.NoLimit) (gens : s₁.gens = #[])
    (script : s₁.heap.get? a = some { cls := .type "list", data := .seq vs.toArray }) (room : Room k callerA)
    (F : ∀ base : Heap, K.In base → base.Ns mainGlobals mg → FnG P w K mg base CX k fa fd [x] sp) (bind : ∀ (s : Shared) (u : Value), BindsTo s fd ⟨[u], []⟩ [(x, u)])
    (CXno : ∀ H e s', CX [] H s₁ (fun _ _ _ => False) e s' → False)
    (only : Only H) (hok : HOk P w H s₁.heap) (atA : ∀ b, H b ≠ none → b = a) (freeK : H a ≠ none → K.lookup a = none)
    (want : sp [.ref a] H (fun v _ => v = .bl true) fun _ _ _ => False) :
    codeAny (model P w) callerA (.call (.ref fa) ⟨[.ref a], []⟩) (fun r s' => r = .ok (.ret (.bool true)) ∧ OldK s₁.heap s'.heap ∧ s'.os = s₁.os ∧ AllBare s'.gens) s₁ := by
  have notDict : ∀ {b : Addr} {o : Obj} {es : Array DictEntry} {ep : Nat}, s₁.heap.get? b = some o → o.data = .dict es ep → H b = none := by
    intro b o es ep e d
    match q : H b with
    | none => rfl
    | some u =>
      have eb : b = a := atA b (by simp [q])
      rw [eb, script] at e
      cases e
      cases d
  have keepNs : ∀ {b : Addr} {m : Str → Option Value}, s₁.heap.Ns b m → (hidT s₁.heap H).Ns b m := by
    rintro b m ⟨o, es, ep, e, d, r⟩
    exact ⟨o, es, ep, hidT_get e (notDict e d), d, r⟩
  have inB : K.In (hidT s₁.heap H) := by
    intro b o e
    apply hidT_get (inK b o e)
    match q : H b with
    | none => rfl
    | some u =>
      have eb : b = a := atA b (by simp [q])
      rw [eb, freeK (by rw [← eb, q]; simp)] at e
      cases e
  have md : Mod K mg (hidT s₁.heap H) := by
    obtain ⟨mc, h1, h2⟩ := lim
    exact ⟨inB, keepNs globs, ⟨mb, keepNs blts, boot⟩, mc, keepNs h1, h2⟩
  have e0 : Env0 P w K mg (hidT s₁.heap H) callerA [] s₁ H :=
    ⟨rfl, md, fun b o e => of_hidT e, Nat.le_of_eq (hidT_size _ _), trivial, fun b hb => absurd (show b ∈ ([] : List Addr) from hb) (by simp), hok, .of_eq gens⟩
  apply codeAny_mono ((F _ inB (keepNs globs)).run callerA [] s₁ H ⟨[.ref a], []⟩ [.ref a] [.ref a] _ _ rfl room e0 (bind s₁ (.ref a)) (.cons rfl .nil) want)
  intro r s' h
  match r, h with
  | .error e, h => exact (CXno H e s' h).elim
  | .ok (.ret u), h =>
    obtain ⟨v, H', os, bare, un, hok', r', q⟩ := h
    subst q
    obtain rfl : u = Value.bool true := r'
    refine ⟨rfl, OldK.of_keep fun b o e => ?_, os, bare⟩
    match q : H b with
    | none => exact un.keep b o e q (by intro z; exact absurd (show b ∈ ([] : List Addr) from z) (by simp)) (by simp)
    | some u =>
      rcases only b with z | ⟨ob, xs, z⟩
      · rw [q] at z; cases z
      · have e1 := (hok b _ z).1
        have e2 := (hok' b _ (un.frzs b ob _ z)).1
        rw [e] at e1
        cases e1
        exact e2
theorem law_callG {P : Program} {w : World} {K : PySem.W.Frag} {mg mb : Str → Option Value} {CX : CXT} {k : Nat} {fa a : Addr} {fd : FuncData} {x : Str} {sp : Sp} {s₁ : Shared} {vs : List Value} {ns : List Int}
    (inK : K.In s₁.heap) (globs : s₁.heap.Ns mainGlobals mg) (blts : s₁.heap.Ns builtinsNs mb) (boot : ∀ x : Str, x ≠ "__name__" → mb x = bootBuiltins x) (lim : s₁.heap.NoLimit) (gens : s₁.gens = #[])
    (script : s₁.heap.get? a = some { cls := .type "list", data := .seq vs.toArray }) (whole : IntsAre vs ns) (few : ns.length ≤ sizeLine) (room : Room k callerA)
    (F : ∀ base : Heap, K.In base → base.Ns mainGlobals mg → FnG P w K mg base CX k fa fd [x] sp) (bind : ∀ (s : Shared) (u : Value), BindsTo s fd ⟨[u], []⟩ [(x, u)])
    (want : ∀ H : Hp, Only H → SqL K H a (ns.map V.int) → sp [.ref a] H (fun v _ => v = .bl true) fun _ _ _ => False)
    (CXno : ∀ H e s', CX [] H s₁ (fun _ _ _ => False) e s' → False) :
    codeAny (model P w) callerA (.call (.ref fa) ⟨[.ref a], []⟩) (fun r s' => r = .ok (.ret (.bool true)) ∧ OldK s₁.heap s'.heap ∧ s'.os = s₁.os ∧ AllBare s'.gens) s₁ := by
  have rv := vals_ints whole
  have lenV := whole.length
  by_cases hk : ∃ o, K.lookup a = some o
  · obtain ⟨o, hk⟩ := hk
    have e := inK a o hk
    rw [script] at e
    cases e
    have nothing : ∀ b, (fun _ => none : Hp) b = none := fun _ => rfl
    exact law_runG (ns := ns) (H := fun _ => none) inK globs blts boot lim gens script room F bind CXno (fun b => .inl rfl) (fun b u z => by cases (nothing b).symm.trans z) (fun b z => absurd rfl z) (fun z => absurd rfl z)
      (want _ (fun b => .inl rfl) (.inr ⟨_, vs.toArray, _, hk, rfl, rfl, rfl, by rw [List.size_toArray, lenV]; exact few, by simpa using rv⟩))
  · have noK : K.lookup a = none := by
      cases q : K.lookup a with
      | none => rfl
      | some o => exact absurd ⟨o, q⟩ hk
    obtain ⟨H, hA, hN⟩ : ∃ H : Hp, H a = some (.frz { cls := .type "list", data := .seq vs.toArray } (.lst (ns.map V.int))) ∧ ∀ b, b ≠ a → H b = none :=
      ⟨upd (fun _ => none) a _, upd_same, fun b hb => upd_ne hb⟩
    have only : Only H := fun b => by
      by_cases hb : b = a
      · subst hb; exact .inr ⟨_, _, hA⟩
      · exact .inl (hN b hb)
    refine law_runG (ns := ns) (H := H) inK globs blts boot lim gens script room F bind CXno only (fun b u z => ?_) (fun b z => ?_) (fun _ => noK) (want H only (.inl (.inr ⟨_, hA⟩)))
    · by_cases hb : b = a
      · subst hb
        rw [hA] at z
        cases z
        exact ⟨script, by rw [List.length_map]; exact few, vs, _, rv, script⟩
      · rw [hN b hb] at z; cases z
    · exact Classical.byContradiction fun hb => z (hN b hb)
/-- the goal that k_head leaves, from the law's promise -/
theorem walk_ofG {l : PySem.W.OpenLaw} {n k : Nat} {q : Program} {loose : List Str} {XP : (Str → Option Value) → Heap → Prop} {YP : World → Heap → Prop} {d : DefRec} {K : Params → PySem.W.Frag} {CX : World → CXT} {sp : World → Sp} {x : Str}
    (hn : l.most = some n) (hn2 : n ≤ sizeLine) (hdf : d.params.defaults = []) (room : Room k callerA)
    (hY : ∀ (w : World) (h : Heap), YP w h → (K w.params).In h)
    (F : ∀ (w : World) (mg : Str → Option Value) (fa : Addr) (h : Heap), (K w.params).In h → h.Ns mainGlobals mg → mg d.name = some (.ref fa) →
      ∃ fd : FuncData, (∀ (s : Shared) (u : Value), BindsTo s fd ⟨[u], []⟩ [(x, u)]) ∧
        ∀ base : Heap, (K w.params).In base → base.Ns mainGlobals mg → FnG l.prog w (K w.params) mg base (CX w) k fa fd [x] (sp w))
    (want : ∀ (w : World) (H : Hp) (a : Addr) (ns : List Int), ns.length ≤ n → Only H → SqL (K w.params) H a (ns.map V.int) → sp w [.ref a] H (fun v _ => v = .bl true) fun _ _ _ => False)
    (CXno : ∀ (w : World) (H : Hp) (s : Shared) (e : Value) (s' : Shared), CX w [] H s (fun _ _ _ => False) e s' → False) :
    PySem.W.WalkO q loose XP YP l.row.toRowW d [] (fun f vs => PySem.call f vs) := by
  apply Att.attach_call hn hdf
  intro w s₀ s₁ mg mb fa o pm cd doc a vs ns G Y ho hd hcd hmg hobj hints hlen hg
  obtain ⟨fd, hb, hF⟩ := F w mg fa _ (hY w _ Y) G.T.g hmg
  exact law_callG (hY w _ Y) G.T.g G.T.b G.T.builtins G.T.nolimit hg hobj hints (Nat.le_trans hlen hn2) room hF hb (fun H hO hS => want w H a ns hlen hO hS) fun H e s' => CXno w H s₁ e s'
end L2.AR
set_option Elab.async false
set_option linter.all false
set_option maxRecDepth 100000
set_option maxHeartbeats 4000000
/-! Fw3: readings by plain functions: expressions, tests, argument lists. -/
namespace L2.AR
open PySem PySem.Spec PyProof.Rows

def post {α β : Type} (G : Gh) (σ : St) (F H : Hp) (rel : Hp → β → α → Prop) (Q : β → Hp → Prop) : Out α → Prop
  | .ok a hs => ∀ F' H' v, Step G.ha F H F' H' → HandOK G.ha F' H' hs → rel F' v a → Q v H'
  | .err c d hs => ∀ F' H' dx v, Step G.ha F H F' H' → HandOK G.ha F' H' hs → H' dx = some (.xd [(G.fld c, v)]) → G.ha ≠ some dx → Dq G.K F' v d → G.W (.ref (G.cl c)) (some dx) σ H'
  | .stuck => False
def rd {α β : Type} (G : Gh) (rel : Hp → β → α → Prop) (g : Rho → M α) : St → Hp → (β → Hp → Prop) → Prop :=
  fun σ H Q => ∃ F hs ρ, Rel G F H hs ρ σ ∧ post G σ F H rel Q (g ρ hs)
def relE (G : Gh) : Hp → V → D → Prop := fun F v d => Rp G.K F G.ha v d
def relB : Hp → Bool → Bool → Prop := fun _ b c => b = c
def relA (G : Gh) : Hp → List V → List D → Prop := fun F vs ds => RpAll G.K F G.ha vs ds
abbrev tE (G : Gh) (g : Rho → M D) : TE := rd G (relE G) g
abbrev tT (G : Gh) (g : Rho → M Bool) : TT := rd G relB g
abbrev tA (G : Gh) (g : Rho → M (List D)) : TA := rd G (relA G) g
section
variable {α β γ δ : Type} {G : Gh} {σ : St} {F H F1 H1 : Hp} {hs : HS} {ρ : Rho} {rel : Hp → β → α → Prop} {rel2 : Hp → δ → γ → Prop}
theorem post.mono {Q Q' : β → Hp → Prop} (i : ∀ v H, Q v H → Q' v H) : ∀ {o : Out α}, post G σ F H rel Q o → post G σ F H rel Q' o
  | .ok _ _, p => fun F' H' v s h r => i _ _ (p F' H' v s h r)
  | .err _ _ _, p => p
  | .stuck, p => p
theorem post.after {Q : β → Hp → Prop} (s : Step G.ha F H F1 H1) : ∀ {o : Out α}, post G σ F H rel Q o → post G σ F1 H1 rel Q o
  | .ok _ _, p => fun F' H' v s' h r => p F' H' v (s.trans s' fun x e => (h x e).1) h r
  | .err _ _ _, p => fun F' H' dx v s' h => p F' H' dx v (s.trans s' fun x e => (h x e).1) h
  | .stuck, p => p
theorem rd.mono {g : Rho → M α} {Q Q' : β → Hp → Prop} (h : rd G rel g σ H Q) (i : ∀ v H, Q v H → Q' v H) : rd G rel g σ H Q' := by
  obtain ⟨F, hs, ρ, R, p⟩ := h
  exact ⟨F, hs, ρ, R, p.mono i⟩
/-- a first part, then what hangs on it -/
theorem rd_bind {g : Rho → M α} {f : α → M γ} {Q : δ → Hp → Prop} (R : Rel G F H hs ρ σ) (p : post G σ F H rel2 Q (bnd (g ρ) f hs)) :
    rd G rel g σ H fun v H1 => ∃ F1 hs1 a, Rel G F1 H1 hs1 ρ σ ∧ Step G.ha F H F1 H1 ∧ rel F1 v a ∧ post G σ F1 H1 rel2 Q (f a hs1) := by
  refine ⟨F, hs, ρ, R, ?_⟩
  unfold bnd at p
  cases e : g ρ hs with
  | ok a hs' =>
    rw [e] at p
    exact fun F' H' v s h r => ⟨F', hs', a, R.step s h, s, r, p.after s⟩
  | err c d hs' =>
    rw [e] at p
    exact p
  | stuck =>
    rw [e] at p
    exact p
/-- an end -/
theorem post_ret {Q : β → Hp → Prop} {a : α} {v : β} (R : Rel G F H hs ρ σ) (p : post G σ F H rel Q (ret a hs)) (r : rel F v a) : Q v H := p F H v (Step.refl R.sub) R.hand r
theorem post_ret' {Q : β → Hp → Prop} {a : α} {v : β} (R : Rel G F H hs ρ σ) (p : post G σ F H rel Q (ret a hs)) (s : PStep F H F1 H1) (r : rel F1 v a) : Q v H1 := p F1 H1 v s.step (R.hand.pstep s) r
end
section
variable {X : Cx} {e : Expr}
theorem peI {t t' : TE} (h : PE X e t) (i : ∀ σ H Q, t' σ H Q → t σ H Q) : PE X e t' := ⟨fun pins s σ H Q I q => h.run pins s σ H Q I (i _ _ _ q)⟩
theorem ptI {t t' : TT} (h : PT X e t) (i : ∀ σ H Q, t' σ H Q → t σ H Q) : PT X e t' := ⟨fun pins s σ H Q I q => h.run pins s σ H Q I (i _ _ _ q)⟩
theorem pwI {t t' : TT} (h : PW X e t) (i : ∀ σ H Q, t' σ H Q → t σ H Q) : PW X e t' := ⟨fun wh pins s σ H Q I q => h.run wh pins s σ H Q I (i _ _ _ q)⟩
theorem paI {es : List Expr} {t t' : TA} (h : PA X es t) (i : ∀ σ H Q, t' σ H Q → t σ H Q) : PA X es t' := ⟨fun pos pins s σ H Q I q => h.run pos pins s σ H Q I (i _ _ _ q)⟩
end

/-! ### names, constants -/
def gVar (i : Nat) (ρ : Rho) : M D :=
  match ρ[i]? with
  | some (.dat d) => ret d
  | _ => stk
section
variable {X : Cx} {G : Gh} {pos : Pos}
theorem e_var (i : Nat) {x : Str} (hN : X.N[i]? = some x := by rfl) (hv : Vis X.env.scope x := by first | exact Or.inl rfl | exact Or.inr (Or.inl rfl) | exact Or.inr (Or.inr rfl)) (hd : (x == ("__debug__" : Str)) = false := by decide)
    (hcd : (x == ("__classdict__" : Str)) = false := by decide) : PE X (.Name x pos) (tE G (gVar i)) := by
  refine peI (pe_var hN hv hd hcd) ?_
  rintro σ H Q ⟨F, hs, ρ, R, p⟩
  unfold gVar at p
  cases e : ρ[i]? with
  | none => rw [e] at p; exact p.elim
  | some s =>
    rw [e] at p
    cases s with
    | dat d =>
      obtain ⟨v, ev, r⟩ := R.slots i _ e
      exact ⟨v, ev, post_ret R p r⟩
    | _ => exact p.elim
theorem e_con {e : Expr} {v : V} {d : D} (h : PE X e (tC v)) (r : ∀ F, Dq G.K F v d) : PE X e (tE G fun _ => ret d) := by
  refine peI h ?_
  rintro σ H Q ⟨F, hs, ρ, R, p⟩
  exact post_ret R p (.inl (r F))
theorem e_int {i j} : PE X (.Constant (.int i) j pos) (tE G fun _ => ret (.int i)) := e_con pe_int fun _ => .int i
theorem e_bl {b j} : PE X (.Constant (.bool b) j pos) (tE G fun _ => ret (.bool b)) := e_con pe_bl fun _ => .bl b
theorem e_non {j} : PE X (.Constant .none j pos) (tE G fun _ => ret .none) := e_con pe_non fun _ => .non
theorem e_str {x j} : PE X (.Constant (.str x) j pos) (tE G fun _ => ret (.str x)) := e_con pe_str fun _ => .str x
/-- a module's constant that is an int -/
theorem e_glob {x : Str} {i : Int} {u : Value} (hg : Gl X x) (hm : X.mg x = some u) (r : RelV (.int i) u) (hd : (x == ("__debug__" : Str)) = false := by decide) : PE X (.Name x pos) (tE G fun _ => ret (.int i)) := e_con (pe_glob hg hm r hd) fun _ => .int i
end

/-! ### two values, one -/
def op2 (f : D → D → Option D) (x y : D) : M D := if isTok x || isTok y then stk else lift (f x y)
def R2ok (K : PySem.W.Frag) (r : R2) (f : D → D → Option D) : Prop :=
  ∀ (F H : Hp) (v w : V) (x y z : D) (Q : VK), Same F H → Dq K F v x → Dq K F w y → f x y = some z → (∀ F' H' u, PStep F H F' H' → Dq K F' u z → Q u H') → r v w H Q
section
variable {X : Cx} {G : Gh} {pos : Pos} {a b c : Expr} {ga gb gc : Rho → M D} {r r' : R2} {f f' : D → D → Option D}
theorem op2_post {σ : St} {F H : Hp} {hs : HS} {ρ : Rho} {v w : V} {x y : D} {Q : VK} (R : Rel G F H hs ρ σ) (hv : Rp G.K F G.ha v x) (hw : Rp G.K F G.ha w y) (p : post G σ F H (relE G) Q (op2 f x y hs)) (hf : R2ok G.K r f) : r v w H Q := by
  unfold op2 at p
  split at p
  · exact p.elim
  · rename_i ht
    simp only [Bool.or_eq_true, not_or, Bool.not_eq_true] at ht
    cases e : f x y with
    | none => rw [e] at p; exact p.elim
    | some z =>
      rw [e] at p
      exact hf F H v w x y z Q R.sub (hv.dp ht.1) (hw.dp ht.2) e fun F' H' u s d => post_ret' R p s (.inl d)
theorem two_vals {σ : St} {H : Hp} {Q : VK} {k : D → D → M D} (h : tE G (fun ρ => bnd (ga ρ) fun x => bnd (gb ρ) fun y => k x y) σ H Q) :
    tE G ga σ H fun v H1 => tE G gb σ H1 fun w H2 => ∃ F hs ρ x y, Rel G F H2 hs ρ σ ∧ Rp G.K F G.ha v x ∧ Rp G.K F G.ha w y ∧ post G σ F H2 (relE G) Q (k x y hs) := by
  obtain ⟨F, hs, ρ, R, p⟩ := h
  refine (rd_bind R p).mono ?_
  rintro v H1 ⟨F1, hs1, x, R1, s1, r1, p1⟩
  refine (rd_bind R1 p1).mono ?_
  rintro w H2 ⟨F2, hs2, y, R2, s2, r2, p2⟩
  exact ⟨F2, hs2, ρ, x, y, R2, r1.same s2.ff, r2, p2⟩
theorem e_op {op : Operator} (ho : OpR X (binaryOp op) r) (hf : R2ok G.K r f) (ha : PE X a (tE G ga)) (hb : PE X b (tE G gb)) :
    PE X (.BinOp a op b pos) (tE G fun ρ => bnd (ga ρ) fun x => bnd (gb ρ) fun y => op2 f x y) := by
  refine peI (pe_op ho ha hb) fun σ H Q h => ?_
  refine (two_vals h).mono fun v H1 h1 => h1.mono ?_
  rintro w H2 ⟨F, hs, ρ, x, y, R, r1, r2, p⟩
  exact op2_post R r1 r2 p hf
theorem e_cmp {op : CmpOp} (ho : OpR X (compareOp op) r) (hf : R2ok G.K r f) (ha : PE X a (tE G ga)) (hb : PE X b (tE G gb)) (hm : behindInMarks op b = false := by first | exact nomark _ | rfl) :
    PE X (.Compare a [op] [b] pos) (tE G fun ρ => bnd (ga ρ) fun x => bnd (gb ρ) fun y => op2 f x y) := by
  refine peI (pe_cmpR ho ha hb hm) fun σ H Q h => ?_
  refine (two_vals h).mono fun v H1 h1 => h1.mono ?_
  rintro w H2 ⟨F, hs, ρ, x, y, R, r1, r2, p⟩
  exact op2_post R r1 r2 p hf
theorem e_ix (ho : IxR X r) (hf : R2ok G.K r f) (ha : PE X a (tE G ga)) (hb : PE X b (tE G gb)) (hs : PlainIx b := by intro _ _; rfl) :
    PE X (.Subscript a b pos) (tE G fun ρ => bnd (ga ρ) fun x => bnd (gb ρ) fun y => op2 f x y) := by
  refine peI (pe_ix ho ha hb hs) fun σ H Q h => ?_
  refine (two_vals h).mono fun v H1 h1 => h1.mono ?_
  rintro w H2 ⟨F, hs, ρ, x, y, R, r1, r2, p⟩
  exact op2_post R r1 r2 p hf
theorem OpR.or {F : Value → Value → Sem Value} (h : OpR X F r) (h' : OpR X F r') : OpR X F (fun x y H Q => r x y H Q ∨ r' x y H Q) :=
  fun pins s σ H x y u v Q I rx ry q => q.elim (h pins s σ H x y u v Q I rx ry) (h' pins s σ H x y u v Q I rx ry)
end

/-! ### argument lists, displays, built-in calls -/
section
variable {X : Cx} {G : Gh} {pos : Pos} {e : Expr} {es : List Expr} {g : Rho → M D} {gs : Rho → M (List D)}
theorem a_nil : PA X [] (tA G fun _ => ret []) := by
  refine paI pa_nil ?_
  rintro σ H Q ⟨F, hs, ρ, R, p⟩
  exact post_ret R p .nil
theorem a_cons (he : PE X e (tE G g)) (hr : PA X es (tA G gs)) (hs : starEach (e :: es) X.env = (false, eval e X.env) :: starEach es X.env := by rfl) :
    PA X (e :: es) (tA G fun ρ => bnd (g ρ) fun d => bnd (gs ρ) fun ds => ret (d :: ds)) := by
  refine paI (pa_cons he hr hs) ?_
  rintro σ H Q ⟨F, hs, ρ, R, p⟩
  refine (rd_bind R p).mono ?_
  rintro v H1 ⟨F1, hs1, x, R1, s1, r1, p1⟩
  refine (rd_bind R1 p1).mono ?_
  rintro vs H2 ⟨F2, hs2, ds, R2, s2, r2, p2⟩
  exact post_ret R2 p2 (.cons (r1.same s2.ff) r2)
def opA (f : List D → Option D) (ds : List D) : M D := if ds.any isTok then stk else lift (f ds)
def RAok (K : PySem.W.Frag) (r : List V → Hp → VK → Prop) (f : List D → Option D) : Prop :=
  ∀ (F H : Hp) (vs : List V) (ds : List D) (z : D) (Q : VK), Same F H → DqAll K F vs ds → f ds = some z → (∀ F' H' u, PStep F H F' H' → Dq K F' u z → Q u H') → r vs H Q
theorem opA_post {f : List D → Option D} {r : List V → Hp → VK → Prop} {σ : St} {F H : Hp} {hs : HS} {ρ : Rho} {vs : List V} {ds : List D} {Q : VK} (R : Rel G F H hs ρ σ) (hv : RpAll G.K F G.ha vs ds) (p : post G σ F H (relE G) Q (opA f ds hs)) (hf : RAok G.K r f) : r vs H Q := by
  unfold opA at p
  split at p
  · exact p.elim
  · rename_i ht
    rw [Bool.not_eq_true] at ht
    cases q : f ds with
    | none => rw [q] at p; exact p.elim
    | some z =>
      rw [q] at p
      exact hf F H vs ds z Q R.sub (hv.dp ht) q fun F' H' u s d => post_ret' R p s (.inl d)
theorem args_then {t : TA} {σ : St} {H : Hp} {Q : VK} {k : List D → M D} (h : tE G (fun ρ => bnd (gs ρ) fun ds => k ds) σ H Q) :
    tA G gs σ H fun vs H1 => ∃ F hs ρ ds, Rel G F H1 hs ρ σ ∧ RpAll G.K F G.ha vs ds ∧ post G σ F H1 (relE G) Q (k ds hs) := by
  obtain ⟨F, hs, ρ, R, p⟩ := h
  refine (rd_bind R p).mono ?_
  rintro vs H1 ⟨F1, hs1, ds, R1, s1, r1, p1⟩
  exact ⟨F1, hs1, ρ, ds, R1, r1, p1⟩
def mkTup (ds : List D) : Option D := if ds.length ≤ 1000000 then some (.tuple ds) else none
def mkLst (ds : List D) : Option D := if ds.length ≤ 1000000 then some (.list ds) else none
theorem line_of {n : Nat} (h : n ≤ 1000000) : n < sizeLine := Nat.lt_of_le_of_lt h (by rw [sizeLine_eq]; decide)
theorem mkTup_ok {K : PySem.W.Frag} : RAok K (fun xs H Q => xs.length ≤ sizeLine ∧ NewT H xs Q) mkTup := by
  intro F H vs ds z Q sb hd e q
  unfold mkTup at e
  split at e
  · rename_i hl
    cases e
    refine ⟨by rw [dpAll_len hd]; exact Nat.le_of_lt (line_of hl), fun p o np no => q _ _ _ (PStep.alloc sb np) ?_⟩
    exact .tup ⟨o, upd_same, no⟩ (dpAll_same (PStep.alloc sb np (o := .frz o (.tup vs))).ff _ _ hd)
  · cases e
theorem mkLst_ok {K : PySem.W.Frag} : RAok K (fun xs H Q => xs.length ≤ sizeLine ∧ ∀ p, H p = none → Q (.ref p) (upd H p (.lst xs))) mkLst := by
  intro F H vs ds z Q sb hd e q
  unfold mkLst at e
  split at e
  · rename_i hl
    cases e
    refine ⟨by rw [dpAll_len hd]; exact Nat.le_of_lt (line_of hl), fun p np => q _ _ _ (PStep.alloc sb np) ?_⟩
    exact .lst (upd_same) (dpAll_same (PStep.alloc sb np (o := .lst vs)).ff _ _ hd)
  · cases e
theorem e_tup {x1} (h : PA X es (tA G gs)) : PE X (.Tuple es x1 pos) (tE G fun ρ => bnd (gs ρ) (opA mkTup)) := by
  refine peI (pe_tupF h) fun σ H Q w => ?_
  refine (args_then (t := tA G gs) w).mono ?_
  rintro vs H1 ⟨F, hs, ρ, ds, R, r, p⟩
  exact opA_post R r p mkTup_ok
theorem e_lst (h : PA X es (tA G gs)) : PE X (.List es pos) (tE G fun ρ => bnd (gs ρ) (opA mkLst)) := by
  refine peI (pe_lst h) fun σ H Q w => ?_
  refine (args_then (t := tA G gs) w).mono ?_
  rintro vs H1 ⟨F, hs, ρ, ds, R, r, p⟩
  exact opA_post R r p mkLst_ok
theorem e_callB {x : Str} {id : String} {p : Pos} {r : List V → Hp → VK → Prop} {f : List D → Option D} (hc : CallR X (.builtin id) r) (hf : RAok G.K r f) (hg : Gl X x) (hm : X.mg x = none) (hv : bootBuiltins x = some (.builtin id)) (ha : PA X (e :: es) (tA G gs)) (hn : x ≠ "__name__" := by decide) (hdb : (x == ("__debug__" : Str)) = false := by decide)
    (he : starEach (e :: es) X.env = (false, eval e X.env) :: starEach es X.env := by rfl) (hpl : (backTo pos (starEach es X.env)).any (·.1) = false := by rfl) : PE X (.Call (.Name x p) (e :: es) [] pos) (tE G fun ρ => bnd (gs ρ) (opA f)) := by
  refine peI (pe_callB hc hg hm hv ha hn hdb he hpl) fun σ H Q w => ?_
  refine (args_then (t := tA G gs) w).mono ?_
  rintro vs H1 ⟨F, hs, ρ, ds, R, r, p⟩
  exact opA_post R r p hf
theorem e_callTy {x : Str} {T : String} {p : Pos} {r : List V → Hp → VK → Prop} {f : List D → Option D} (hc : CallR X (.type T) r) (hf : RAok G.K r f) (hg : Gl X x) (hm : X.mg x = none) (hv : bootBuiltins x = some (.type T)) (ha : PA X (e :: es) (tA G gs)) (hn : x ≠ "__name__" := by decide) (hdb : (x == ("__debug__" : Str)) = false := by decide)
    (he : starEach (e :: es) X.env = (false, eval e X.env) :: starEach es X.env := by rfl) (hpl : (backTo pos (starEach es X.env)).any (·.1) = false := by rfl) : PE X (.Call (.Name x p) (e :: es) [] pos) (tE G fun ρ => bnd (gs ρ) (opA f)) := by
  refine peI (pe_callTy hc hg hm hv ha hn hdb he hpl) fun σ H Q w => ?_
  refine (args_then (t := tA G gs) w).mono ?_
  rintro vs H1 ⟨F, hs, ρ, ds, R, r, p⟩
  exact opA_post R r p hf
end

/-! ### a def of the text -/
/-- a def that does as m says: args are data (or the hand), what stood stands but for the hand -/
def spM (K : PySem.W.Frag) (cl : Nat → Addr) (fld : Nat → Str) (m : List D → M D) : Sp := fun vs H Q E => ∃ ha F hs ds, Same F H ∧ HandOK ha F H hs ∧ RpAll K F ha vs ds ∧
  match m ds hs with
  | .ok d hs' => ∀ F' H' v, Step ha F H F' H' → HandOK ha F' H' hs' → Rp K F' ha v d → Q v H'
  | .err c d hs' => ∀ F' H' dx v, Step ha F H F' H' → HandOK ha F' H' hs' → H' dx = some (.xd [(fld c, v)]) → ha ≠ some dx → Dq K F' v d → E (.ref (cl c)) (some dx) H'
  | .stuck => False
section
variable {X : Cx} {G : Gh} {pos p : Pos} {x : Str} {e : Expr} {es : List Expr} {gs : Rho → M (List D)} {m : List D → M D} {k : Nat} {f : Addr} {fd : FuncData} {ps : List Str}
theorem call_post {σ : St} {F H : Hp} {hs : HS} {ρ : Rho} {vs : List V} {ds : List D} {Q : VK} (R : Rel G F H hs ρ σ) (r : RpAll G.K F G.ha vs ds) (q : post G σ F H (relE G) Q (m ds hs)) : spM G.K G.cl G.fld m vs H Q (WE G.W σ) := by
  refine ⟨G.ha, F, hs, ds, R.sub, R.hand, r, ?_⟩
  cases z : m ds hs with
  | ok d hs' => rw [z] at q; exact q
  | err c d hs' => rw [z] at q; exact q
  | stuck => rw [z] at q; exact q
theorem e_call (g : Quiet X.A) (tk : Takes X G.W) (F : FnG X.prog X.w X.K X.mg X.base (L2.CX X.prog X.w) k f fd ps (spM G.K G.cl G.fld m)) (hr : Room k X.A) (hg : Gl X x) (hm : X.mg x = some (.ref f)) (hk : PySem.W.keepIn X.K (.ref f) = true) (hb : Binds X.K fd ps [])
    (ha : PA X (e :: es) (tA G gs)) (hdb : (x == ("__debug__" : Str)) = false := by decide) (he : starEach (e :: es) X.env = (false, eval e X.env) :: starEach es X.env := by rfl) (hpl : (backTo pos (starEach es X.env)).any (·.1) = false := by rfl) :
    PE X (.Call (.Name x p) (e :: es) [] pos) (tE G fun ρ => bnd (gs ρ) m) := by
  refine peI (pe_callG g F hr hg hm hk hb (fun σ => passAt tk σ) ha hdb he hpl) fun σ H Q w => ?_
  refine (args_then (t := tA G gs) w).mono ?_
  rintro vs H1 ⟨F, hs, ρ, ds, R, r, q⟩
  exact call_post R r q
theorem e_call0 (g : Quiet X.A) (tk : Takes X G.W) (F : FnG X.prog X.w X.K X.mg X.base (L2.CX X.prog X.w) k f fd ps (spM G.K G.cl G.fld m)) (hr : Room k X.A) (hg : Gl X x) (hm : X.mg x = some (.ref f)) (hk : PySem.W.keepIn X.K (.ref f) = true) (hb : Binds X.K fd ps [])
    (hdb : (x == ("__debug__" : Str)) = false := by decide) :
    PE X (.Call (.Name x p) [] [] pos) (tE G fun ρ => m []) := by
  refine peI (pe_callG0 g F hr hg hm hk hb (fun σ => passAt tk σ) hdb) fun σ H Q w => ?_
  obtain ⟨F, hs, ρ, R, q⟩ := w
  exact call_post R .nil q
end

/-! ### tests, and, or, not -/
def asB : D → M Bool
  | .bool b => ret b
  | _ => stk
section
variable {X : Cx} {G : Gh} {pos : Pos} {e a b : Expr} {rest : List Expr} {g ga gb : Rho → M D} {u v : Rho → M Bool}
theorem bool_of {F : Hp} {x : V} {c : Bool} (h : Rp G.K F G.ha x (.bool c)) : x = .bl c := by
  cases h.dp rfl
  rfl
theorem asB_post {α β : Type} {rel : Hp → β → α → Prop} {Q : β → Hp → Prop} {σ : St} {F H : Hp} {hs : HS} {ρ : Rho} {x : V} {d : D} {k : Bool → M α} (R : Rel G F H hs ρ σ) (hv : Rp G.K F G.ha x d) (p : post G σ F H rel Q (bnd (asB d) k hs)) : ∃ c, x = .bl c ∧ post G σ F H rel Q (k c hs) := by
  cases d with
  | bool c => exact ⟨c, bool_of hv, p⟩
  | _ => exact p.elim
theorem bnd_ret_right {α : Type} (x : M α) : bnd x ret = x := by
  funext h
  unfold bnd
  cases x h <;> rfl
theorem t_val (h : PE X e (tE G g)) (he : ∀ whole, isTrue e X.env whole = (do let v ← whole; standAt e.pos; holding [v] (truthy v)) := by intro _; rfl) : PT X e (tT G fun ρ => bnd (g ρ) asB) := by
  refine ptI (pt_val h he) ?_
  rintro σ H Q ⟨F, hs, ρ, R, p⟩
  refine (rd_bind R p).mono ?_
  rintro x H1 ⟨F1, hs1, d, R1, s1, r1, p1⟩
  rw [show asB d = bnd (asB d) ret from (bnd_ret_right _).symm] at p1
  obtain ⟨c, ex, p2⟩ := asB_post R1 r1 p1
  exact ⟨c, ex, post_ret R1 p2 rfl⟩
theorem t_not (h : PT X e (tT G u)) : PT X (.UnaryOp .Not e pos) (tT G fun ρ => bnd (u ρ) fun c => ret (!c)) := by
  refine ptI (pt_not h) ?_
  rintro σ H Q ⟨F, hs, ρ, R, p⟩
  refine (rd_bind R p).mono ?_
  rintro x H1 ⟨F1, hs1, c, R1, s1, rfl, p1⟩
  exact post_ret R1 p1 rfl
theorem w_and1 (h : PT X a (tT G u)) : PW X (.BoolOp .And [a] pos) (tT G u) := pw_and1 h
theorem w_or1 (h : PT X a (tT G u)) : PW X (.BoolOp .Or [a] pos) (tT G u) := pw_or1 h
theorem w_and (h : PT X a (tT G u)) (h2 : PW X (.BoolOp .And (b :: rest) pos) (tT G v)) : PW X (.BoolOp .And (a :: b :: rest) pos) (tT G fun ρ => bnd (u ρ) fun c => if c = true then v ρ else ret false) := by
  refine pwI (pw_and h h2) ?_
  rintro σ H Q ⟨F, hs, ρ, R, p⟩
  refine (rd_bind R p).mono ?_
  rintro x H1 ⟨F1, hs1, c, R1, s1, rfl, p1⟩
  cases x with
  | true => exact iteT ⟨F1, hs1, ρ, R1, p1⟩
  | false => exact iteF (post_ret R1 p1 rfl)
theorem w_or (h : PT X a (tT G u)) (h2 : PW X (.BoolOp .Or (b :: rest) pos) (tT G v)) : PW X (.BoolOp .Or (a :: b :: rest) pos) (tT G fun ρ => bnd (u ρ) fun c => if c = true then ret true else v ρ) := by
  refine pwI (pw_or h h2) ?_
  rintro σ H Q ⟨F, hs, ρ, R, p⟩
  refine (rd_bind R p).mono ?_
  rintro x H1 ⟨F1, hs1, c, R1, s1, rfl, p1⟩
  cases x with
  | true => exact iteT (post_ret R1 p1 rfl)
  | false => exact iteF ⟨F1, hs1, ρ, R1, p1⟩
/-- as values -/
theorem e_one {op} (h : PE X a (tE G ga)) : PE X (.BoolOp op [a] pos) (tE G ga) := pe_one h
theorem e_and (h : PE X a (tE G ga)) (h2 : PE X (.BoolOp .And (b :: rest) pos) (tE G gb)) : PE X (.BoolOp .And (a :: b :: rest) pos) (tE G fun ρ => bnd (ga ρ) fun x => bnd (asB x) fun c => if c = true then gb ρ else ret (.bool false)) := by
  refine peI (pe_and h h2) ?_
  rintro σ H Q ⟨F, hs, ρ, R, p⟩
  refine (rd_bind R p).mono ?_
  rintro x H1 ⟨F1, hs1, d, R1, s1, r1, p1⟩
  obtain ⟨c, ex, p2⟩ := asB_post R1 r1 p1
  refine ⟨c, ex, ?_⟩
  cases c with
  | true => exact iteT ⟨F1, hs1, ρ, R1, p2⟩
  | false => exact iteF (post_ret R1 p2 (.inl (.bl false)))
theorem e_or (h : PE X a (tE G ga)) (h2 : PE X (.BoolOp .Or (b :: rest) pos) (tE G gb)) : PE X (.BoolOp .Or (a :: b :: rest) pos) (tE G fun ρ => bnd (ga ρ) fun x => bnd (asB x) fun c => if c = true then ret (.bool true) else gb ρ) := by
  refine peI (pe_or h h2) ?_
  rintro σ H Q ⟨F, hs, ρ, R, p⟩
  refine (rd_bind R p).mono ?_
  rintro x H1 ⟨F1, hs1, d, R1, s1, r1, p1⟩
  obtain ⟨c, ex, p2⟩ := asB_post R1 r1 p1
  refine ⟨c, ex, ?_⟩
  cases c with
  | true => exact iteT (post_ret R1 p2 (.inl (.bl true)))
  | false => exact iteF ⟨F1, hs1, ρ, R1, p2⟩
theorem e_not (h : PE X a (tE G ga)) : PE X (.UnaryOp .Not a pos) (tE G fun ρ => bnd (ga ρ) fun x => bnd (asB x) fun c => ret (.bool (!c))) := by
  refine peI (pe_not h) ?_
  rintro σ H Q ⟨F, hs, ρ, R, p⟩
  refine (rd_bind R p).mono ?_
  rintro x H1 ⟨F1, hs1, d, R1, s1, r1, p1⟩
  obtain ⟨c, ex, p2⟩ := asB_post R1 r1 p1
  exact ⟨c, ex, post_ret R1 p2 (.inl (.bl _))⟩
/-- -e -/
theorem e_neg (h : PE X a (tE G ga)) : PE X (.UnaryOp .USub a pos) (tE G fun ρ => bnd (ga ρ) fun x => match x with | .int i => ret (.int (-i)) | _ => stk) := by
  refine peI (pe_un un_neg h) ?_
  rintro σ H Q ⟨F, hs, ρ, R, p⟩
  refine (rd_bind R p).mono ?_
  rintro x H1 ⟨F1, hs1, d, R1, s1, r1, p1⟩
  cases d with
  | int i =>
    cases r1.dp rfl
    exact ⟨i, rfl, post_ret R1 p1 (.inl (.int _))⟩
  | _ => exact p1.elim
theorem e_ifx {c : Expr} (hc : PT X c (tT G u)) (ha : PE X a (tE G ga)) (hb : PE X b (tE G gb)) : PE X (.IfExp c a b pos) (tE G fun ρ => bnd (u ρ) fun z => if z = true then ga ρ else gb ρ) := by
  refine peI (pe_ifExp hc ha hb) ?_
  rintro σ H Q ⟨F, hs, ρ, R, p⟩
  refine (rd_bind R p).mono ?_
  rintro x H1 ⟨F1, hs1, z, R1, s1, rfl, p1⟩
  cases x with
  | true => exact iteT ⟨F1, hs1, ρ, R1, p1⟩
  | false => exact iteF ⟨F1, hs1, ρ, R1, p1⟩
end
end L2.AR
set_option Elab.async false
set_option linter.all false
set_option maxRecDepth 100000
set_option maxHeartbeats 4000000
/-! Fw4: readings of statements, loops and comprehensions by plain functions. -/
namespace L2.AR
open PySem PySem.Spec PyProof.Rows

inductive Fl where
  | nx
  | rt (d : D)
  | bk
  | ct
inductive OutS where
  | ok (f : Fl) (ρ : Rho) (h : HS)
  | err (c : Nat) (d : D) (ρ : Rho) (h : HS)
  | stuck
abbrev MS := Rho → HS → OutS
def postS (G : Gh) (F₀ : Hp) (E : Ends) : OutS → Prop
  | .ok .nx ρ hs => ∀ F H σ, Same F₀ F → Rel G F H hs ρ σ → E.nx σ H
  | .ok (.rt d) ρ hs => ∀ F H σ v, Same F₀ F → Rel G F H hs ρ σ → Rp G.K F G.ha v d → E.rt v H
  | .ok .bk ρ hs => ∀ F H σ, Same F₀ F → Rel G F H hs ρ σ → E.bk σ H
  | .ok .ct ρ hs => ∀ F H σ, Same F₀ F → Rel G F H hs ρ σ → E.ct σ H
  | .err c d ρ hs => ∀ F H σ dx v, Same F₀ F → Rel G F H hs ρ σ → H dx = some (.xd [(G.fld c, v)]) → G.ha ≠ some dx → Dq G.K F v d → G.W (.ref (G.cl c)) (some dx) σ H
  | .stuck => False
def tS (G : Gh) (s : MS) : TS := fun E σ H => ∃ F hs ρ, Rel G F H hs ρ σ ∧ postS G F E (s ρ hs)
theorem postS.after {G : Gh} {F F1 : Hp} {E : Ends} (s : Same F F1) : ∀ {o : OutS}, postS G F E o → postS G F1 E o
  | .ok .nx _ _, p => fun F' H σ s' => p F' H σ (s.trans s')
  | .ok (.rt _) _ _, p => fun F' H σ v s' => p F' H σ v (s.trans s')
  | .ok .bk _ _, p => fun F' H σ s' => p F' H σ (s.trans s')
  | .ok .ct _ _, p => fun F' H σ s' => p F' H σ (s.trans s')
  | .err _ _ _ _, p => fun F' H σ dx v s' => p F' H σ dx v (s.trans s')
  | .stuck, p => p

/-! ### the parts -/
def sSkip : MS := fun ρ h => .ok .nx ρ h
def sBrk : MS := fun ρ h => .ok .bk ρ h
def sCnt : MS := fun ρ h => .ok .ct ρ h
def sSeq (s t : MS) : MS := fun ρ h =>
  match s ρ h with
  | .ok .nx ρ' h' => t ρ' h'
  | o => o
def sExp {α : Type} (g : Rho → M α) (k : α → MS) : MS := fun ρ h =>
  match g ρ h with
  | .ok a h' => k a ρ h'
  | .err c d h' => .err c d ρ h'
  | .stuck => .stuck
def sPut (i : Nat) (d : D) : MS := fun ρ h => .ok .nx (ρ.set i (.dat d)) h
def sSet (i : Nat) (g : Rho → M D) : MS := sExp g (sPut i)
def sRet (g : Rho → M D) : MS := sExp g fun d ρ h => .ok (.rt d) ρ h
def sDo (g : Rho → M D) : MS := sExp g fun _ => sSkip
def sIf (c : Rho → M Bool) (s t : MS) : MS := sExp c fun b => if b = true then s else t
/-- a target -/
abbrev Tgt := D → Rho → Option Rho
def tgN (i : Nat) : Tgt := fun d ρ => some (ρ.set i (.dat d))
def tgAll : List Tgt → List D → Rho → Option Rho
  | [], [], ρ => some ρ
  | t :: ts, d :: ds, ρ => (t d ρ).bind (tgAll ts ds)
  | _, _, _ => none
def tgT (ts : List Tgt) : Tgt := fun d ρ =>
  match d with
  | .tuple ds => tgAll ts ds ρ
  | _ => none
def sTo (t : Tgt) (d : D) : MS := fun ρ h =>
  match t d ρ with
  | some ρ' => .ok .nx ρ' h
  | none => .stuck
def sAsg (g : Rho → M D) (t : Tgt) : MS := sExp g (sTo t)
/-- x, y = e1, e2 -/
def sPar (i j : Nat) (gs : Rho → M (List D)) : MS := sExp gs fun ds ρ h =>
  match ds with
  | [x, y] => .ok .nx ((ρ.set i (.dat x)).set j (.dat y)) h
  | _ => .stuck
/-- x = [] -/
def sNew (i : Nat) : MS := fun ρ h => .ok .nx (ρ.set i (.own [])) h
/-- x.append(e) -/
def sApp (i : Nat) (g : Rho → M D) : MS := fun ρ h =>
  match ρ[i]? with
  | some (.own ds) => sExp g (fun d ρ h => if isTok d = false ∧ ds.length < 1000000 then .ok .nx (ρ.set i (.own (ds ++ [d]))) h else .stuck) ρ h
  | _ => .stuck
/-- from here on the list in slot i is changed no more -/
def sFrz (i : Nat) : MS := fun ρ h =>
  match ρ[i]? with
  | some (.own ds) => .ok .nx (ρ.set i (.dat (.list ds))) h
  | some (.dat _) => .ok .nx ρ h
  | _ => .stuck
def itemsOf : D → Option (List D)
  | .list ds => some ds
  | .tuple ds => some ds
  | _ => none
def loopL (t : Tgt) (body : MS) : List D → MS
  | [] => sSkip
  | d :: ds => fun ρ h =>
    match t d ρ with
    | none => .stuck
    | some ρ1 =>
      match body ρ1 h with
      | .ok .nx ρ2 h2 => loopL t body ds ρ2 h2
      | .ok .ct ρ2 h2 => loopL t body ds ρ2 h2
      | .ok .bk ρ2 h2 => .ok .nx ρ2 h2
      | o => o
def orStuck {α : Type} (k : α → MS) : Option α → MS
  | some a => k a
  | none => fun _ _ => .stuck
def sFor (g : Rho → M D) (t : Tgt) (body : MS) : MS := sExp g fun d => orStuck (loopL t body) (itemsOf d)
def upTo (lo : Int) (n : Nat) : List D := (List.range n).map fun (k : Nat) => .int (lo + k)
def rangeOf : List D → Option (List D)
  | [.int j] => if -(2 ^ 62) ≤ j ∧ j < 2 ^ 62 then some (upTo 0 j.toNat) else none
  | [.int i, .int j] => if -(2 ^ 62) ≤ i ∧ i < 2 ^ 62 ∧ -(2 ^ 62) ≤ j ∧ j < 2 ^ 62 then some (upTo i (j - i).toNat) else none
  | _ => none
def sForR (gs : Rho → M (List D)) (t : Tgt) (body : MS) : MS := sExp gs fun ds => orStuck (loopL t body) (rangeOf ds)
/-- while, at most n turns -/
def loopW (c : Rho → M Bool) (body : MS) : Nat → MS
  | 0 => fun _ _ => .stuck
  | n + 1 => sExp c fun b ρ h => if b = true then
      (match body ρ h with
      | .ok .nx ρ2 h2 => loopW c body n ρ2 h2
      | .ok .ct ρ2 h2 => loopW c body n ρ2 h2
      | .ok .bk ρ2 h2 => .ok .nx ρ2 h2
      | o => o) else .ok .nx ρ h
/-! comprehensions -/
def nerr {α : Type} (x : M α) : M α := fun h =>
  match x h with
  | .err _ _ _ => .stuck
  | o => o
def wipeR (ρ : Rho) : List Nat → Rho
  | [] => ρ
  | v :: vs => (wipeR ρ vs).set v .no
def comp1 (t : Tgt) (c : Rho → M Bool) (g : Rho → M D) (ρ : Rho) : List D → List D → M D
  | [], acc => ret (.list acc)
  | d :: ds, acc =>
    match t d ρ with
    | none => stk
    | some ρ1 => bnd (nerr (c ρ1)) fun b => if b = true then
        bnd (nerr (g ρ1)) fun y => if isTok y = false ∧ acc.length < 1000000 then comp1 t c g ρ ds (acc ++ [y]) else stk
      else comp1 t c g ρ ds acc
def orStk {α β : Type} (k : α → M β) : Option α → M β
  | some a => k a
  | none => stk
def gComp (vs : List Nat) (gi : Rho → M D) (t : Tgt) (c : Rho → M Bool) (g : Rho → M D) (ρ : Rho) : M D := bnd (gi ρ) fun d => orStk (fun ds => comp1 t c g (wipeR ρ vs) ds []) (itemsOf d)
def gCompR (vs : List Nat) (gi : Rho → M (List D)) (t : Tgt) (c : Rho → M Bool) (g : Rho → M D) (ρ : Rho) : M D := bnd (gi ρ) fun d => orStk (fun ds => comp1 t c g (wipeR ρ vs) ds []) (rangeOf d)
def sRaise (c : Nat) (g : Rho → M D) : MS := sExp g fun d ρ h => .err c d ρ h

/-! ### what keeps the relation -/
section
variable {G : Gh} {F H : Hp} {hs : HS} {ρ : Rho} {σ : St}
theorem Rel.put (R : Rel G F H hs ρ σ) {v : V} {d : D} (i : Nat) (r : Rp G.K F G.ha v d) : Rel G F H hs (ρ.set i (.dat d)) (σ.set i (some v)) := by
  refine ⟨R.sub, R.hand, R.base, R.f0, R.new0, by simpa using R.len, fun j s e => ?_, fun j k x y a hjk e1 e2 o1 o2 e3 => ?_⟩
  · rw [List.getElem?_set] at e ⊢
    by_cases hij : i = j
    · subst hij
      rw [if_pos rfl] at e ⊢
      split at e
      · rename_i hl
        cases e
        rw [if_pos (by rw [R.len]; exact hl)]
        exact ⟨v, rfl, r⟩
      · cases e
    · rw [if_neg hij] at e ⊢
      exact R.slots j s e
  · rw [List.getElem?_set] at e1 e2 e3 ⊢
    by_cases hj : i = j
    · rw [if_pos hj] at e1
      split at e1 <;> cases e1 <;> cases o1
    · by_cases hk : i = k
      · rw [if_pos hk] at e2
        split at e2 <;> cases e2 <;> cases o2
      · rw [if_neg hj] at e1 e3
        rw [if_neg hk] at e2 ⊢
        exact R.apart j k x y a hjk e1 e2 o1 o2 e3
/-- a slot is forgotten -/
theorem Rel.gone (R : Rel G F H hs ρ σ) (i : Nat) : Rel G F H hs (ρ.set i .no) (σ.set i none) := by
  refine ⟨R.sub, R.hand, R.base, R.f0, R.new0, by simpa using R.len, fun j s e => ?_, fun j k x y a hjk e1 e2 o1 o2 e3 => ?_⟩
  · rw [List.getElem?_set] at e ⊢
    by_cases hij : i = j
    · subst hij
      rw [if_pos rfl] at e
      split at e
      · cases e
        trivial
      · cases e
    · rw [if_neg hij] at e ⊢
      exact R.slots j s e
  · rw [List.getElem?_set] at e1 e2 e3 ⊢
    by_cases hj : i = j
    · rw [if_pos hj] at e1
      split at e1 <;> cases e1 <;> cases o1
    · by_cases hk : i = k
      · rw [if_pos hk] at e2
        split at e2 <;> cases e2 <;> cases o2
      · rw [if_neg hj] at e1 e3
        rw [if_neg hk] at e2 ⊢
        exact R.apart j k x y a hjk e1 e2 o1 o2 e3
/-- a fresh list that is to be this frame's own -/
theorem Rel.fresh (R : Rel G F H hs ρ σ) {p : Addr} (np : H p = none) (i : Nat) : Rel G F (upd H p (.lst [])) hs (ρ.set i (.own [])) (σ.set i (some (.ref p))) := by
  have R' := R.pstep (PStep.garb R.sub np (o := .lst []))
  have fp : F p = none := R.sub.free np
  have hp : G.ha ≠ some p := fun e => by
    obtain ⟨_, r, _, h2, _⟩ := R.hand p e
    rw [np] at h2; cases h2
  have h0 : G.H0 p = none := by
    cases q : G.H0 p with
    | none => rfl
    | some o =>
      have := R.base p o q hp
      rw [np] at this; cases this
  refine ⟨R'.sub, R'.hand, R'.base, R'.f0, R'.new0, by simpa using R.len, fun j s e => ?_, fun j k x y a hjk e1 e2 o1 o2 e3 => ?_⟩
  · rw [List.getElem?_set] at e ⊢
    by_cases hij : i = j
    · subst hij
      rw [if_pos rfl] at e ⊢
      split at e
      · rename_i hl
        cases e
        rw [if_pos (by rw [R.len]; exact hl)]
        exact ⟨p, [], rfl, upd_same, fp, h0, hp, .nil⟩
      · cases e
    · rw [if_neg hij] at e ⊢
      exact R'.slots j s e
  · have old : ∀ (j : Nat) (x : Sl) (a : Addr), ρ[j]? = some x → isOwn x = true → σ[j]? = some (some (.ref a)) → a ≠ p := by
      rintro j x a e o e' rfl
      obtain ⟨b, vs, eb, hb, _⟩ := (R.slots j _ e).at o
      rw [e'] at eb
      cases eb
      rw [np] at hb; cases hb
    rw [List.getElem?_set] at e1 e2 e3 ⊢
    by_cases hj : i = j
    · rw [if_pos hj] at e1 e3
      have hk : ¬ i = k := fun z => hjk (hj.symm.trans z)
      rw [if_neg hk] at e2 ⊢
      split at e3
      · cases e3
        exact fun z => old k y p e2 o2 z rfl
      · cases e3
    · rw [if_neg hj] at e1 e3
      by_cases hk : i = k
      · rw [if_pos hk] at e2 ⊢
        split
        · intro z
          cases z
          exact old j x _ e1 o1 e3 rfl
        · intro z; cases z
      · rw [if_neg hk] at e2 ⊢
        exact R.apart j k x y a hjk e1 e2 o1 o2 e3
/-- an own list grows -/
theorem Rel.app (R : Rel G F H hs ρ σ) {i : Nat} {a : Addr} {ds : List D} {vs : List V} {v : V} {d : D} (e : ρ[i]? = some (.own ds)) (es : σ[i]? = some (some (.ref a))) (ha : H a = some (.lst vs)) (r : Dq G.K F v d) :
    Rel G F (upd H a (.lst (vs ++ [v]))) hs (ρ.set i (.own (ds ++ [d]))) σ := by
  obtain ⟨b, ws, eb, h1, h2, h3, h4, h5⟩ := R.slots i _ e
  rw [es] at eb
  cases eb
  rw [ha] at h1
  cases h1
  have ne : ∀ {b : Addr} {o : HO}, F b = some o → b ≠ a := fun z => ne_of_none z h2
  refine ⟨fun b o z => by rw [upd_ne (ne z)]; exact R.sub b o z, fun b z => ?_, fun b o z n => ?_, R.f0, R.new0, by simpa using R.len, fun j s z => ?_, fun j k x y c hjk z1 z2 o1 o2 z3 => ?_⟩
  · obtain ⟨q1, q, q2, q3, q4⟩ := R.hand b z
    have hb : b ≠ a := fun w => h4 (by rw [z, w])
    exact ⟨q1, q, q2, by rw [upd_ne hb]; exact q3, q4⟩
  · rw [upd_ne (ne_of_none z h3)]
    exact R.base b o z n
  · rw [List.getElem?_set] at z
    by_cases hij : i = j
    · subst hij
      rw [if_pos rfl] at z
      split at z
      · cases z
        exact ⟨a, vs ++ [v], es, upd_same, h2, h3, h4, dpAll_append h5 (.cons r .nil)⟩
      · cases z
    · rw [if_neg hij] at z
      have q := R.slots j s z
      cases s with
      | no => trivial
      | dat x => exact q
      | own xs =>
        obtain ⟨c, us, ec, g1, g2, g3, g4, g5⟩ := q
        have hc : c ≠ a := fun w => R.apart i j _ _ a hij e z rfl rfl es (by rw [ec, w])
        exact ⟨c, us, ec, by rw [upd_ne hc]; exact g1, g2, g3, g4, g5⟩
      | owd xs =>
        obtain ⟨c, us, ec, g1, g2, g3, g4, g5⟩ := q
        have hc : c ≠ a := fun w => R.apart i j _ _ a hij e z rfl rfl es (by rw [ec, w])
        exact ⟨c, us, ec, by rw [upd_ne hc]; exact g1, g2, g3, g4, g5⟩
      | exc x y =>
        obtain ⟨g1, g2, dx, u, g0, g3, g4, g5⟩ := q
        have hc : dx ≠ a := fun w => by rw [w, ha] at g3; cases g3
        exact ⟨g1, g2, dx, u, g0, by rw [upd_ne hc]; exact g3, g4, g5⟩
  · rw [List.getElem?_set] at z1 z2
    by_cases hj : i = j
    · subst hj
      rw [if_pos rfl] at z1
      rw [if_neg hjk] at z2
      exact R.apart i k _ y c hjk e z2 rfl o2 z3
    · rw [if_neg hj] at z1
      by_cases hk : i = k
      · subst hk
        intro w
        exact R.apart i j _ x c (fun q => hj q) e z1 rfl o1 w z3
      · rw [if_neg hk] at z2
        exact R.apart j k x y c hjk z1 z2 o1 o2 z3
/-- an own list is frozen -/
theorem Rel.freeze (R : Rel G F H hs ρ σ) {i : Nat} {a : Addr} {ds : List D} {vs : List V} (e : ρ[i]? = some (.own ds)) (es : σ[i]? = some (some (.ref a))) (ha : H a = some (.lst vs)) :
    Rel G (upd F a (.lst vs)) H hs (ρ.set i (.dat (.list ds))) σ ∧ Dq G.K (upd F a (.lst vs)) (.ref a) (.list ds) := by
  obtain ⟨b, ws, eb, h1, h2, h3, h4, h5⟩ := R.slots i _ e
  rw [es] at eb
  cases eb
  rw [ha] at h1
  cases h1
  have sf : Same F (upd F a (.lst vs)) := fun b o z => by rw [upd_ne (ne_of_none z h2)]; exact z
  have dd : Dq G.K (upd F a (.lst vs)) (.ref a) (.list ds) := .lst (upd_same) (dpAll_same sf _ _ h5)
  refine ⟨⟨fun b o z => ?_, fun b z => ?_, R.base, R.f0.trans sf, fun b z => ?_, by simpa using R.len, fun j s z => ?_, fun j k x y c hjk z1 z2 o1 o2 z3 => ?_⟩, dd⟩
  · by_cases hb : b = a
    · subst hb; rw [upd_same] at z; cases z; exact ha
    · rw [upd_ne hb] at z; exact R.sub b o z
  · obtain ⟨q1, q, q2, q3, q4⟩ := R.hand b z
    have hb : b ≠ a := fun w => h4 (by rw [z, w])
    exact ⟨by rw [upd_ne hb]; exact q1, q, q2, q3, sf _ _ q4⟩
  · by_cases hb : b = a
    · subst hb; exact .inr h3
    · rw [upd_ne hb] at z; exact R.new0 b z
  · rw [List.getElem?_set] at z
    by_cases hij : i = j
    · subst hij
      rw [if_pos rfl] at z
      split at z
      · cases z
        exact ⟨.ref a, es, .inl dd⟩
      · cases z
    · rw [if_neg hij] at z
      have q := R.slots j s z
      cases s with
      | no => trivial
      | dat x =>
        obtain ⟨v, ev, r⟩ := q
        exact ⟨v, ev, r.same sf⟩
      | own xs =>
        obtain ⟨c, us, ec, g1, g2, g3, g4, g5⟩ := q
        have hc : c ≠ a := fun w => R.apart i j _ _ a hij e z rfl rfl es (by rw [ec, w])
        exact ⟨c, us, ec, g1, by rw [upd_ne hc]; exact g2, g3, g4, dpAll_same sf _ _ g5⟩
      | owd xs =>
        obtain ⟨c, us, ec, g1, g2, g3, g4, g5⟩ := q
        have hc : c ≠ a := fun w => R.apart i j _ _ a hij e z rfl rfl es (by rw [ec, w])
        exact ⟨c, us, ec, g1, by rw [upd_ne hc]; exact g2, g3, g4, g5.same sf⟩
      | exc x y =>
        obtain ⟨g1, g2, dx, u, g0, g3, g4, g5⟩ := q
        exact ⟨g1, g2, dx, u, g0, g3, g4, dp_same sf _ _ g5⟩
  · rw [List.getElem?_set] at z1 z2
    by_cases hj : i = j
    · rw [if_pos hj] at z1
      split at z1 <;> cases z1 <;> cases o1
    · rw [if_neg hj] at z1
      by_cases hk : i = k
      · rw [if_pos hk] at z2
        split at z2 <;> cases z2 <;> cases o2
      · rw [if_neg hk] at z2
        exact R.apart j k x y c hjk z1 z2 o1 o2 z3
end
end L2.AR
set_option Elab.async false
set_option linter.all false
set_option maxRecDepth 100000
set_option maxHeartbeats 4000000
/-! Fw5: the rules of statements. -/
namespace L2.AR
open PySem PySem.Spec PyProof.Rows
section
variable {X : Cx} {G : Gh} {pos : Pos} {st : Stmt} {sts : List Stmt}
theorem psI {t t' : TS} (h : PS X st t) (i : ∀ E σ H, t' E σ H → t E σ H) : PS X st t' := ⟨fun pins s σ H E I q => h.run pins s σ H E I (i _ _ _ q)⟩
theorem pssI {t t' : TS} (h : PSs X sts t) (i : ∀ E σ H, t' E σ H → t E σ H) : PSs X sts t' := ⟨fun pins s σ H E I q => h.run pins s σ H E I (i _ _ _ q)⟩
/-- an expression first -/
theorem exp_then {α β : Type} {rel : Hp → β → α → Prop} {g : Rho → M α} {k : α → MS} {E : Ends} {σ : St} {H : Hp} (h : tS G (sExp g k) E σ H) :
    rd G rel g σ H fun v H1 => ∃ F hs ρ a, Rel G F H1 hs ρ σ ∧ rel F v a ∧ postS G F E (k a ρ hs) := by
  obtain ⟨F, hs, ρ, R, p⟩ := h
  refine ⟨F, hs, ρ, R, ?_⟩
  unfold sExp at p
  cases e : g ρ hs with
  | ok a hs' =>
    rw [e] at p
    exact fun F' H' v s h r => ⟨F', hs', ρ, a, R.step s h, r, p.after s.ff⟩
  | err c d hs' =>
    rw [e] at p
    exact fun F' H' dx v s h hx hn dp => p F' H' σ dx v s.ff (R.step s h) hx hn dp
  | stuck =>
    rw [e] at p
    exact p.elim
theorem p_nil : PSs X [] (tS G sSkip) := by
  refine pssI pss_nil ?_
  rintro E σ H ⟨F, hs, ρ, R, p⟩
  exact p F H σ (Same.refl F) R
theorem p_cons {s t : MS} (h : PS X st (tS G s)) (h2 : PSs X sts (tS G t)) : PSs X (st :: sts) (tS G (sSeq s t)) := by
  refine pssI (pss_cons h h2) ?_
  rintro E σ H ⟨F, hs, ρ, R, p⟩
  refine ⟨F, hs, ρ, R, ?_⟩
  unfold sSeq at p
  cases e : s ρ hs with
  | ok f ρ' h' =>
    rw [e] at p
    cases f with
    | nx => exact fun F' H' σ' s' R' => ⟨F', h', ρ', R', p.after s'⟩
    | rt d => exact p
    | bk => exact p
    | ct => exact p
  | err c d ρ' h' => rw [e] at p; exact p
  | stuck => rw [e] at p; exact p
theorem p_one {s : MS} (h : PS X st (tS G s)) : PSs X [st] (tS G s) := by
  refine pssI (pss_one h) fun E σ H q => q
theorem p_pass : PS X (.Pass pos) (tS G sSkip) := by
  refine psI ps_pass ?_
  rintro E σ H ⟨F, hs, ρ, R, p⟩
  exact p F H σ (Same.refl F) R
theorem p_break : PS X (.Break pos) (tS G sBrk) := by
  refine psI ps_break ?_
  rintro E σ H ⟨F, hs, ρ, R, p⟩
  exact p F H σ (Same.refl F) R
theorem p_continue : PS X (.Continue pos) (tS G sCnt) := by
  refine psI ps_continue ?_
  rintro E σ H ⟨F, hs, ρ, R, p⟩
  exact p F H σ (Same.refl F) R
theorem p_doc {x j p1} : PS X (.Expr (.Constant (.str x) j p1) pos) (tS G sSkip) := by
  refine psI ps_doc ?_
  rintro E σ H ⟨F, hs, ρ, R, p⟩
  exact p F H σ (Same.refl F) R
theorem p_ret {e : Expr} {g : Rho → M D} (h : PE X e (tE G g)) : PS X (.Return (some e) pos) (tS G (sRet g)) := by
  refine psI (ps_ret h) fun E σ H q => ?_
  refine (exp_then (rel := relE G) q).mono ?_
  rintro v H1 ⟨F, hs, ρ, d, R, r, p⟩
  exact p F H1 σ v (Same.refl F) R r
theorem p_retN : PS X (.Return none pos) (tS G (sRet fun _ => ret .none)) := by
  refine psI ps_retN ?_
  rintro E σ H ⟨F, hs, ρ, R, p⟩
  exact p F H σ .non (Same.refl F) R (.inl .non)
theorem p_do {e : Expr} {g : Rho → M D} (h : PE X e (tE G g)) (hs : swapsWith e none pos.line X.env = pure false := by rfl) : PS X (.Expr e pos) (tS G (sDo g)) := by
  refine psI (ps_expr h hs) fun E σ H q => ?_
  refine (exp_then (rel := relE G) q).mono ?_
  rintro v H1 ⟨F, hs, ρ, d, R, r, p⟩
  exact p F H1 σ (Same.refl F) R
theorem p_if {c : Expr} {a b : List Stmt} {u : Rho → M Bool} {s t : MS} (hc : PT X c (tT G u)) (ha : PSs X a (tS G s)) (hb : PSs X b (tS G t)) : PS X (.If c a b pos) (tS G (sIf u s t)) := by
  refine psI (ps_if hc ha hb) fun E σ H q => ?_
  refine (exp_then (rel := relB) q).mono ?_
  rintro x H1 ⟨F, hs, ρ, c, R, rfl, p⟩
  cases x with
  | true => exact iteT ⟨F, hs, ρ, R, p⟩
  | false => exact iteF ⟨F, hs, ρ, R, p⟩
theorem p_set (i : Nat) {x : Str} {e : Expr} {g : Rho → M D} {pos' : Pos} (hN : X.N.Nodup) (h : PE X e (tE G g)) (hi : X.N[i]? = some x := by rfl) (hx : Loc X.env.scope x := by first | exact Or.inl rfl | exact Or.inr rfl)
    (hs : swapsWith e (some (.Name x pos')) pos.line X.env = pure false := by rfl) (hf : X.fn x = true ∨ X.env.scope.names.lookup x = some .local := by first | exact .inl rfl | exact .inr rfl | assumption) :
    PS X (.Assign [.Name x pos'] e pos) (tS G (sSet i g)) := by
  refine psI (ps_set hN hi hx h hs hf) fun E σ H q => ?_
  refine (exp_then (rel := relE G) q).mono ?_
  rintro v H1 ⟨F, hs, ρ, d, R, r, p⟩
  exact p F H1 _ (Same.refl F) (R.put i r)
theorem p_new (i : Nat) {x : Str} {pos' pos2 : Pos} (hN : X.N.Nodup) (hi : X.N[i]? = some x := by rfl) (hx : Loc X.env.scope x := by first | exact Or.inl rfl | exact Or.inr rfl)
    (hs : swapsWith (.List [] pos2) (some (.Name x pos')) pos.line X.env = pure false := by rfl) (hf : X.fn x = true ∨ X.env.scope.names.lookup x = some .local := by first | exact .inl rfl | exact .inr rfl | assumption) :
    PS X (.Assign [.Name x pos'] (.List [] pos2) pos) (tS G (sNew i)) := by
  refine psI (ps_set hN hi hx (pe_lst pa_nil) hs hf) ?_
  rintro E σ H ⟨F, hs, ρ, R, p⟩
  exact ⟨Nat.zero_le _, fun a na => p F _ _ (Same.refl F) (R.fresh na i)⟩
theorem p_app (i : Nat) {e : Expr} {K : PySem.W.Frag} {g : Rho → M D} (h : PE X e (tBM K "list" rAppend (tVar i) (tCons (tE G g) tNil)))
    (hs : swapsWith e none pos.line X.env = pure false := by rfl) :
    PS X (.Expr e pos) (tS G (sApp i g)) := by
  refine psI (ps_expr h hs) ?_
  rintro E σ H ⟨F, hs, ρ, R, p⟩
  unfold sApp at p
  cases e : ρ[i]? with
  | none => rw [e] at p; exact p.elim
  | some s =>
    cases s with
    | own ds =>
      rw [e] at p
      obtain ⟨a, vs, es, h1, h2, h3, h4, h5⟩ := R.slots i _ e
      refine ⟨.ref a, es, .inl ⟨rfl, vs, .inl (.inl h1)⟩, ?_⟩
      unfold sExp at p
      refine ⟨F, hs, ρ, R, ?_⟩
      cases z : g ρ hs with
      | ok d hs' =>
        rw [z] at p
        intro F' H' v s hh r
        have R' := R.step s hh
        by_cases c : isTok d = false ∧ ds.length < 1000000
        · simp only [if_pos c] at p
          obtain ⟨a', vs', es', g1, g2, g3, g4, g5⟩ := R'.slots i _ e
          rw [es] at es'
          cases es'
          exact ⟨a, vs', v, rfl, rfl, g1, by rw [dpAll_len g5]; exact line_of (Nat.le_of_lt c.2), p _ _ _ s.ff (R'.app e es g1 (r.dp c.1))⟩
        · simp only [if_neg c] at p
          exact p.elim
      | err c d hs' =>
        rw [z] at p
        exact fun F' H' dx v s h hx hn dp => p F' H' σ dx v s.ff (R.step s h) hx hn dp
      | stuck => rw [z] at p; exact p.elim
    | _ => rw [e] at p; exact p.elim
theorem p_frz (i : Nat) {s : MS} (h : PSs X sts (tS G s)) : PSs X sts (tS G (sSeq (sFrz i) s)) := by
  refine pssI h ?_
  rintro E σ H ⟨F, hs, ρ, R, p⟩
  unfold sSeq sFrz at p
  cases e : ρ[i]? with
  | none => rw [e] at p; exact p.elim
  | some sl =>
    rw [e] at p
    cases sl with
    | own ds =>
      obtain ⟨a, vs, es, h1, h2, h3, h4, h5⟩ := R.slots i _ e
      have R2 := (R.freeze e es h1).1
      exact ⟨_, hs, _, R2, postS.after (fun b o z => by rw [upd_ne (ne_of_none z h2)]; exact z) p⟩
    | dat d => exact ⟨F, hs, ρ, R, p⟩
    | _ => exact p.elim

/-! ### targets -/
def GOk (G : Gh) (vs : List Nat) (gt : TG) (t : Tgt) : Prop := ∀ (F H : Hp) (hs : HS) (ρ ρ' : Rho) (σ : St) (v : V) (d : D) (Q : St → Hp → Prop), Rel G F H hs ρ σ → Rp G.K F G.ha v d → t d ρ = some ρ' → (∀ σ', Rel G F H hs ρ' σ' → wipe σ' vs = wipe σ vs → Q σ' H) → gt v σ H Q
def GsOk (G : Gh) (vs : List Nat) (gt : TGs) (ts : List Tgt) : Prop := ∀ (F H : Hp) (hs : HS) (ρ ρ' : Rho) (σ : St) (us : List V) (ds : List D) (Q : St → Hp → Prop), Rel G F H hs ρ σ → DqAll G.K F us ds → tgAll ts ds ρ = some ρ' → (∀ σ', Rel G F H hs ρ' σ' → wipe σ' vs = wipe σ vs → Q σ' H) → gt us σ H Q
theorem wipe_get (σ : St) (j : Nat) : ∀ vs : List Nat, (wipe σ vs)[j]? = if j ∈ vs then (if j < σ.length then some none else none) else σ[j]?
  | [] => by simp [wipe]
  | v :: vs => by
    unfold wipe
    rw [List.getElem?_set, wipe_get σ j vs, wipe_length]
    by_cases e : v = j
    · subst e; simp
    · have e' : ¬ j = v := fun z => e z.symm
      rw [if_neg e]
      by_cases m : j ∈ vs
      · simp [m]
      · simp [m, e']
theorem wipe_set {σ : St} {i : Nat} {x : Option V} {vs : List Nat} (h : i ∈ vs) : wipe (σ.set i x) vs = wipe σ vs := by
  apply List.ext_getElem?
  intro j
  rw [wipe_get, wipe_get, List.length_set]
  by_cases m : j ∈ vs
  · simp [m]
  · have : i ≠ j := fun e => m (e ▸ h)
    simp [m, List.getElem?_set_ne this]
theorem wipe_wipe {σ : St} {vs : List Nat} : wipe (wipe σ vs) vs = wipe σ vs := by
  apply List.ext_getElem?
  intro j
  rw [wipe_get, wipe_get σ, wipe_length]
  by_cases m : j ∈ vs
  · simp [m]
  · simp [m, wipe_get]
theorem gN_ok {i : Nat} {vs : List Nat} (h : i ∈ vs := by simp) : GOk G vs (gName i) (tgN i) := by
  intro F H hs ρ ρ' σ v d Q R r e q
  cases e
  exact q _ (R.put i r) (wipe_set h)
theorem gNil_ok {vs : List Nat} : GsOk G vs gNil [] := by
  intro F H hs ρ ρ' σ us ds Q R r e q
  cases r with
  | nil => cases e; exact ⟨rfl, q _ R rfl⟩
  | cons _ _ => cases e
theorem gCons_ok {vs : List Nat} {gt : TG} {gs : TGs} {t : Tgt} {ts : List Tgt} (h : GOk G vs gt t) (h2 : GsOk G vs gs ts) : GsOk G vs (gCons gt gs) (t :: ts) := by
  intro F H hs ρ ρ' σ us ds Q R r e q
  cases r with
  | nil => cases e
  | @cons v us d ds r1 r2 =>
    have e' : (t d ρ).bind (tgAll ts ds) = some ρ' := e
    cases z : t d ρ with
    | none => rw [z] at e'; cases e'
    | some ρ1 =>
      rw [z] at e'
      refine ⟨v, us, rfl, h F H hs ρ ρ1 σ v d _ R (.inl r1) z fun σ1 R1 w1 => ?_⟩
      exact h2 F H hs ρ1 ρ' σ1 us ds _ R1 r2 e' fun σ2 R2 w2 => q σ2 R2 (w2.trans w1)
theorem gTup_ok {vs : List Nat} {gs : TGs} {ts : List Tgt} {n : Nat} (h : GsOk G vs gs ts) (hn : ts.length = n := by rfl) : GOk G vs (gTup G.K n gs) (tgT ts) := by
  intro F H hs ρ ρ' σ v d Q R r e q
  cases d with
  | tuple ds =>
    cases r.dp rfl with
    | tup hs' ha =>
      rename_i a us
      have len : ∀ (ts : List Tgt) (ds : List D) (ρ ρ' : Rho), tgAll ts ds ρ = some ρ' → ds.length = ts.length := by
        intro ts
        induction ts with
        | nil => intro ds ρ ρ' z; cases ds with | nil => rfl | cons _ _ => cases z
        | cons t ts ih =>
          intro ds ρ ρ' z
          cases ds with
          | nil => cases z
          | cons d ds =>
            have z' : (t d ρ).bind (tgAll ts ds) = some ρ' := z
            cases w : t d ρ with
            | none => rw [w] at z'; cases z'
            | some ρ1 => rw [w] at z'; exact congrArg (· + 1) (ih ds ρ1 ρ' z')
      exact ⟨a, us, rfl, (hs'.same R.sub).sqt, by rw [dpAll_len ha, len _ _ _ _ e, hn], h F H hs ρ ρ' σ us ds Q R ha e q⟩
  | _ => cases e
theorem p_asg {g : Rho → M D} {gt : TG} {t : Tgt} (vs : List Nat) (h : PS X st (tAsg (tE G g) gt)) (ht : GOk G vs gt t) : PS X st (tS G (sAsg g t)) := by
  refine psI h fun E σ H q => ?_
  refine (exp_then (rel := relE G) q).mono ?_
  rintro v H1 ⟨F, hs, ρ, d, R, r, p⟩
  unfold sTo at p
  cases z : t d ρ with
  | none => rw [z] at p; exact p.elim
  | some ρ' =>
    rw [z] at p
    exact ht F H1 hs ρ ρ' σ v d _ R r z fun σ' R' _ => p F H1 σ' (Same.refl F) R'
theorem p_par (i j : Nat) {gs : Rho → M (List D)} (h : PS X st (tPar i j (tA G gs))) : PS X st (tS G (sPar i j gs)) := by
  refine psI h fun E σ H q => ?_
  refine (exp_then (rel := relA G) q).mono ?_
  rintro vs H1 ⟨F, hs, ρ, ds, R, r, p⟩
  cases r with
  | nil => exact p.elim
  | cons r1 r' =>
    cases r' with
    | nil => exact p.elim
    | cons r2 r'' =>
      cases r'' with
      | nil => exact ⟨_, _, rfl, p F H1 _ (Same.refl F) ((R.put i r1).put j r2)⟩
      | cons _ _ => exact p.elim
end
end L2.AR
set_option Elab.async false
set_option linter.all false
set_option maxRecDepth 100000
set_option maxHeartbeats 4000000
/-! Fw6: the rules of loops and comprehensions. -/
namespace L2.AR
open PySem PySem.Spec PyProof.Rows

/-- what is walked yields these data, turn by turn, while F stands -/
structure Src (K : PySem.W.Frag) (J : It) (ds : List D) (F : Hp) : Prop where
  stop : ∀ F' H, Same F F' → Same F' H → J.stop ds.length H
  go : ∀ F' H (i : Nat) (d : D), Same F F' → Same F' H → ds[i]? = some d → J.go i H ∧ ∀ x H', J.yld i H x H' → H' = H ∧ Dq K F' x d
theorem Src.after {K : PySem.W.Frag} {J : It} {ds : List D} {F F1 : Hp} (h : Src K J ds F) (s : Same F F1) : Src K J ds F1 := ⟨fun F' H a b => h.stop F' H (s.trans a) b, fun F' H i d a b => h.go F' H i d (s.trans a) b⟩
theorem sqt_same {K : PySem.W.Frag} {H H' : Hp} {a : Addr} {xs : List V} (s : Same H H') (h : SqT K H a xs) : SqT K H' a xs := by
  rcases h with (z | ⟨o, z⟩) | z
  · exact .inl (.inl (s _ _ z))
  · exact .inl (.inr ⟨o, s _ _ z⟩)
  · exact .inr z
theorem src_list {K : PySem.W.Frag} {F : Hp} {a : Addr} {xs : List V} {ds : List D} (h : SqL K F a xs) (r : DqAll K F xs ds) : Src K (Itl K a) ds F := by
  refine ⟨fun F' H s s' => ⟨xs, s'.seq (s.seq h), by rw [dpAll_len r]; exact Nat.le_refl _⟩, fun F' H i d s s' e => ?_⟩
  obtain ⟨v, ev, rv⟩ := dpAll_get' r e
  refine ⟨⟨xs, v, s'.seq (s.seq h), ev⟩, fun x H' y => ?_⟩
  obtain ⟨rfl, y⟩ := y
  have q := y xs (s'.seq (s.seq h))
  rw [ev] at q
  cases q
  exact ⟨rfl, dp_same s _ _ rv⟩
theorem src_tup {K : PySem.W.Frag} {F : Hp} {a : Addr} {xs : List V} {ds : List D} (h : SqT K F a xs) (r : DqAll K F xs ds) : Src K (Itt K a) ds F := by
  refine ⟨fun F' H s s' => ⟨xs, sqt_same s' (sqt_same s h), by rw [dpAll_len r]; exact Nat.le_refl _⟩, fun F' H i d s s' e => ?_⟩
  obtain ⟨v, ev, rv⟩ := dpAll_get' r e
  refine ⟨⟨xs, v, sqt_same s' (sqt_same s h), ev⟩, fun x H' y => ?_⟩
  obtain ⟨rfl, y⟩ := y
  have q := y xs (sqt_same s' (sqt_same s h))
  rw [ev] at q
  cases q
  exact ⟨rfl, dp_same s _ _ rv⟩
theorem src_range {K : PySem.W.Frag} {F : Hp} (lo : Int) (n : Nat) : Src K (Itr lo n) (upTo lo n) F := by
  refine ⟨fun F' H _ _ => ?_, fun F' H i d _ _ e => ?_⟩
  · show n ≤ (upTo lo n).length
    simp [upTo]
  · unfold upTo at e
    rw [List.getElem?_map] at e
    by_cases hi : i < n
    · rw [List.getElem?_eq_getElem (by simpa using hi)] at e
      simp only [List.getElem_range, Option.map_some, Option.some.injEq] at e
      subst e
      refine ⟨hi, fun x H' y => ?_⟩
      obtain ⟨rfl, rfl⟩ := y
      exact ⟨rfl, .int _⟩
    · rw [List.getElem?_eq_none (by simpa using hi)] at e
      cases e
section
variable {X : Cx} {G : Gh} {pos : Pos}
/-- the loop's invariant: what is left is what the function says -/
theorem for_inv {J : It} {ds : List D} {gt : TG} {t : Tgt} {vs : List Nat} {body : MS} {E : Ends} {F H : Hp} {hs : HS} {ρ : Rho} {σ : St} (ht : GOk G vs gt t) (R : Rel G F H hs ρ σ) (S : Src G.K J ds F) (p : postS G F E (loopL t body ds ρ hs)) :
    ∃ W : Nat → Nat → St → Hp → Prop, (∃ m, W 0 m σ H) ∧ ∀ i m σ H, W i m σ H →
      (J.stop i H ∧ E.nx σ H) ∨ (J.go i H ∧ ∃ N : St → Hp → Prop, (∀ σ' H', N σ' H' → ∃ m', m' < m ∧ W (i + 1) m' σ' H') ∧ ∀ x H', J.yld i H x H' → gt x σ H' fun σ2 H2 => tS G body { E with nx := N, ct := N, bk := E.nx } σ2 H2) := by
  refine ⟨fun i m σ H => m = ds.length - i ∧ i ≤ ds.length ∧ ∃ F hs ρ, Rel G F H hs ρ σ ∧ Src G.K J ds F ∧ postS G F E (loopL t body (ds.drop i) ρ hs), ⟨ds.length, by simp, Nat.zero_le _, F, hs, ρ, R, S, by simpa using p⟩, ?_⟩
  rintro i m σ H ⟨rfl, hi, F, hs, ρ, R, S, p⟩
  by_cases hlt : i < ds.length
  · have e : ds[i]? = some ds[i] := List.getElem?_eq_getElem hlt
    obtain ⟨g, y⟩ := S.go F H i ds[i] (Same.refl F) R.sub e
    refine .inr ⟨g, fun σ' H' => ∃ F hs ρ, Rel G F H' hs ρ σ' ∧ Src G.K J ds F ∧ postS G F E (loopL t body (ds.drop (i + 1)) ρ hs), fun σ' H' q => ⟨ds.length - (i + 1), by omega, rfl, hlt, q⟩, fun x H' yy => ?_⟩
    obtain ⟨rfl, dx⟩ := y x H' yy
    rw [List.drop_eq_getElem_cons hlt] at p
    simp only [loopL] at p
    cases z : t ds[i] ρ with
    | none => rw [z] at p; exact p.elim
    | some ρ1 =>
      rw [z] at p
      refine ht F H' hs ρ ρ1 σ x ds[i] _ R (.inl dx) z fun σ1 R1 _ => ⟨F, hs, ρ1, R1, ?_⟩
      simp only at p
      cases w : body ρ1 hs with
      | ok f ρ2 h2 =>
        rw [w] at p
        cases f with
        | nx => exact fun F2 H2 σ2 s2 R2 => ⟨F2, h2, ρ2, R2, S.after s2, p.after s2⟩
        | ct => exact fun F2 H2 σ2 s2 R2 => ⟨F2, h2, ρ2, R2, S.after s2, p.after s2⟩
        | bk => exact p
        | rt d => exact p
      | err c d ρ2 h2 => rw [w] at p; exact p
      | stuck => rw [w] at p; exact p.elim
  · have e : i = ds.length := by omega
    subst e
    rw [List.drop_eq_nil_of_le (Nat.le_refl _)] at p
    exact .inl ⟨S.stop F H (Same.refl F) R.sub, p F H σ (Same.refl F) R⟩
/-- what a for walks: a list or a tuple -/
def iSeq (K : PySem.W.Frag) (te : TE) : TI := fun σ H R => iList K te σ H R ∨ iTup K te σ H R
theorem i_seq {tg l : Expr} {te : TE} (h : PE X l te) : PI X tg l (iSeq X.K te) :=
  ⟨fun pins s σ H R I q => q.elim ((pi_list h).run pins s σ H R I) ((pi_tup h).run pins s σ H R I)⟩
theorem iSeq_of {g : Rho → M D} {k : D → List D → HS → Rho → Prop} {σ : St} {F H : Hp} {hs : HS} {ρ : Rho} {R : It → Hp → Prop} (r : Rel G F H hs ρ σ)
    (q : match g ρ hs with
      | .ok d h' => ∃ ds, itemsOf d = some ds ∧ ∀ F' H' J, Step G.ha F H F' H' → HandOK G.ha F' H' h' → Src G.K J ds F' → R J H'
      | .err c d h' => ∀ F' H' dx v, Step G.ha F H F' H' → HandOK G.ha F' H' h' → H' dx = some (.xd [(G.fld c, v)]) → G.ha ≠ some dx → Dq G.K F' v d → G.W (.ref (G.cl c)) (some dx) σ H'
      | .stuck => False) : iSeq G.K (tE G g) σ H R := by
  cases z : g ρ hs with
  | ok d h' =>
    rw [z] at q
    obtain ⟨ds, e, q⟩ := q
    cases d with
    | list xs =>
      cases e
      refine .inl ⟨F, hs, ρ, r, ?_⟩
      rw [z]
      intro F' H' v s hh rv
      cases rv.dp rfl with
      | lst h1 h2 => exact ⟨_, rfl, ⟨_, SqL.of (s.fh _ _ h1)⟩, q F' H' _ s hh (src_list (SqL.of h1) h2)⟩
    | tuple xs =>
      cases e
      refine .inr ⟨F, hs, ρ, r, ?_⟩
      rw [z]
      intro F' H' v s hh rv
      cases rv.dp rfl with
      | tup h1 h2 => exact ⟨_, rfl, ⟨_, sqt_same s.fh h1.sqt⟩, q F' H' _ s hh (src_tup h1.sqt h2)⟩
    | _ => cases e
  | err c d h' =>
    rw [z] at q
    refine .inl ⟨F, hs, ρ, r, ?_⟩
    rw [z]
    exact q
  | stuck => rw [z] at q; exact q.elim
theorem p_for {tg iter : Expr} {body : List Stmt} {g : Rho → M D} {gt : TG} {t : Tgt} {s : MS} (vs : List Nat) (hK : G.K = X.K) (hp : PassesOwn (model X.prog X.w) X.A X.env X.xe) (hc : X.calm = true) (hi : PE X iter (tE G g)) (hg : PG X tg gt) (ht : GOk G vs gt t) (hb : PSs X body (tS G s))
    (h : PS X (.For tg iter body [] pos) (tFor (iSeq X.K (tE G g)) gt (tS G s))) : PS X (.For tg iter body [] pos) (tS G (sFor g t s)) := by
  refine psI h ?_
  rintro E σ H ⟨F, hs, ρ, R, p⟩
  rw [← hK]
  refine iSeq_of (k := fun _ _ _ _ => True) R ?_
  unfold sFor sExp at p
  cases z : g ρ hs with
  | ok d h' =>
    rw [z] at p
    simp only at p
    cases w : itemsOf d with
    | none => rw [w] at p; exact p.elim
    | some ds =>
      rw [w] at p
      exact ⟨ds, w, fun F' H' J st hh S => for_inv ht (R.step st hh) S (postS.after st.ff p)⟩
  | err c d h' =>
    rw [z] at p
    exact fun F' H' dx v s h hx hn dp => p F' H' σ dx v s.ff (R.step s h) hx hn dp
  | stuck => rw [z] at p; exact p.elim
theorem rng1_of {gs : Rho → M (List D)} {σ : St} {F H : Hp} {hs : HS} {ρ : Rho} {R : It → Hp → Prop} (r : Rel G F H hs ρ σ)
    (q : match gs ρ hs with
      | .ok as h' => as.length = 1 ∧ ∃ ds, rangeOf as = some ds ∧ ∀ F' H' lo n, Step G.ha F H F' H' → HandOK G.ha F' H' h' → ds = upTo lo n → R (Itr lo n) H'
      | .err c d h' => ∀ F' H' dx v, Step G.ha F H F' H' → HandOK G.ha F' H' h' → H' dx = some (.xd [(G.fld c, v)]) → G.ha ≠ some dx → Dq G.K F' v d → G.W (.ref (G.cl c)) (some dx) σ H'
      | .stuck => False) : iRng1 (tA G gs) σ H R := by
  refine ⟨F, hs, ρ, r, ?_⟩
  cases z : gs ρ hs with
  | ok as h' =>
    rw [z] at q
    obtain ⟨l, ds, e, q⟩ := q
    match as, l with
    | [d], _ =>
      cases d with
      | int j =>
        have e : (if -(2 ^ 62) ≤ j ∧ j < 2 ^ 62 then some (upTo 0 j.toNat) else none) = some ds := e
        by_cases hb : -(2 ^ 62) ≤ j ∧ j < 2 ^ 62
        · rw [if_pos hb] at e
          cases e
          intro F' H' v s hh rv
          cases rv with
          | cons r1 r2 =>
            cases r2
            cases r1.dp rfl
            exact ⟨j, rfl, hb.1, hb.2, q F' H' 0 j.toNat s hh rfl⟩
        · rw [if_neg hb] at e
          cases e
      | _ => cases e
  | err c d h' => rw [z] at q; exact q
  | stuck => rw [z] at q; exact q.elim
theorem rng2_of {gs : Rho → M (List D)} {σ : St} {F H : Hp} {hs : HS} {ρ : Rho} {R : It → Hp → Prop} (r : Rel G F H hs ρ σ)
    (q : match gs ρ hs with
      | .ok as h' => as.length = 2 ∧ ∃ ds, rangeOf as = some ds ∧ ∀ F' H' lo n, Step G.ha F H F' H' → HandOK G.ha F' H' h' → ds = upTo lo n → R (Itr lo n) H'
      | .err c d h' => ∀ F' H' dx v, Step G.ha F H F' H' → HandOK G.ha F' H' h' → H' dx = some (.xd [(G.fld c, v)]) → G.ha ≠ some dx → Dq G.K F' v d → G.W (.ref (G.cl c)) (some dx) σ H'
      | .stuck => False) : iRng2 (tA G gs) σ H R := by
  refine ⟨F, hs, ρ, r, ?_⟩
  cases z : gs ρ hs with
  | ok as h' =>
    rw [z] at q
    obtain ⟨l, ds, e, q⟩ := q
    match as, l with
    | [d, d2], _ =>
      cases d with
      | int i =>
        cases d2 with
        | int j =>
          have e : (if -(2 ^ 62) ≤ i ∧ i < 2 ^ 62 ∧ -(2 ^ 62) ≤ j ∧ j < 2 ^ 62 then some (upTo i (j - i).toNat) else none) = some ds := e
          by_cases hb : -(2 ^ 62) ≤ i ∧ i < 2 ^ 62 ∧ -(2 ^ 62) ≤ j ∧ j < 2 ^ 62
          · rw [if_pos hb] at e
            cases e
            intro F' H' v s hh rv
            cases rv with
            | cons r1 r2 =>
              cases r2 with
              | cons r2 r3 =>
                cases r3
                cases r1.dp rfl
                cases r2.dp rfl
                exact ⟨i, j, rfl, hb, q F' H' i (j - i).toNat s hh rfl⟩
          · rw [if_neg hb] at e
            cases e
        | _ => cases e
      | _ => cases e
  | err c d h' => rw [z] at q; exact q
  | stuck => rw [z] at q; exact q.elim
/-- how many arguments these have -/
def ALen (n : Nat) (gs : Rho → M (List D)) : Prop := ∀ ρ h as h', gs ρ h = .ok as h' → as.length = n
theorem aLen0 : ALen 0 (fun _ => ret []) := fun _ _ _ _ e => by cases e; rfl
theorem aLenS {n : Nat} {g : Rho → M D} {gs : Rho → M (List D)} (h : ALen n gs) : ALen (n + 1) (fun ρ => bnd (g ρ) fun d => bnd (gs ρ) fun ds => ret (d :: ds)) := fun ρ hs as h' e => by
  dsimp only [bnd] at e
  cases z : g ρ hs with
  | ok d h1 =>
    rw [z] at e
    dsimp only at e
    cases w : gs ρ h1 with
    | ok ds h2 =>
      rw [w] at e
      cases e
      exact congrArg (· + 1) (h _ _ _ _ w)
    | err _ _ _ => rw [w] at e; cases e
    | stuck => rw [w] at e; cases e
  | err _ _ _ => rw [z] at e; cases e
  | stuck => rw [z] at e; cases e
theorem p_forR1 {tg iter : Expr} {body : List Stmt} {gs : Rho → M (List D)} {gt : TG} {t : Tgt} {s : MS} (vs : List Nat) (ht : GOk G vs gt t) (l : ALen 1 gs)
    (h : PS X (.For tg iter body [] pos) (tFor (iRng1 (tA G gs)) gt (tS G s))) : PS X (.For tg iter body [] pos) (tS G (sForR gs t s)) := by
  refine psI h ?_
  rintro E σ H ⟨F, hs, ρ, R, p⟩
  refine rng1_of R ?_
  unfold sForR sExp at p
  cases z : gs ρ hs with
  | ok as h' =>
    rw [z] at p
    simp only at p
    cases w : rangeOf as with
    | none => rw [w] at p; exact p.elim
    | some ds =>
      rw [w] at p
      refine ⟨l _ _ _ _ z, ds, w, fun F' H' lo n st hh e => ?_⟩
      subst e
      exact for_inv ht (R.step st hh) (src_range lo n) (postS.after st.ff p)
  | err c d h' =>
    rw [z] at p
    exact fun F' H' dx v s h hx hn dp => p F' H' σ dx v s.ff (R.step s h) hx hn dp
  | stuck => rw [z] at p; exact p.elim
theorem p_forR2 {tg iter : Expr} {body : List Stmt} {gs : Rho → M (List D)} {gt : TG} {t : Tgt} {s : MS} (vs : List Nat) (ht : GOk G vs gt t) (l : ALen 2 gs)
    (h : PS X (.For tg iter body [] pos) (tFor (iRng2 (tA G gs)) gt (tS G s))) : PS X (.For tg iter body [] pos) (tS G (sForR gs t s)) := by
  refine psI h ?_
  rintro E σ H ⟨F, hs, ρ, R, p⟩
  refine rng2_of R ?_
  unfold sForR sExp at p
  cases z : gs ρ hs with
  | ok as h' =>
    rw [z] at p
    simp only at p
    cases w : rangeOf as with
    | none => rw [w] at p; exact p.elim
    | some ds =>
      rw [w] at p
      refine ⟨l _ _ _ _ z, ds, w, fun F' H' lo n st hh e => ?_⟩
      subst e
      exact for_inv ht (R.step st hh) (src_range lo n) (postS.after st.ff p)
  | err c d h' =>
    rw [z] at p
    exact fun F' H' dx v s h hx hn dp => p F' H' σ dx v s.ff (R.step s h) hx hn dp
  | stuck => rw [z] at p; exact p.elim
/-- while, at most n turns -/
theorem p_while {c : Expr} {body : List Stmt} {u : Rho → M Bool} {s : MS} (n : Nat) (h : PS X (.While c body [] pos) (tWhile (tT G u) (tS G s))) : PS X (.While c body [] pos) (tS G (loopW u s n)) := by
  refine psI h ?_
  rintro E σ H ⟨F, hs, ρ, R, p⟩
  refine ⟨fun m σ H => ∃ F hs ρ, Rel G F H hs ρ σ ∧ postS G F E (loopW u s m ρ hs), ⟨n, F, hs, ρ, R, p⟩, ?_⟩
  rintro m σ H ⟨F, hs, ρ, R, p⟩
  cases m with
  | zero => exact p.elim
  | succ m =>
    simp only [loopW] at p
    refine (exp_then (rel := relB) ⟨F, hs, ρ, R, p⟩).mono ?_
    rintro b H1 ⟨F1, hs1, ρ1, _, R1, rfl, p1⟩
    cases b with
    | false =>
      simp only [Bool.false_eq_true, if_false] at p1
      exact iteF (p1 F1 H1 σ (Same.refl F1) R1)
    | true =>
      simp only [if_true] at p1
      refine iteT ⟨fun σ' H' => ∃ F hs ρ, Rel G F H' hs ρ σ' ∧ postS G F E (loopW u s m ρ hs), fun σ' H' q => ⟨m, Nat.lt_succ_self m, q⟩, F1, hs1, ρ1, R1, ?_⟩
      cases w : s ρ1 hs1 with
      | ok f ρ2 h2 =>
        rw [w] at p1
        cases f with
        | nx => exact fun F2 H2 σ2 s2 R2 => ⟨F2, h2, ρ2, R2, p1.after s2⟩
        | ct => exact fun F2 H2 σ2 s2 R2 => ⟨F2, h2, ρ2, R2, p1.after s2⟩
        | bk => exact p1
        | rt d => exact p1
      | err c d ρ2 h2 => rw [w] at p1; exact p1
      | stuck => rw [w] at p1; exact p1.elim
end

/-! ### comprehensions -/
abbrev Gh.mute (G : Gh) : Gh := { G with W := fun _ _ _ _ => False }
section
variable {G : Gh} {F H : Hp} {hs : HS} {ρ : Rho} {σ : St}
theorem Rel.mute (R : Rel G F H hs ρ σ) : Rel G.mute F H hs ρ σ := ⟨R.sub, R.hand, R.base, R.f0, R.new0, R.len, R.slots, R.apart⟩
theorem Rel.unmute (R : Rel G.mute F H hs ρ σ) : Rel G F H hs ρ σ := ⟨R.sub, R.hand, R.base, R.f0, R.new0, R.len, R.slots, R.apart⟩
theorem Rel.wipe (R : Rel G F H hs ρ σ) : ∀ vs : List Nat, Rel G F H hs (wipeR ρ vs) (L2.wipe σ vs)
  | [] => R
  | v :: vs => (Rel.wipe R vs).gone v
/-- one more slot behind -/
theorem Rel.push (R : Rel G F H hs ρ σ) {p : Addr} (np : H p = none) : Rel G F (upd H p (.lst [])) hs (ρ ++ [.own []]) (σ ++ [some (.ref p)]) := by
  have R1 : Rel G F H hs (ρ ++ [.no]) (σ ++ [none]) := by
    refine ⟨R.sub, R.hand, R.base, R.f0, R.new0, by simp [R.len], fun i s e => ?_, fun i j x y a hij e1 e2 o1 o2 e3 => ?_⟩
    · by_cases hi : i < ρ.length
      · rw [List.getElem?_append_left hi] at e
        rw [List.getElem?_append_left (by rw [R.len]; exact hi)]
        exact R.slots i s e
      · rw [List.getElem?_append_right (by omega)] at e
        have : s = .no := by
          have m := List.mem_of_getElem? e
          simpa using m
        subst this
        trivial
    · have old : ∀ (k : Nat) (x : Sl), (ρ ++ [Sl.no])[k]? = some x → isOwn x = true → k < ρ.length := by
        intro k x e o
        by_cases hk : k < ρ.length
        · exact hk
        · rw [List.getElem?_append_right (by omega)] at e
          have m := List.mem_of_getElem? e
          simp at m
          subst m
          cases o
      have hi := old i x e1 o1
      have hj := old j y e2 o2
      rw [List.getElem?_append_left hi] at e1
      rw [List.getElem?_append_left hj] at e2
      rw [List.getElem?_append_left (by rw [R.len]; exact hi)] at e3
      rw [List.getElem?_append_left (by rw [R.len]; exact hj)]
      exact R.apart i j x y a hij e1 e2 o1 o2 e3
  have R2 := R1.fresh np ρ.length
  rw [List.set_append_right _ _ (Nat.le_refl _), Nat.sub_self] at R2
  rw [← R.len, List.set_append_right _ _ (Nat.le_refl _), Nat.sub_self] at R2
  exact R2
theorem Rel.pop {s : Sl} {x : Option V} (R : Rel G F H hs (ρ ++ [s]) (σ ++ [x])) : Rel G F H hs ρ σ := by
  have len : σ.length = ρ.length := by have := R.len; simp at this; exact this
  have lf : ∀ {i : Nat} {s : Sl}, ρ[i]? = some s → i < ρ.length := fun {i s} e => (List.getElem?_eq_some_iff.mp e).1
  refine ⟨R.sub, R.hand, R.base, R.f0, R.new0, len, fun i s e => ?_, fun i j x y a hij e1 e2 o1 o2 e3 => ?_⟩
  · have q := R.slots i s (by rw [List.getElem?_append_left (lf e)]; exact e)
    rw [List.getElem?_append_left (by rw [len]; exact lf e)] at q
    exact q
  · have q := R.apart i j x y a hij (by rw [List.getElem?_append_left (lf e1)]; exact e1) (by rw [List.getElem?_append_left (lf e2)]; exact e2) o1 o2 (by rw [List.getElem?_append_left (by rw [len]; exact lf e1)]; exact e3)
    rw [List.getElem?_append_left (by rw [len]; exact lf e2)] at q
    exact q
theorem rd_nerr {α β : Type} {rel : Hp → β → α → Prop} {g : Rho → M α} {P : α → HS → Prop} (R : Rel G F H hs ρ σ) (p : match nerr (g ρ) hs with | .ok a h' => P a h' | _ => False) :
    rd G.mute rel g σ H fun v H1 => ∃ F1 hs1 a, Rel G F1 H1 hs1 ρ σ ∧ Step G.ha F H F1 H1 ∧ rel F1 v a ∧ P a hs1 := by
  refine ⟨F, hs, ρ, R.mute, ?_⟩
  unfold nerr at p
  cases z : g ρ hs with
  | ok a h' =>
    rw [z] at p
    exact fun F' H' v s hh r => ⟨F', h', a, R.step s hh, s, r, p⟩
  | err c d h' => rw [z] at p; exact p.elim
  | stuck => rw [z] at p; exact p.elim
theorem post_nerr {α β γ : Type} {rel : Hp → β → γ → Prop} {Q : β → Hp → Prop} {x : M α} {k : α → M γ} (p : post G σ F H rel Q (bnd (nerr x) k hs)) : match nerr x hs with | .ok a h' => post G σ F H rel Q (k a h') | _ => False := by
  unfold bnd at p
  cases z : nerr x hs with
  | ok a h' => rw [z] at p; exact p
  | err c d h' =>
    unfold nerr at z
    cases w : x hs with
    | ok _ _ => rw [w] at z; cases z
    | err _ _ _ => rw [w] at z; cases z
    | stuck => rw [w] at z; cases z
  | stuck => rw [z] at p; exact p.elim
/-- the comprehension's invariant -/
theorem comp_inv {J : It} {ds : List D} {gt : TG} {t : Tgt} {vs : List Nat} {c : Rho → M Bool} {g : Rho → M D} {Q : VK} {Dd : Addr} (ht : GOk G vs gt t) (R : Rel G F H hs ρ σ) (S : Src G.K J ds F) (nD : H Dd = none)
    (p : post G σ F H (relE G) Q (comp1 t c g (wipeR ρ vs) ds [] hs)) :
    ∃ W : Nat → Nat → Hp → Prop, (∃ m, W 0 m (upd H Dd (.lst []))) ∧ ∀ i m H, W i m H →
      (J.stop i H ∧ Q (.ref Dd) H) ∨ (J.go i H ∧ ∃ Nx : Hp → Prop, (∀ H', Nx H' → ∃ m', m' < m ∧ W (i + 1) m' H') ∧ ∀ x H', J.yld i H x H' → gt x (L2.wipe σ vs) H' fun σ2 H2 => L2.wipe σ2 vs = L2.wipe σ vs ∧ tT G.mute c σ2 H2 fun b H3 =>
        if b = true then tE G.mute g σ2 H3 fun y H4 => ∃ acc, H4 Dd = some (.lst acc) ∧ acc.length < sizeLine ∧ Nx (upd H4 Dd (.lst (acc ++ [y]))) else Nx H3) := by
  -- at a turn: what is made so far stands in one more slot
  let Iv : Nat → Hp → Prop := fun i H' => ∃ F' hs' acc, Rel G F' H' hs' (wipeR ρ vs ++ [.own acc]) (L2.wipe σ vs ++ [some (.ref Dd)]) ∧ Step G.ha F H F' H' ∧ Src G.K J ds F' ∧ post G σ F H (relE G) Q (comp1 t c g (wipeR ρ vs) (ds.drop i) acc hs')
  have st0 : PStep F H F (upd H Dd (.lst [])) := PStep.garb R.sub nD
  refine ⟨fun i m H' => m = ds.length - i ∧ i ≤ ds.length ∧ Iv i H', ⟨ds.length, by simp, Nat.zero_le _, F, hs, [], (R.wipe vs).push nD, st0.step, S, by simpa using p⟩, ?_⟩
  rintro i m H' ⟨rfl, hi, F', hs', acc, RX, st, S', p'⟩
  have slot : (wipeR ρ vs ++ [Sl.own acc])[(wipeR ρ vs).length]? = some (.own acc) := by simp
  have len2 : (L2.wipe σ vs).length = (wipeR ρ vs).length := (RX.pop).len
  have slotV : (L2.wipe σ vs ++ [some (V.ref Dd)])[(wipeR ρ vs).length]? = some (some (.ref Dd)) := by rw [← len2]; simp
  by_cases hlt : i < ds.length
  · have e : ds[i]? = some ds[i] := List.getElem?_eq_getElem hlt
    obtain ⟨gg, y⟩ := S'.go F' H' i ds[i] (Same.refl F') RX.sub e
    refine .inr ⟨gg, Iv (i + 1), fun H2 q => ⟨ds.length - (i + 1), by omega, rfl, hlt, q⟩, fun x H2 yy => ?_⟩
    obtain ⟨rfl, dx⟩ := y x H2 yy
    rw [List.drop_eq_getElem_cons hlt] at p'
    simp only [comp1] at p'
    cases z : t ds[i] (wipeR ρ vs) with
    | none => rw [z] at p'; exact p'.elim
    | some ρ1 =>
      rw [z] at p'
      simp only at p'
      refine ht F' H2 hs' _ ρ1 _ x ds[i] _ RX.pop (.inl dx) z fun σ1 R1 w1 => ⟨by rw [w1, wipe_wipe], ?_⟩
      refine (rd_nerr (rel := relB) R1 (post_nerr p')).mono ?_
      rintro b H3 ⟨F3, hs3, b', R3, s3, rfl, p3⟩
      have RX3 := RX.step s3 R3.hand
      have st3 := st.trans s3 fun x e => (R3.hand x e).1
      cases b with
      | false =>
        simp only [Bool.false_eq_true, if_false] at p3
        exact iteF ⟨F3, hs3, acc, RX3, st3, S'.after s3.ff, p3⟩
      | true =>
        simp only [if_true] at p3
        refine iteT ((rd_nerr (rel := relE G) R3 (post_nerr p3)).mono ?_)
        rintro v H4 ⟨F4, hs4, d, R4, s4, r4, p4⟩
        have RX4 := RX3.step s4 R4.hand
        have st4 := st3.trans s4 fun x e => (R4.hand x e).1
        split at p4
        · rename_i cnd
          obtain ⟨a', ws, ea, g1, g2, g3, g4, g5⟩ := RX4.slots _ _ slot
          rw [slotV] at ea
          cases ea
          refine ⟨ws, g1, by rw [dpAll_len g5]; exact line_of (Nat.le_of_lt cnd.2), F4, hs4, acc ++ [d], ?_, ?_, (S'.after s3.ff).after s4.ff, p4⟩
          · have q := RX4.app slot slotV g1 (r4.dp cnd.1)
            rw [List.set_append_right _ _ (Nat.le_refl _), Nat.sub_self] at q
            exact q
          · exact ⟨st4.ff, fun b o q => by rw [upd_ne (ne_of_none q g2)]; exact st4.fh b o q, fun b o q n => by rw [upd_ne (ne_of_none q nD)]; exact st4.keep b o q n, st4.new⟩
        · exact p4.elim
  · have e : i = ds.length := by omega
    subst e
    rw [List.drop_eq_nil_of_le (Nat.le_refl _)] at p'
    refine .inl ⟨S'.stop F' H' (Same.refl F') RX.sub, ?_⟩
    obtain ⟨a', ws, ea, g1, g2, g3, g4, g5⟩ := RX.slots _ _ slot
    rw [slotV] at ea
    cases ea
    obtain ⟨RF, dF⟩ := RX.freeze slot slotV g1
    refine p' _ H' (.ref Dd) ⟨fun b o q => ?_, RF.sub, st.keep, fun b q => ?_⟩ RF.hand (.inl dF)
    · have q' := st.ff b o q
      rw [upd_ne (ne_of_none q' g2)]; exact q'
    · by_cases hb : b = Dd
      · subst hb; exact .inr nD
      · rw [upd_ne hb] at q; exact st.new b q
end
section
variable {X : Cx} {G : Gh} {pos : Pos}
theorem comp_seq {gi : Rho → M D} {gt : TG} {t : Tgt} {vs : List Nat} {c : Rho → M Bool} {g : Rho → M D} {σ : St} {H : Hp} {Q : VK} (ht : GOk G vs gt t) (h : tE G (gComp vs gi t c g) σ H Q) : tLc (iSeq G.K (tE G gi)) gt (tT G.mute c) (tE G.mute g) vs σ H Q := by
  obtain ⟨F, hs, ρ, R, p⟩ := h
  refine iSeq_of (k := fun _ _ _ _ => True) R ?_
  unfold gComp bnd at p
  cases z : gi ρ hs with
  | ok d h' =>
    rw [z] at p
    simp only at p
    cases w : itemsOf d with
    | none => rw [w] at p; exact p.elim
    | some ds =>
      rw [w] at p
      exact ⟨ds, w, fun F' H' J st hh S Dd nD => comp_inv ht (R.step st hh) S nD (p.after st)⟩
  | err c d h' => rw [z] at p; exact p
  | stuck => rw [z] at p; exact p.elim
theorem comp_rng1 {gi : Rho → M (List D)} {gt : TG} {t : Tgt} {vs : List Nat} {c : Rho → M Bool} {g : Rho → M D} {σ : St} {H : Hp} {Q : VK} (l : ALen 1 gi) (ht : GOk G vs gt t) (h : tE G (gCompR vs gi t c g) σ H Q) : tLc (iRng1 (tA G gi)) gt (tT G.mute c) (tE G.mute g) vs σ H Q := by
  obtain ⟨F, hs, ρ, R, p⟩ := h
  refine rng1_of R ?_
  unfold gCompR bnd at p
  cases z : gi ρ hs with
  | ok as h' =>
    rw [z] at p
    simp only at p
    cases w : rangeOf as with
    | none => rw [w] at p; exact p.elim
    | some ds =>
      rw [w] at p
      refine ⟨l _ _ _ _ z, ds, w, fun F' H' lo n st hh e Dd nD => ?_⟩
      subst e
      exact comp_inv ht (R.step st hh) (src_range lo n) nD (p.after st)
  | err c d h' => rw [z] at p; exact p
  | stuck => rw [z] at p; exact p.elim
theorem comp_rng2 {gi : Rho → M (List D)} {gt : TG} {t : Tgt} {vs : List Nat} {c : Rho → M Bool} {g : Rho → M D} {σ : St} {H : Hp} {Q : VK} (l : ALen 2 gi) (ht : GOk G vs gt t) (h : tE G (gCompR vs gi t c g) σ H Q) : tLc (iRng2 (tA G gi)) gt (tT G.mute c) (tE G.mute g) vs σ H Q := by
  obtain ⟨F, hs, ρ, R, p⟩ := h
  refine rng2_of R ?_
  unfold gCompR bnd at p
  cases z : gi ρ hs with
  | ok as h' =>
    rw [z] at p
    simp only at p
    cases w : rangeOf as with
    | none => rw [w] at p; exact p.elim
    | some ds =>
      rw [w] at p
      refine ⟨l _ _ _ _ z, ds, w, fun F' H' lo n st hh e Dd nD => ?_⟩
      subst e
      exact comp_inv ht (R.step st hh) (src_range lo n) nD (p.after st)
  | err c d h' => rw [z] at p; exact p
  | stuck => rw [z] at p; exact p.elim
theorem q_yes : PTs X [] (tT G fun _ => ret true) := by
  refine ⟨fun pins s σ H Q I q => pts_nil.run pins s σ H Q I ?_⟩
  obtain ⟨F, hs, ρ, R, p⟩ := q
  exact p F H true (Step.refl R.sub) R.hand rfl
theorem q_if {c : Expr} {u : Rho → M Bool} (h : PT X c (tT G u)) : PTs X [c] (tT G u) := pts_one h
/-- as a value: from pe_lc -/
theorem e_lc {e : Expr} {gi : Rho → M D} {gt : TG} {t : Tgt} {vs : List Nat} {c : Rho → M Bool} {g : Rho → M D} (ht : GOk G vs gt t) (h : PE X e (tLc (iSeq G.K (tE G gi)) gt (tT G.mute c) (tE G.mute g) vs)) : PE X e (tE G (gComp vs gi t c g)) := peI h fun _ _ _ q => comp_seq ht q
theorem e_lcR1 {e : Expr} {gi : Rho → M (List D)} {gt : TG} {t : Tgt} {vs : List Nat} {c : Rho → M Bool} {g : Rho → M D} (l : ALen 1 gi) (ht : GOk G vs gt t) (h : PE X e (tLc (iRng1 (tA G gi)) gt (tT G.mute c) (tE G.mute g) vs)) : PE X e (tE G (gCompR vs gi t c g)) := peI h fun _ _ _ q => comp_rng1 l ht q
theorem e_lcR2 {e : Expr} {gi : Rho → M (List D)} {gt : TG} {t : Tgt} {vs : List Nat} {c : Rho → M Bool} {g : Rho → M D} (l : ALen 2 gi) (ht : GOk G vs gt t) (h : PE X e (tLc (iRng2 (tA G gi)) gt (tT G.mute c) (tE G.mute g) vs)) : PE X e (tE G (gCompR vs gi t c g)) := peI h fun _ _ _ q => comp_rng2 l ht q
/-- name = [..]: from ps_setLc -/
theorem p_setE {i : Nat} {st : Stmt} {te : TE} {g : Rho → M D} (i : Nat) (he : ∀ σ H Q, tE G g σ H Q → te σ H Q) (h : PS X st (tAsg te (gName i))) : PS X st (tS G (sSet i g)) := by
  refine psI h fun E σ H q => ?_
  refine he σ H _ ((exp_then (rel := relE G) q).mono ?_)
  rintro v H1 ⟨F, hs, ρ, d, R, r, p⟩
  exact p F H1 _ (Same.refl F) (R.put i r)
end
end L2.AR
set_option Elab.async false
set_option linter.all false
set_option maxRecDepth 100000
set_option maxHeartbeats 4000000
/-! Fw7: the operations on data. -/
namespace L2.AR
open PySem PySem.Spec PyProof.Rows

/-! ### whole numbers -/
def iop (C : Int → Int → Bool) (g : Int → Int → Int) : D → D → Option D
  | .int i, .int j => if C i j then some (.int (g i j)) else none
  | _, _ => none
def icmp (g : Int → Int → Bool) : D → D → Option D
  | .int i, .int j => some (.bool (g i j))
  | _, _ => none
def fst2 (f g : D → D → Option D) (x y : D) : Option D := (f x y).orElse fun _ => g x y
section
variable {K : PySem.W.Frag}
theorem r2_or {r r' : R2} {f g : D → D → Option D} (h : R2ok K r f) (h' : R2ok K r' g) : R2ok K (fun x y H Q => r x y H Q ∨ r' x y H Q) (fst2 f g) := by
  intro F H v w x y z Q s hv hw e q
  unfold fst2 at e
  cases c : f x y with
  | some u =>
    rw [c] at e
    cases e
    exact .inl (h F H v w x y z Q s hv hw c q)
  | none =>
    rw [c] at e
    exact .inr (h' F H v w x y z Q s hv hw e q)
theorem r2_iop {C : Int → Int → Prop} {c : Int → Int → Bool} {g : Int → Int → Int} (h : ∀ i j, c i j = true → C i j) : R2ok K (rI C fun i j => .int (g i j)) (iop c g) := by
  intro F H v w x y z Q s hv hw e q
  cases x with
  | int i =>
    cases y with
    | int j =>
      cases hv
      cases hw
      have e' : (if c i j then some (PyData.int (g i j)) else none) = some z := e
      by_cases b : c i j = true
      · rw [if_pos b] at e'
        cases e'
        exact ⟨i, j, rfl, rfl, h i j b, q _ _ _ (PStep.refl s) (.int _)⟩
      · rw [if_neg b] at e'
        cases e'
    | _ => cases e
  | _ => cases e
theorem r2_iop0 {g : Int → Int → Int} : R2ok K (rI0 fun i j => .int (g i j)) (iop (fun _ _ => true) g) := by
  intro F H v w x y z Q s hv hw e q
  cases x with
  | int i =>
    cases y with
    | int j =>
      cases hv
      cases hw
      cases e
      exact ⟨i, j, rfl, rfl, q _ _ _ (PStep.refl s) (.int _)⟩
    | _ => cases e
  | _ => cases e
theorem r2_icmp {g : Int → Int → Bool} : R2ok K (rI0 fun i j => .bl (g i j)) (icmp g) := by
  intro F H v w x y z Q s hv hw e q
  cases x with
  | int i =>
    cases y with
    | int j =>
      cases hv
      cases hw
      cases e
      exact ⟨i, j, rfl, rfl, q _ _ _ (PStep.refl s) (.bl _)⟩
    | _ => cases e
  | _ => cases e
end
def small64 (i : Int) : Bool := decide (i.natAbs < 2 ^ 64)
def fSub := iop (fun _ _ => true) (· - ·)
def fAddI := iop (fun _ _ => true) (· + ·)
def fMul := iop (fun i j => small64 i || small64 j || decide (i.natAbs.log2 + j.natAbs.log2 < 1000000)) (· * ·)
def fDiv := iop (fun i j => decide (0 < j) && decide (j.natAbs.log2 < 9000)) (· / ·)
def fMod := iop (fun _ j => decide (j ≠ 0)) Int.fmod
def fPow := iop (fun i j => decide (0 ≤ j) && decide (j ≤ 1000000) && small64 i) (fun i j => i ^ j.toNat)
def fShl := iop (fun i j => decide (0 ≤ j) && decide (j ≤ 1000000) && small64 i) (fun i j => i * 2 ^ j.toNat)
def fShr := iop (fun _ j => decide (0 ≤ j)) (fun i j => i / 2 ^ j.toNat)
def fAnd := iop (fun _ _ => true) Builtin.bitAnd
def fOr := iop (fun _ _ => true) Builtin.bitOr
def fLt := icmp fun i j => decide (i < j)
def fLe := icmp fun i j => decide (i ≤ j)
def fGt := icmp fun i j => decide (j < i)
def fGe := icmp fun i j => decide (j ≤ i)
section
variable {X : Cx} {K : PySem.W.Frag}
theorem small64_of {i : Int} (h : small64 i = true) : -(2 ^ 64) < i ∧ i < 2 ^ 64 := by
  unfold small64 at h
  have h := of_decide_eq_true h
  omega
theorem sub_ok : R2ok K (rI0 fun i j => .int (i - j)) fSub := r2_iop0
theorem addI_ok : R2ok K (rI0 fun i j => .int (i + j)) fAddI := r2_iop0
def rMulA : R2 := rI (fun i j => CMul i j ∨ CMulW i j) fun i j => .int (i * j)
theorem op_mulA : OpR X (binaryOp .Mult) rMulA := opI fun _ _ _ _ _ _ _ hc q => mul_int q (hc.elim CMul.ok CMulW.ok)
theorem mul_ok : R2ok K rMulA fMul := r2_iop fun i j h => by
  simp only [Bool.or_eq_true, decide_eq_true_eq] at h
  rcases h with (h | h) | h
  · exact .inl (.inl (small64_of h))
  · exact .inl (.inr (small64_of h))
  · exact .inr h
theorem div_ok : R2ok K (rI CDivW fun i j => .int (i / j)) fDiv := r2_iop fun i j h => by
  simp only [Bool.and_eq_true, decide_eq_true_eq] at h
  exact h
theorem mod_ok : R2ok K (rI (fun _ j => j ≠ 0) fun i j => .int (i.fmod j)) fMod := r2_iop fun i j h => of_decide_eq_true h
theorem pow_ok : R2ok K (rI CPow fun i j => .int (i ^ j.toNat)) fPow := r2_iop fun i j h => by
  simp only [Bool.and_eq_true, decide_eq_true_eq] at h
  have := small64_of h.2
  exact ⟨h.1.1, h.1.2, by omega⟩
theorem shl_ok : R2ok K (rI CPow fun i j => .int (i * 2 ^ j.toNat)) fShl := r2_iop fun i j h => by
  simp only [Bool.and_eq_true, decide_eq_true_eq] at h
  have := small64_of h.2
  exact ⟨h.1.1, h.1.2, by omega⟩
theorem shr_ok : R2ok K (rI (fun _ j => 0 ≤ j) fun i j => .int (i / 2 ^ j.toNat)) fShr := r2_iop fun i j h => of_decide_eq_true h
theorem and_ok : R2ok K (rI0 fun i j => .int (Builtin.bitAnd i j)) fAnd := r2_iop0
theorem or_ok : R2ok K (rI0 fun i j => .int (Builtin.bitOr i j)) fOr := r2_iop0
theorem lt_ok : R2ok K (rI0 fun i j => .bl (decide (i < j))) fLt := r2_icmp
theorem le_ok : R2ok K (rI0 fun i j => .bl (decide (i ≤ j))) fLe := r2_icmp
theorem gt_ok : R2ok K (rI0 fun i j => .bl (decide (j < i))) fGt := r2_icmp
theorem ge_ok : R2ok K (rI0 fun i j => .bl (decide (j ≤ i))) fGe := r2_icmp

/-! ### +: ints, texts, lists, tuples -/
def fAddS : D → D → Option D
  | .str a, .str b => if a.length + b.length ≤ 1000000 then some (.str (a ++ b)) else none
  | .list a, .list b => if a.length + b.length ≤ 1000000 then some (.list (a ++ b)) else none
  | .tuple a, .tuple b => if a.length + b.length ≤ 1000000 then some (.tuple (a ++ b)) else none
  | _, _ => none
def fAdd := fst2 fAddI fAddS
def rAddS (K : PySem.W.Frag) : R2 := fun x y H Q => (∃ i j, x = .str i ∧ y = .str j ∧ i.length + j.length ≤ sizeLine ∧ Q (.str (i ++ j)) H) ∨ rCat x y H Q ∨ rCatF K x y H Q
theorem addS_ok : R2ok K (rAddS K) fAddS := by
  intro F H v w x y z Q s hv hw e q
  cases x with
  | str a =>
    cases y with
    | str b =>
      cases hv
      cases hw
      have e' : (if a.length + b.length ≤ 1000000 then some (PyData.str (a ++ b)) else none) = some z := e
      by_cases c : a.length + b.length ≤ 1000000
      · rw [if_pos c] at e'
        cases e'
        exact .inl ⟨a, b, rfl, rfl, Nat.le_of_lt (line_of c), q _ _ _ (PStep.refl s) (.str _)⟩
      · rw [if_neg c] at e'
        cases e'
    | _ => cases e
  | list a =>
    cases y with
    | list b =>
      cases hv with
      | lst h1 h2 =>
        cases hw with
        | lst g1 g2 =>
          rename_i pa xs pb ys
          have e' : (if a.length + b.length ≤ 1000000 then some (PyData.list (a ++ b)) else none) = some z := e
          by_cases c : a.length + b.length ≤ 1000000
          · rw [if_pos c] at e'
            cases e'
            refine .inr (.inl ⟨pa, pb, xs, ys, rfl, rfl, s _ _ h1, s _ _ g1, by rw [dpAll_len h2, dpAll_len g2]; exact Nat.le_of_lt (line_of c), fun p np => q _ _ _ (PStep.alloc s np) ?_⟩)
            exact .lst upd_same (dpAll_same (PStep.alloc s np (o := .lst (xs ++ ys))).ff _ _ (dpAll_append h2 g2))
          · rw [if_neg c] at e'
            cases e'
    | _ => cases e
  | tuple a =>
    cases y with
    | tuple b =>
      cases hv with
      | tup h1 h2 =>
        cases hw with
        | tup g1 g2 =>
          rename_i pa xs pb ys
          have e' : (if a.length + b.length ≤ 1000000 then some (PyData.tuple (a ++ b)) else none) = some z := e
          by_cases c : a.length + b.length ≤ 1000000
          · rw [if_pos c] at e'
            cases e'
            refine .inr (.inr ⟨pa, pb, xs, ys, rfl, rfl, sqt_same s h1.sqt, sqt_same s g1.sqt, by rw [dpAll_len h2, dpAll_len g2]; exact Nat.le_of_lt (line_of c), fun z => ?_, fun z1 z2 => ?_, fun _ _ p o np no => q _ _ _ (PStep.alloc s np) ?_⟩)
            · subst z
              cases h2
              exact q _ _ _ (PStep.refl s) (.tup g1 g2)
            · subst z2
              cases g2
              rw [List.append_nil] at q
              exact q _ _ _ (PStep.refl s) (.tup h1 h2)
            · exact .tup ⟨o, upd_same, no⟩ (dpAll_same (PStep.alloc s np (o := .frz o (.tup (xs ++ ys)))).ff _ _ (dpAll_append h2 g2))
          · rw [if_neg c] at e'
            cases e'
    | _ => cases e
  | _ => cases e
theorem op_addS : OpR X (binaryOp .Add) (rAddS X.K) := OpR.or op_add_str (OpR.or op_cat op_catF)
theorem op_addA : OpR X (binaryOp .Add) (fun x y H Q => (rI0 fun i j => .int (i + j)) x y H Q ∨ rAddS X.K x y H Q) := OpR.or op_add op_addS
theorem add_ok : R2ok K (fun x y H Q => (rI0 fun i j => .int (i + j)) x y H Q ∨ rAddS K x y H Q) fAdd := r2_or addI_ok addS_ok

/-! ### ==, !=, is None, in -/
def fEqD (x y : D) : Option D := if SeqAt.shaped x = true ∧ SeqAt.shaped y = true then some (.bool (PyData.eqv x y)) else none
def fNeD (x y : D) : Option D := if SeqAt.shaped x = true ∧ SeqAt.shaped y = true then some (.bool (!PyData.eqv x y)) else none
def fEqS : D → D → Option D
  | .str a, .str b => some (.bool (a == b))
  | _, _ => none
def fNeS : D → D → Option D
  | .str a, .str b => some (.bool (!(a == b)))
  | _, _ => none
def fEq := fst2 fEqS fEqD
def fNe := fst2 fNeS fNeD
theorem eqS_ok : R2ok K rEq fEqS := by
  intro F H v w x y z Q s hv hw e q
  unfold fEqS at e
  split at e
  · cases e
    cases hv
    cases hw
    refine ⟨rfl, ?_⟩
    rw [dec_str]
    exact q _ _ _ (PStep.refl s) (.bl _)
  · cases e
theorem neS_ok : R2ok K rNe fNeS := by
  intro F H v w x y z Q s hv hw e q
  unfold fNeS at e
  split at e
  · cases e
    cases hv
    cases hw
    refine ⟨rfl, ?_⟩
    rw [dec_str]
    exact q _ _ _ (PStep.refl s) (.bl _)
  · cases e
theorem eqD_ok : R2ok K (rEqD K) fEqD := by
  intro F H v w x y z Q s hv hw e q
  unfold fEqD at e
  split at e
  · rename_i c
    cases e
    exact ⟨x, y, dq_dp x v (dp_same s _ _ hv), dq_dp y w (dp_same s _ _ hw), c.1, c.2, q _ _ _ (PStep.refl s) (.bl _)⟩
  · cases e
theorem neD_ok : R2ok K (rNeD K) fNeD := by
  intro F H v w x y z Q s hv hw e q
  unfold fNeD at e
  split at e
  · rename_i c
    cases e
    exact ⟨x, y, dq_dp x v (dp_same s _ _ hv), dq_dp y w (dp_same s _ _ hw), c.1, c.2, q _ _ _ (PStep.refl s) (.bl _)⟩
  · cases e
theorem eq_ok : R2ok K (fun x y H Q => rEq x y H Q ∨ rEqD K x y H Q) fEq := r2_or eqS_ok eqD_ok
theorem ne_ok : R2ok K (fun x y H Q => rNe x y H Q ∨ rNeD K x y H Q) fNe := r2_or neS_ok neD_ok
theorem op_eqA (hu : X.A.units + 64 < cLine) : OpR X (compareOp .Eq) (fun x y H Q => rEq x y H Q ∨ rEqD X.K x y H Q) := OpR.or op_eq (op_eqD hu)
theorem op_neA (hu : X.A.units + 64 < cLine) : OpR X (compareOp .NotEq) (fun x y H Q => rNe x y H Q ∨ rNeD X.K x y H Q) := OpR.or op_ne (op_neD hu)
def isNon : D → Bool
  | .none => true
  | _ => false
def fIsN (x y : D) : Option D := if isNon y = true then some (.bool (isNon x)) else none
def fNotN (x y : D) : Option D := if isNon y = true then some (.bool (!isNon x)) else none
theorem isNon_of {F : Hp} {v : V} {x : D} (h : Dq K F v x) : decide (v = .non) = isNon x := by
  cases h <;> rfl
theorem isNon_v {F : Hp} {v : V} {x : D} (h : Dq K F v x) (e : isNon x = true) : v = .non := by
  cases h <;> first | rfl | cases e
theorem isN_ok : R2ok K (fun x y H Q => y = .non ∧ Q (.bl (decide (x = .non))) H) fIsN := by
  intro F H v w x y z Q s hv hw e q
  unfold fIsN at e
  split at e
  · rename_i c
    cases e
    refine ⟨isNon_v hw c, ?_⟩
    rw [isNon_of hv]
    exact q _ _ _ (PStep.refl s) (.bl _)
  · cases e
theorem notN_ok : R2ok K (fun x y H Q => y = .non ∧ Q (.bl (!decide (x = .non))) H) fNotN := by
  intro F H v w x y z Q s hv hw e q
  unfold fNotN at e
  split at e
  · rename_i c
    cases e
    refine ⟨isNon_v hw c, ?_⟩
    rw [isNon_of hv]
    exact q _ _ _ (PStep.refl s) (.bl _)
  · cases e
def toV : D → V
  | .bool b => .bl b
  | .int i => .int i
  | .str x => .str x
  | _ => .non
def flatD : D → Bool
  | .none => true
  | .bool _ => true
  | .int _ => true
  | .str _ => true
  | _ => false
theorem toV_of {F : Hp} {v : V} {x : D} (h : Dq K F v x) (f : flatD x = true) : v = toV x ∧ flatV v = true := by
  cases h <;> first | exact ⟨rfl, rfl⟩ | cases f
theorem toV_all {F : Hp} : ∀ {vs : List V} {ds : List D}, DqAll K F vs ds → ds.all flatD = true → vs = ds.map toV ∧ vs.all flatV = true
  | _, _, .nil, _ => ⟨rfl, rfl⟩
  | _, _, .cons r t, f => by
    rw [List.all_cons, Bool.and_eq_true] at f
    obtain ⟨e, g⟩ := toV_of r f.1
    obtain ⟨e2, g2⟩ := toV_all t f.2
    refine ⟨by rw [List.map_cons, ← e, ← e2], ?_⟩
    rw [List.all_cons, g, g2]
    rfl
def fIn (neg : Bool) (x y : D) : Option D :=
  match itemsOf y with
  | some ds => if flatD x = true ∧ ds.all flatD = true then some (.bool (if neg then !inV (toV x) (ds.map toV) else inV (toV x) (ds.map toV))) else none
  | none => none
theorem in_ok {neg : Bool} : R2ok K (rIn K neg) (fIn neg) := by
  intro F H v w x y z Q s hv hw e q
  unfold fIn at e
  have key : ∀ (ds : List D), itemsOf y = some ds → ∃ p xs, w = .ref p ∧ (SqL K H p xs ∨ SqT K H p xs) ∧ DqAll K F xs ds := by
    intro ds ei
    cases y with
    | list ys =>
      cases ei
      cases hw with
      | lst h1 h2 => exact ⟨_, _, rfl, .inl (SqL.of (s _ _ h1)), h2⟩
    | tuple ys =>
      cases ei
      cases hw with
      | tup h1 h2 => exact ⟨_, _, rfl, .inr (sqt_same s h1.sqt), h2⟩
    | _ => cases ei
  cases c : itemsOf y with
  | none => rw [c] at e; cases e
  | some ds =>
    rw [c] at e
    obtain ⟨p, xs, rfl, hs, ha⟩ := key ds c
    simp only at e
    split at e
    · rename_i f
      cases e
      obtain ⟨e1, f1⟩ := toV_of hv f.1
      obtain ⟨e2, f2⟩ := toV_all ha f.2
      refine ⟨p, xs, rfl, hs, f1, f2, ?_⟩
      rw [e1, e2]
      exact q _ _ _ (PStep.refl s) (.bl _)
    · cases e

/-! ### items -/
def fIx : D → D → Option D
  | .list ds, .int i => atI ds i
  | .tuple ds, .int i => atI ds i
  | .str x, .int i => if x.length ≤ 1000000 then (atI x.cps.toList i).map fun c => .str ⟨#[c]⟩ else none
  | _, _ => none
theorem atI_of {F : Hp} {vs : List V} {ds : List D} {i : Int} {z : D} (h : DqAll K F vs ds) (e : atI ds i = some z) : ∃ u, atI vs i = some u ∧ Dq K F u z := by
  unfold atI at e ⊢
  rw [dpAll_len h]
  cases c : ixN ds.length i with
  | none => rw [c] at e; cases e
  | some j =>
    rw [c] at e
    have e' : ds[j]? = some z := e
    exact dpAll_get' h e'
theorem ix_ok : R2ok K (rIx K) fIx := by
  intro F H v w x y z Q s hv hw e q
  cases x with
  | list ds =>
    cases y with
    | int i =>
      cases hw
      cases hv with
      | lst h1 h2 =>
        obtain ⟨u, e1, e2⟩ := atI_of h2 e
        exact .inl ⟨_, _, i, u, rfl, rfl, SqL.of (s _ _ h1), e1, q _ _ _ (PStep.refl s) e2⟩
    | _ => cases e
  | tuple ds =>
    cases y with
    | int i =>
      cases hw
      cases hv with
      | tup h1 h2 =>
        obtain ⟨u, e1, e2⟩ := atI_of h2 e
        exact .inr (.inl ⟨_, _, i, u, rfl, rfl, sqt_same s h1.sqt, e1, q _ _ _ (PStep.refl s) e2⟩)
    | _ => cases e
  | str x =>
    cases y with
    | int i =>
      cases hw
      cases hv
      have e' : (if x.length ≤ 1000000 then (atI x.cps.toList i).map fun c => (PyData.str ⟨#[c]⟩) else none) = some z := e
      by_cases c : x.length ≤ 1000000
      · rw [if_pos c] at e'
        cases g : atI x.cps.toList i with
        | none => rw [g] at e'; cases e'
        | some c' =>
          rw [g] at e'
          cases e'
          exact .inr (.inr ⟨x, i, c', rfl, rfl, Nat.le_of_lt (line_of c), g, q _ _ _ (PStep.refl s) (.str _)⟩)
      · rw [if_neg c] at e'
        cases e'
    | _ => cases e
  | _ => cases e

/-! ### built-in calls -/
theorem CallR.or {f : Value} {r r' : List V → Hp → VK → Prop} (h : CallR X f r) (h' : CallR X f r') : CallR X f (fun xs H Q => r xs H Q ∨ r' xs H Q) :=
  fun pins s σ H xs us Q I rx q => q.elim (h pins s σ H xs us Q I rx) (h' pins s σ H xs us Q I rx)
theorem one_val {F : Hp} {vs : List V} {d : D} (h : DqAll K F vs [d]) : ∃ v, vs = [v] ∧ Dq K F v d := by
  cases h with
  | cons r t => cases t; exact ⟨_, rfl, r⟩
theorem two_val {F : Hp} {vs : List V} {d e : D} (h : DqAll K F vs [d, e]) : ∃ v w, vs = [v, w] ∧ Dq K F v d ∧ Dq K F w e := by
  cases h with
  | cons r t =>
    obtain ⟨w, rfl, r2⟩ := one_val t
    exact ⟨_, w, rfl, r, r2⟩
def fLen : List D → Option D
  | [.list ds] => some (.int ds.length)
  | [.tuple ds] => some (.int ds.length)
  | [.str x] => if x.length ≤ 1000000 then some (.int x.length) else none
  | _ => none
theorem len_ok : RAok K (fun xs H Q => (∃ p ys, xs = [V.ref p] ∧ (SqL K H p ys ∨ SqT K H p ys) ∧ Q (.int ys.length) H) ∨ (∃ z, xs = [V.str z] ∧ z.length ≤ sizeLine ∧ Q (.int z.length) H)) fLen := by
  intro F H vs ds z Q s h e q
  match ds, e, h with
  | [.list xs], e, h =>
    obtain ⟨v, rfl, r⟩ := one_val h
    cases e
    cases r with
    | lst h1 h2 =>
      refine .inl ⟨_, _, rfl, .inl (SqL.of (s _ _ h1)), ?_⟩
      rw [dpAll_len h2]
      exact q _ _ _ (PStep.refl s) (.int _)
  | [.tuple xs], e, h =>
    obtain ⟨v, rfl, r⟩ := one_val h
    cases e
    cases r with
    | tup h1 h2 =>
      refine .inl ⟨_, _, rfl, .inr (sqt_same s h1.sqt), ?_⟩
      rw [dpAll_len h2]
      exact q _ _ _ (PStep.refl s) (.int _)
  | [.str x], e, h =>
    obtain ⟨v, rfl, r⟩ := one_val h
    have e' : (if x.length ≤ 1000000 then some (PyData.int x.length) else none) = some z := e
    by_cases c : x.length ≤ 1000000
    · rw [if_pos c] at e'
      cases e'
      cases r
      exact .inr ⟨x, rfl, Nat.le_of_lt (line_of c), q _ _ _ (PStep.refl s) (.int _)⟩
    · rw [if_neg c] at e'
      cases e'
  | [], e, _ => cases e
  | [.none], e, _ => cases e
  | [.bool _], e, _ => cases e
  | [.int _], e, _ => cases e
  | [.dict _], e, _ => cases e
  | x :: _ :: _, e, _ => cases x <;> cases e
theorem call_lenA : CallR X (.builtin "len") (fun xs H Q => (∃ p ys, xs = [V.ref p] ∧ (SqL X.K H p ys ∨ SqT X.K H p ys) ∧ Q (.int ys.length) H) ∨ (∃ z, xs = [V.str z] ∧ z.length ≤ sizeLine ∧ Q (.int z.length) H)) := CallR.or call_len_seq call_len_str
def fTuple : List D → Option D
  | [.list ds] => some (.tuple ds)
  | [.tuple ds] => some (.tuple ds)
  | _ => none
theorem tuple_ok : RAok K (rTupF K) fTuple := by
  intro F H vs ds z Q s h e q
  match ds, e, h with
  | [.list xs], e, h =>
    obtain ⟨v, rfl, r⟩ := one_val h
    cases e
    cases r with
    | @lst _ vs' _ h1 h2 =>
      refine ⟨_, _, rfl, .inl ⟨SqL.of (s _ _ h1), fun l o nl no => q _ _ _ (PStep.alloc s nl) ?_⟩⟩
      exact .tup ⟨o, upd_same, no⟩ (dpAll_same (PStep.alloc s nl (o := .frz o (.tup vs'))).ff _ _ h2)
  | [.tuple xs], e, h =>
    obtain ⟨v, rfl, r⟩ := one_val h
    cases e
    cases r with
    | tup h1 h2 => exact ⟨_, _, rfl, .inr ⟨sqt_same s h1.sqt, q _ _ _ (PStep.refl s) (.tup h1 h2)⟩⟩
  | [], e, _ => cases e
  | [.none], e, _ => cases e
  | [.bool _], e, _ => cases e
  | [.int _], e, _ => cases e
  | [.str _], e, _ => cases e
  | [.dict _], e, _ => cases e
  | x :: _ :: _, e, _ => cases x <;> cases e
def fList : List D → Option D
  | [.list ds] => some (.list ds)
  | [.tuple ds] => some (.list ds)
  | _ => none
theorem list_ok : RAok K (fun xs H Q => ∃ p ys, xs = [.ref p] ∧ (SqL K H p ys ∨ SqT K H p ys) ∧ ∀ l, H l = none → Q (.ref l) (upd H l (.lst ys))) fList := by
  intro F H vs ds z Q s h e q
  match ds, e, h with
  | [.list xs], e, h =>
    obtain ⟨v, rfl, r⟩ := one_val h
    cases e
    cases r with
    | @lst _ vs' _ h1 h2 =>
      exact ⟨_, _, rfl, .inl (SqL.of (s _ _ h1)), fun l nl => q _ _ _ (PStep.alloc s nl) (.lst upd_same (dpAll_same (PStep.alloc s nl (o := .lst vs')).ff _ _ h2))⟩
  | [.tuple xs], e, h =>
    obtain ⟨v, rfl, r⟩ := one_val h
    cases e
    cases r with
    | @tup _ vs' _ h1 h2 =>
      exact ⟨_, _, rfl, .inr (sqt_same s h1.sqt), fun l nl => q _ _ _ (PStep.alloc s nl) (.lst upd_same (dpAll_same (PStep.alloc s nl (o := .lst vs')).ff _ _ h2))⟩
  | [], e, _ => cases e
  | [.none], e, _ => cases e
  | [.bool _], e, _ => cases e
  | [.int _], e, _ => cases e
  | [.str _], e, _ => cases e
  | [.dict _], e, _ => cases e
  | x :: _ :: _, e, _ => cases x <;> cases e
def fInt : List D → Option D
  | [.int i] => some (.int i)
  | [.bool k] => some (.int (if k then 1 else 0))
  | _ => none
theorem int_ok : RAok K (fun xs H Q => (∃ i, xs = [.int i] ∧ Q (.int i) H) ∨ ∃ k, xs = [.bl k] ∧ Q (.int (if k then 1 else 0)) H) fInt := by
  intro F H vs ds z Q s h e q
  match ds, e, h with
  | [.int i], e, h =>
    obtain ⟨v, rfl, r⟩ := one_val h
    cases e
    cases r
    exact .inl ⟨i, rfl, q _ _ _ (PStep.refl s) (.int _)⟩
  | [.bool i], e, h =>
    obtain ⟨v, rfl, r⟩ := one_val h
    cases e
    cases r
    exact .inr ⟨i, rfl, q _ _ _ (PStep.refl s) (.int _)⟩
  | [], e, _ => cases e
  | [.none], e, _ => cases e
  | [.str _], e, _ => cases e
  | [.list _], e, _ => cases e
  | [.tuple _], e, _ => cases e
  | [.dict _], e, _ => cases e
  | x :: _ :: _, e, _ => cases x <;> cases e
/-- of two whole numbers -/
def fII (g : Int → Int → Int) : List D → Option D
  | [.int i, .int j] => some (.int (g i j))
  | _ => none
theorem ii_ok {g : Int → Int → Int} : RAok K (fun xs H Q => ∃ i j : Int, xs = [.int i, .int j] ∧ Q (.int (g i j)) H) (fII g) := by
  intro F H vs ds z Q s h e q
  unfold fII at e
  split at e
  · obtain ⟨v, w, rfl, r, r2⟩ := two_val h
    cases e
    cases r
    cases r2
    exact ⟨_, _, rfl, q _ _ _ (PStep.refl s) (.int _)⟩
  · cases e
def fMax := fII fun i j => if j > i then j else i
def fMin := fII fun i j => if j < i then j else i
def fGcd := fII fun i j => ((Nat.gcd i.natAbs j.natAbs : Nat) : Int)
def boolsOf : List D → Option (List Bool)
  | [] => some []
  | .bool b :: ds => (boolsOf ds).map (b :: ·)
  | _ => none
theorem boolsOf_vals {F : Hp} : ∀ {vs : List V} {ds : List D} {bs : List Bool}, DqAll K F vs ds → boolsOf ds = some bs → vs = bs.map V.bl
  | _, _, bs, .nil, e => by cases e; rfl
  | _, _, bs, .cons (d := d) (ds := ds) r t, e => by
    cases d with
    | bool b =>
      cases r
      have e' : (boolsOf ds).map (b :: ·) = some bs := e
      cases c : boolsOf ds with
      | none => rw [c] at e'; cases e'
      | some cs =>
        rw [c] at e'
        cases e'
        rw [boolsOf_vals t c]
        rfl
    | _ => cases e
def fBools (g : List Bool → Bool) : List D → Option D
  | [.list ds] => (boolsOf ds).map fun bs => .bool (g bs)
  | _ => none
theorem bools_ok {g : List Bool → Bool} : RAok K (fun vs H Q => ∃ (a : Addr) (bs : List Bool), vs = [V.ref a] ∧ SqL K H a (bs.map V.bl) ∧ Q (.bl (g bs)) H) (fBools g) := by
  intro F H vs ds z Q s h e q
  unfold fBools at e
  split at e
  · rename_i xs
    obtain ⟨v, rfl, r⟩ := one_val h
    cases c : boolsOf xs with
    | none => rw [c] at e; cases e
    | some bs =>
      rw [c] at e
      cases e
      cases r with
      | lst h1 h2 =>
        have ev := boolsOf_vals h2 c
        refine ⟨_, bs, rfl, ?_, q _ _ _ (PStep.refl s) (.bl _)⟩
        rw [← ev]
        exact SqL.of (s _ _ h1)
  · cases e
def fAll := fBools fun bs => bs.all id
def fAny := fBools fun bs => bs.any id
def fRepr : List D → Option D
  | [d] => if shows d = true then some (.str d.shown) else none
  | _ => none
theorem repr_ok : RAok K (fun xs H Q => ∃ v d, xs = [v] ∧ Dq K H v d ∧ shows d = true ∧ Q (.str d.shown) H) fRepr := by
  intro F H vs ds z Q s h e q
  unfold fRepr at e
  split at e
  · rename_i d
    obtain ⟨v, rfl, r⟩ := one_val h
    split at e
    · rename_i c
      cases e
      exact ⟨v, d, rfl, dp_same s _ _ r, c, q _ _ _ (PStep.refl s) (.str _)⟩
    · cases e
  · cases e

/-! ### isinstance -/
def kindD : D → String
  | .none => "NoneType"
  | .bool _ => "bool"
  | .int _ => "int"
  | .str _ => "str"
  | .list _ => "list"
  | .tuple _ => "tuple"
  | .dict _ => "dict"
def isiAny : List String → D → Option Bool
  | [], _ => some false
  | T :: Ts, d =>
    match kitB (kindD d) T with
    | some true => some true
    | some false => isiAny Ts d
    | none => none
theorem tyx_of {F H : Hp} (s : Same F H) {v : V} {d : D} (h : Dq K F v d) : TyX K H v (.type (kindD d)) := by
  cases h with
  | non => exact .base .non
  | bl b => exact .base (.bl b)
  | int i => exact .base (.int i)
  | str x => exact .base (.str x)
  | lst h1 _ => exact .base (.lst (s _ _ h1))
  | tup h1 _ =>
    rcases sqt_same s h1.sqt with (z | ⟨o, z⟩) | ⟨o, its, n, z, c, _⟩
    · exact .base (.tup z)
    · exact .fTuple z
    · exact .kTuple z c
def gIsi (Ts : List String) (d : D) : M D := if isTok d then stk else
  match isiAny Ts d with
  | some b => ret (.bool b)
  | none => stk
theorem isi_any : ∀ {Ts : List String} {d : D} {b : Bool}, isiAny Ts d = some b → PySem.W.kitAny K (.type (kindD d)) (Ts.map Value.type) = some b
  | [], _, _, e => by cases e; rfl
  | T :: Ts, d, b, e => by
    unfold isiAny at e
    cases c : kitB (kindD d) T with
    | none => rw [c] at e; cases e
    | some k =>
      rw [c] at e
      cases k with
      | true =>
        cases e
        exact kitAny_cons (kit_ty c) (fun z => by cases z) fun _ => rfl
      | false => exact kitAny_cons (kit_ty c) (fun _ => isi_any e) fun z => by cases z
theorem e_isi {G : Gh} {e : Expr} {g : Rho → M D} {T : String} {te : Expr} (hK : G.K = X.K) (h : PE X e (tCB (rIsi X.K) (tCons (tE G g) (tCons (tC (.ty T)) tNil)))) : PE X e (tE G fun ρ => bnd (g ρ) (gIsi [T])) := by
  refine peI h ?_
  rintro σ H Q ⟨F, hs, ρ, R, p⟩
  refine (rd_bind R p).mono ?_
  rintro v H1 ⟨F1, hs1, d, R1, s1, r1, p1⟩
  unfold gIsi at p1
  cases tk : isTok d with
  | true => rw [tk] at p1; exact p1.elim
  | false =>
    rw [tk] at p1
    have dq := r1.dp tk
    simp only [Bool.false_eq_true, if_false] at p1
    unfold isiAny at p1
    cases c : kitB (kindD d) T with
    | none => rw [c] at p1; exact p1.elim
    | some b =>
      have p2 : post G σ F1 H1 (relE G) Q (ret (.bool b) hs1) := by
        rw [c] at p1
        cases b <;> exact p1
      exact ⟨v, .ty T, .type (kindD d), .type T, b, rfl, .ty T, by rw [← hK]; exact tyx_of R1.sub dq, kit_ty c, post_ret R1 p2 (.inl (.bl b))⟩
theorem e_isi2 {G : Gh} {e : Expr} {g : Rho → M D} {T T2 : String} (hK : G.K = X.K) (h : PE X e (tCB (rIsiT X.K) (tCons (tE G g) (tCons (tTup (tCons (tC (.ty T)) (tCons (tC (.ty T2)) tNil))) tNil)))) : PE X e (tE G fun ρ => bnd (g ρ) (gIsi [T, T2])) := by
  refine peI h ?_
  rintro σ H Q ⟨F, hs, ρ, R, p⟩
  refine (rd_bind R p).mono ?_
  rintro v H1 ⟨F1, hs1, d, R1, s1, r1, p1⟩
  unfold gIsi at p1
  cases tk : isTok d with
  | true => rw [tk] at p1; exact p1.elim
  | false =>
    rw [tk] at p1
    have dq := r1.dp tk
    simp only [Bool.false_eq_true, if_false] at p1
    cases c : isiAny [T, T2] d with
    | none => rw [c] at p1; exact p1.elim
    | some b =>
      rw [c] at p1
      refine ⟨by rw [sizeLine_eq]; exact (by decide : 2 ≤ 16777216), fun q nq => ?_⟩
      have st : PStep F1 H1 F1 (upd H1 q (.tup [.ty T, .ty T2])) := PStep.garb R1.sub nq
      exact ⟨v, q, [.ty T, .ty T2], .type (kindD d), [.type T, .type T2], b, rfl, upd_same, .cons (.ty T) (.cons (.ty T2) .nil), by rw [← hK]; exact tyx_of st.fh dq, isi_any c, post_ret' R1 p1 st (.inl (.bl b))⟩
end
end L2.AR
set_option Elab.async false
set_option linter.all false
set_option maxRecDepth 100000
set_option maxHeartbeats 4000000
/-! Fw8: own errors: raised, caught by several clauses, asked. -/
namespace L2.AR
open PySem PySem.Spec PyProof.Rows

/-! ### raise C(e) -/
theorem quiet_make {A : Around} {C : Addr} {us : List Value} {kw : List (Str × Value)} (g : Quiet A) : Quiet (A.under (.builtin "type.__call__" ⟨.ref C :: us, kw⟩)) := by
  unfold Quiet at g ⊢
  have e : (A.under (.builtin "type.__call__" ⟨.ref C :: us, kw⟩)).guards = A.guards := by
    first
      | rfl
      | (simp [Around.under, Code.guards, Code.isGuard, guardIds, pushGuards]; cases A.guards <;> rfl)
  rw [e]
  exact g
section
variable {X : Cx} {pos p : Pos} {e : Expr} {es : List Expr} {ta : TA}
theorem pmkG {CX : CXT} {x : Str} {C fI : Addr} {k : Nat} {fd : FuncData} {ps : List Str} {sp : Sp} (g : Quiet X.A) (T : OexC X.K C) (iC : PySem.W.findIn X.K (.ref C) "__init__" = some (some (.ref fI))) (tI : PySem.W.typeIn X.K (.ref fI) = some (.type "function"))
    (F1 : FnG X.prog X.w X.K X.mg X.base CX k fI fd ps sp) (hr : Room (k + 1) X.A) (hb : Binds X.K fd ps []) (hx : Passes CX X (fun _ _ _ => False)) (hg : Gl X x) (hm : X.mg x = some (.ref C)) (ha : PA X (e :: es) ta)
    (hdb : (x == ("__debug__" : Str)) = false := by decide) (he : starEach (e :: es) X.env = (false, eval e X.env) :: starEach es X.env := by rfl) (hpl : (backTo pos (starEach es X.env)).any (·.1) = false := by rfl) :
    PMk X (.Call (.Name x p) (e :: es) [] pos) (tMkO C sp [] ta) := by
  intro pins s σ H Q I h
  obtain ⟨nm, q, N, bs, bm, sn, sub, ab, col, dd, k0, k1, k2, k3, k5, atC, mro⟩ := T.cls
  apply wpAny_Call_Name_kw (ld_glob I hg hm _ hdb)
  apply PySem.W.callWith_K (h₀ := X.base) I.ok.mod.kin T.kC _ he hpl
  apply thn (ha.run pos pins s σ H _ I h)
  rintro us ⟨hp, gn, dr, tk, os⟩ ⟨vs, H1, I1, r1, few, q1⟩
  refine ⟨I1.kIn, ?_⟩
  have up : hp.objs.size ≤ hp.objs.size + 1 := Nat.le_succ _
  have want := q1 (hp.objs.size + 1) (I1.hok.fresh up)
  rw [List.append_nil] at want
  have old : ∀ b o, hp.get? b = some o → ((hp.push (PySem.W.kdv_tup us)).push (PySem.HandSPX.excO C hp.objs.size)).get? b = some o := fun b o z => Heap.get?_push_of_some _ (Heap.get?_push_of_some _ z)
  have here : ((hp.push (PySem.W.kdv_tup us)).push (PySem.HandSPX.excO C hp.objs.size)).get? (hp.objs.size + 1) = some (PySem.HandSPX.excO C hp.objs.size) := by heap_get
  have I2 := I1.laid (t' := tk) (a := hp.objs.size + 1) (o := exo (hp.objs.size + 1) C none) (h' := (hp.push (PySem.W.kdv_tup us)).push (PySem.HandSPX.excO C hp.objs.size)) old up (exo_ok here)
  have r2 : Vals (V.ref (hp.objs.size + 1) :: vs) (Value.ref (hp.objs.size + 1) :: us) := .cons rfl r1
  have len : (Value.ref (hp.objs.size + 1) :: us).length = ps.length := by
    rw [← r2.length]
    exact F1.len _ _ _ _ want
  have line : us.length ≤ sizeLine := by
    rw [← Paired.length r1, sizeLine_eq]
    omega
  have bound := hb _ (Value.ref (hp.objs.size + 1) :: us) I2.kIn (by simpa using len)
  rw [List.append_nil] at bound
  apply wpAny_call (PySem.HandSPX.call_own F.excBase_ValueError (fun Y => PySem.HandSPX.refsVE_contains Y bm mro) (I1.kIn _ _ atC) (PySem.W.looks_findIn I1.kIn iC) (fun self => PySem.W.bind_fn I1.kIn self tI) line _)
  apply codeAny_mono (F1.run _ X.stack _ _ ⟨Value.ref (hp.objs.size + 1) :: us, []⟩ _ _ _ (fun _ _ _ => False) (quiet_make g) (hr.make C us []) (I2.env0.make C us []) bound r2 want)
  intro r s' hq
  match r, hq with
  | .error er, hq => exact hx pins σ _ _ er s' I2 hq
  | .ok (.ret u), hq =>
    obtain ⟨v, H2, os2, bare2, un2, hok2, rv, ev, d, fs, ea, ed, hd1, q2⟩ := hq
    subst ev
    exact ⟨rv, mk_end (raises_own T.exC T.tyC) I1 up old un2 hok2 os2 bare2 ea ed hd1 q2⟩
end
/-- what an error's __init__ promises: it keeps m of its argument in its field -/
def spI (K : PySem.W.Frag) (C : Addr) (fld : Str) (m : List D → M D) : Sp := fun vs H Q _ => ∃ ha F hs a v d, vs = [.ref a, v] ∧ Same F H ∧ HandOK ha F H hs ∧ H a = some (exo a C none) ∧ F a = none ∧ ha ≠ some a ∧ Rp K F ha v d ∧
  match m [d] hs with
  | .ok z hs' => isTok z = false ∧ ∀ F' H' dx u, Step ha F H F' H' → HandOK ha F' H' hs' → H' dx = none → dx ≠ a → Dq K F' u z → Q .non (upd (upd H' dx (exd dx [(fld, u)])) a (exo a C (some dx)))
  | _ => False
section
variable {X : Cx} {G : Gh} {pos p pos2 : Pos} {e : Expr} {g : Rho → M D} {m : List D → M D} {x pn : Str} {fI : Addr} {k : Nat} {fd : FuncData}
theorem p_raise (c : Nat) (qt : Quiet X.A) (tk : Takes X G.W) (hc : X.calm = true) (hK : G.K = X.K) (T : OexC X.K (G.cl c)) (iC : PySem.W.findIn X.K (.ref (G.cl c)) "__init__" = some (some (.ref fI))) (tI : PySem.W.typeIn X.K (.ref fI) = some (.type "function"))
    (F1 : FnG X.prog X.w X.K X.mg X.base (L2.CX X.prog X.w) k fI fd ["self", pn] (spI G.K (G.cl c) (G.fld c) m)) (hr : Room (k + 1) X.A) (hb : Binds X.K fd ["self", pn] []) (hg : Gl X x) (hm : X.mg x = some (.ref (G.cl c))) (he : PE X e (tE G g))
    (hst : starEach [e] X.env = (false, eval e X.env) :: starEach [] X.env := by rfl) (hdb : (x == ("__debug__" : Str)) = false := by decide) (hpl : (backTo pos (starEach [] X.env)).any (·.1) = false := by rfl) :
    PS X (.Raise (some (.Call (.Name x p) [e] [] pos)) none pos2) (tS G (sRaise c fun ρ => bnd (g ρ) fun d => nerr (bnd (m [d]) fun z => if isTok z then stk else ret z))) := by
  have noP : Passes (L2.CX X.prog X.w) X (fun _ _ _ => False) := passL
  refine psI (ps_raise hc tk (pmkG qt T iC tI F1 hr hb noP hg hm (pa_cons he pa_nil hst) hdb hst hpl)) ?_
  rintro E σ H h
  -- the argument, then the error's __init__
  obtain ⟨F, hs, ρ, R, pp⟩ := h
  have pp2 : post G σ F H (relE G) (fun v H1 => ∃ F' hs' z, Rel G F' H1 hs' ρ σ ∧ Dq G.K F' v z ∧ isTok z = false ∧ postS G F' E (.err c z ρ hs')) (bnd (g ρ) (fun d => nerr (bnd (m [d]) fun z => if isTok z then stk else ret z)) hs) := by
    dsimp only [sRaise, sExp] at pp
    cases w : bnd (g ρ) (fun d => nerr (bnd (m [d]) fun z => if isTok z then stk else ret z)) hs with
    | ok z hs' =>
      rw [w] at pp
      intro F' H' v s hh r
      have nt : isTok z = false := by
        unfold bnd at w
        cases y : g ρ hs with
        | ok d h1 =>
          rw [y] at w
          simp only at w
          unfold nerr at w
          dsimp only at w
          cases y2 : m [d] h1 with
          | ok z2 h2 =>
            rw [y2] at w
            simp only at w
            by_cases t : isTok z2 = true
            · rw [if_pos t] at w; cases w
            · rw [if_neg t] at w
              cases w
              simpa using t
          | err _ _ _ => rw [y2] at w; cases w
          | stuck => rw [y2] at w; cases w
        | err _ _ _ => rw [y] at w; cases w
        | stuck => rw [y] at w; cases w
      exact ⟨F', hs', z, R.step s hh, r.dp nt, nt, postS.after s.ff pp⟩
    | err c' d' h' =>
      rw [w] at pp
      exact fun F' H' dx v s h hx hn dp => pp F' H' σ dx v s.ff (R.step s h) hx hn dp
    | stuck => rw [w] at pp; exact pp.elim
  refine (rd_bind (rel := relE G) R pp2).mono ?_
  rintro v H1 ⟨F1', hs1, d, R1, s1, r1, p1⟩
  refine ⟨Nat.succ_le_succ (Nat.zero_le _), fun a na => ?_⟩
  have sg : PStep F1' H1 F1' (upd H1 a (exo a (G.cl c) none)) := PStep.garb R1.sub na
  have fa : F1' a = none := R1.sub.free na
  have nha : G.ha ≠ some a := fun z => by
    obtain ⟨_, _, _, h2, _⟩ := R1.hand a z
    rw [na] at h2; cases h2
  refine ⟨G.ha, F1', hs1, a, v, d, rfl, sg.fh, R1.hand.pstep sg, upd_same, fa, nha, r1, ?_⟩
  unfold nerr at p1
  dsimp only [bnd] at p1
  cases w : m [d] hs1 with
  | ok z hs' =>
    rw [w] at p1
    simp only at p1
    by_cases t : isTok z = true
    · rw [if_pos t] at p1; exact p1.elim
    · rw [if_neg t] at p1
      refine ⟨by simpa using t, ?_⟩
      intro F2 H2 dx u s2 hh2 ndx ne du
      have nf2 : F2 a = none := by
        cases y : F2 a with
        | none => rfl
        | some o =>
          rcases s2.new a (by rw [y]; simp) with z1 | z1
          · exact absurd fa z1
          · rw [upd_same] at z1; cases z1
      have nfx : F2 dx = none := s2.fh.free ndx
      have st : Step G.ha F1' H1 F2 (upd (del (upd (upd H2 dx (exd dx [(G.fld c, u)])) a (exo a (G.cl c) (some dx))) a) dx (.xd [(G.fld c, u)])) := by
        have at_ : ∀ b, b ≠ a → b ≠ dx → upd (del (upd (upd H2 dx (exd dx [(G.fld c, u)])) a (exo a (G.cl c) (some dx))) a) dx (.xd [(G.fld c, u)]) b = H2 b := fun b h1 h2 => by
          rw [upd_ne h2, del_ne h1, upd_ne h1, upd_ne h2]
        refine ⟨s2.ff, fun b o y => ?_, fun b o y n => ?_, fun b y => ?_⟩
        · rw [at_ b (ne_of_none y nf2) (ne_of_none y nfx)]
          exact s2.fh b o y
        · have h1 : b ≠ a := ne_of_none y na
          have y2 : H2 b = some o := s2.keep b o (by rw [upd_ne h1]; exact y) n
          rw [at_ b h1 (ne_of_none y2 ndx)]
          exact y2
        · rcases s2.new b y with y1 | y1
          · exact .inl y1
          · by_cases h1 : b = a
            · rw [h1, upd_same] at y1; cases y1
            · rw [upd_ne h1] at y1; exact .inr y1
      have hx : G.ha ≠ some dx := fun z1 => by
        obtain ⟨_, _, _, h2, _⟩ := hh2 dx z1
        rw [ndx] at h2; cases h2
      have hok : HandOK G.ha F2 (upd (del (upd (upd H2 dx (exd dx [(G.fld c, u)])) a (exo a (G.cl c) (some dx))) a) dx (.xd [(G.fld c, u)])) hs' := fun b y => by
        obtain ⟨h1, r, h2, h3, h4⟩ := hh2 b y
        have hb : b ≠ a := fun z1 => nha (by rw [y, z1])
        have hb2 : b ≠ dx := fun z1 => hx (by rw [y, z1])
        exact ⟨h1, r, h2, by rw [upd_ne hb2, del_ne hb, upd_ne hb, upd_ne hb2]; exact h3, h4⟩
      obtain ⟨F3, hs3, z3, R3, d3, t3, p3⟩ := p1 F2 _ u st hok (.inl du)
      refine ⟨rfl, dx, [(G.fld c, u)], upd_same, by rw [upd_ne ne, upd_same], ?_, p3 F3 _ σ dx u (Same.refl F3) R3 upd_same hx ?_⟩
      · cases y : H1 dx with
        | none => rfl
        | some o =>
          have h1 : dx ≠ a := ne
          have y2 : H2 dx = some o := s2.keep dx o (by rw [upd_ne h1]; exact y) hx
          rw [ndx] at y2; cases y2
      · exact d3
  | err _ _ _ => rw [w] at p1; exact p1.elim
  | stuck => rw [w] at p1; exact p1.elim
end
end L2.AR
set_option Elab.async false
set_option linter.all false
set_option maxRecDepth 100000
set_option maxHeartbeats 4000000
/-! Fw9: try with several clauses, some with a name; a caught error asked. -/
namespace L2.AR
open PySem PySem.Spec PyProof.Rows

/-- a clause: its class, the slot of its name, its suite -/
structure Cls1 where
  c : Value
  slot : Option Nat
  ts : Addr → Value → Option Addr → TS
/-- behind a suite the name is gone -/
def unslot (i : Nat) (D : Ends) : Ends := { nx := fun σ H => D.nx (σ.set i none) H, rt := D.rt, bk := fun σ H => D.bk (σ.set i none) H, ct := fun σ H => D.ct (σ.set i none) H }
def suiteOf (q : Cls1) (a : Addr) (cls : Value) (d : Option Addr) (D : Ends) (σ : St) (H : Hp) : Prop :=
  match q.slot with
  | none => q.ts a cls d D σ H
  | some i => q.ts a cls d (unslot i D) (σ.set i (some (.ref a))) H
def wishAll (K : PySem.W.Frag) (Wout : WX) (D : Ends) : List Cls1 → WX
  | [] => Wout
  | q :: r => fun cls d σ H => ∃ b, PySem.W.exmOne K cls q.c = some b ∧ (b = true → ∀ a, H a = none → suiteOf q a cls d D σ H) ∧ (b = false → wishAll K Wout D r cls d σ H)
inductive ClsOk (X : Cx) : List ExceptHandler → List Cls1 → Prop
  | nil : ClsOk X [] []
  | plain {x : Str} {c : Value} {ts : Addr → Value → Option Addr → TS} {b₀ : Stmt} {suite : List Stmt} {np pos' : Pos} {hds : List ExceptHandler} {l : List Cls1} (hc : Names X x c)
      (hsu : ∀ (a : Addr) (oe : Obj) (cls : Value) (d : Option Addr) (pn : List (Addr × Obj)), Zc cls d oe → (∃ vs, oe.data = .fields vs) → PSs (X.suite a ((a, oe) :: pn)) (b₀ :: suite) (ts a cls d)) (r : ClsOk X hds l) :
      ClsOk X (.ExceptHandler (some (.Name x np)) none (b₀ :: suite) pos' :: hds) (⟨c, none, ts⟩ :: l)
  | named {x n : Str} {i : Nat} {c : Value} {ts : Addr → Value → Option Addr → TS} {b₀ : Stmt} {suite : List Stmt} {np pos' : Pos} {hds : List ExceptHandler} {l : List Cls1} (hc : Names X x c) (hi : X.N[i]? = some n) (hln : X.env.kindOf n = some .local)
      (hsu : ∀ (a : Addr) (oe : Obj) (cls : Value) (d : Option Addr) (pn : List (Addr × Obj)), Zc cls d oe → (∃ vs, oe.data = .fields vs) → PSs (X.suite a ((a, oe) :: pn)) (b₀ :: suite) (ts a cls d)) (r : ClsOk X hds l) :
      ClsOk X (.ExceptHandler (some (.Name x np)) (some n) (b₀ :: suite) pos' :: hds) (⟨c, some i, ts⟩ :: l)
section
variable {X : Cx} {pins : List (Addr × Obj)} {σ' : St} {H' : Hp} {sI s' : Shared} {B : Heap} {a : Addr} {cls : Value} {d : Option Addr} {D : Ends} {Wout : WX}
/-- the clauses are asked one after the other, the error on the ground at h -/
theorem clauses (hs : X.stack = X.env :: X.outer) (hf : X.env.frame = some X.env.locals) (hN : X.N.Nodup) (tk : Takes X Wout) (J : Inv X pins σ' H' sI) (nb : ∀ b o, sI.heap.get? b = some o → b ∉ frs X.stack → B.get? b = some o) {h : Heap}
    (fl : HandSPX.FlyingZ B (X.env :: X.outer) a (Zc cls d) h) (up : sI.heap.UpToSlots h) (os : s'.os = sI.os) (ag : AllBare s'.gens) (na : H' a = none) :
    ∀ {hds : List ExceptHandler} {l : List Cls1}, ClsOk X hds l → wishAll X.K Wout D l cls d σ' H' → wpAny (model X.prog X.w) X.A (handleBy (.ref a) X.env hds) (SP X pins D) X.xe { s' with heap := h } := by
  have ok := J.ok
  have onGround : ∀ {h2 : Heap}, HandSPX.FlyingZ B (X.env :: X.outer) a (Zc cls d) h2 → sI.heap.UpToSlots h2 → Inv X pins σ' H' { s' with heap := h2 } := fun {h2} f2 u2 => J.landed (s' := { s' with heap := h2 }) nb f2.1 u2 os ag
  have J3 := onGround fl up
  obtain ⟨oe3, vs3, he3, hz3, hd3⟩ := fl.there
  have off : a ∉ frs (X.env :: X.outer) := fun hm => by
    obtain ⟨_, o', e', no⟩ := fl.2.2.1.mem hm
    rw [he3] at e'
    cases e'
    exact no _ hd3
  have nL : a ≠ X.env.locals := fun z => off (List.mem_filterMap.mpr ⟨X.env, List.mem_cons_self, by rw [hf, z]⟩)
  have nF : a ∉ X.fs := fun hm => by
    obtain ⟨e, he, q⟩ := List.mem_filterMap.mp hm
    exact off (List.mem_filterMap.mpr ⟨e, List.mem_cons_of_mem _ he, q⟩)
  have S3 := J3.suite he3 hd3 na nL nF
  have ask : ∀ {x : Str} {c : Value} {np : Pos}, Names X x c → ∀ {Q : Value → Shared → Prop} {E : Value → Shared → Prop}, Q c { s' with heap := h } → wpAny (model X.prog X.w) (X.A.mark (some (.ref a))) (eval (.Name x np) X.env) Q E { s' with heap := h } := by
    intro x c np hc Q E q
    obtain ⟨hg, hdbg, hm | ⟨hm, hv, hnn⟩⟩ := hc
    · exact ld_glob (X := X.suite a ((a, oe3) :: (X.pn ++ pins))) S3 hg hm q hdbg
    · exact ld_blt (X := X.suite a ((a, oe3) :: (X.pn ++ pins))) S3 hg hm hv q hnn hdbg
  have LT : PySem.W.Looks (model X.prog X.w) h (typeOf (.ref a)) cls := fun A Q E s k q => wpAny_typeOf_ref (k _ _ he3) (by rw [hz3.1]; exact q)
  intro hds l hk
  induction hk with
  | nil =>
    intro w
    apply wpAny_handleBy_nil
    obtain ⟨k1, k2, k3, oe, vs, T, oT, ts', he, hz, hd, h1, hr⟩ := id fl
    unfold PySem.passOn
    apply wpAny_bind (wpAny_field he hd h1 _)
    rw [if_neg (show ¬ ((Value.ref T == Value.none) = true) by simp)]
    have out : wpAny (model X.prog X.w) X.A (setFlight (.ref a) X.env.frame) (fun _ s4 => wpAny (model X.prog X.w) X.A (throw (.ref a) : Sem Flow) (SP X pins D) X.xe s4) X.xe { s' with heap := h } := by
      rw [hf]
      apply HandSPX.setFlight_upZ fl
      intro h4 hh4 up4
      apply wpAny_throw (tk _ _ _)
      exact ⟨a, B, sI, pins, σ', H', cls, d, rfl, J, nb, up.trans up4, .inr (.inr (by rw [hs]; exact hh4)), na, os, ag, w⟩
    first
      | exact wpAny_bind (wpAny_pure (wpAny_bind out))
      | exact wpAny_bind out
  | @plain x c ts b₀ suite np pos' hds2 l2 hc hsu r ih =>
    rintro ⟨b, hb1, hyes, hno⟩
    apply wpAny_handleBy_cons (codeAny_handlers_test _) (by intro q; cases q)
    have LM := PySem.W.exm_one (M := model X.prog X.w) J3.kIn LT hb1
    refine ask hc (LM.here ?_)
    cases b with
    | false => exact ih (hno rfl)
    | true =>
      apply codeAny_handlers_suite
      apply HandSPX.lands_againZ fl
      intro h4 fl4 up4
      obtain ⟨oe4, vs4, he4, hz4, hd4⟩ := fl4.there
      have S4 := (onGround fl4 (up.trans up4)).suite he4 hd4 na nL nF
      apply wpAny_mono ((hsu a oe4 cls d (X.pn ++ pins) hz4 ⟨_, hd4⟩).run [] _ _ H' _ S4 (hyes rfl a na)) _ (fun _ _ z => False.elim z)
      intro f s6 hsp
      cases f with
      | next => exact hsp.imp fun _ q => q.imp fun _ q => ⟨q.1.unsuite ok, q.2⟩
      | brk => exact hsp.imp fun _ q => q.imp fun _ q => ⟨q.1.unsuite ok, q.2⟩
      | cont => exact hsp.imp fun _ q => q.imp fun _ q => ⟨q.1.unsuite ok, q.2⟩
      | ret u => exact hsp.imp fun _ q => q.imp fun _ q => q.imp fun _ q => ⟨q.1.unsuite ok, q.2⟩
  | @named x n i c ts b₀ suite np pos' hds2 l2 hc hi hln hsu r ih =>
    rintro ⟨b, hb1, hyes, hno⟩
    apply wpAny_handleBy_cons (codeAny_handlers_test _) (by intro q; cases q)
    have LM := PySem.W.exm_one (M := model X.prog X.w) J3.kIn LT hb1
    refine ask hc (LM.here ?_)
    cases b with
    | false => exact ih (hno rfl)
    | true =>
      apply codeAny_handlers_suite_as
      apply HandSPX.lands_againZ fl
      intro h4 fl4 up4
      obtain ⟨oe4, vs4, he4, hz4, hd4⟩ := fl4.there
      have S4 := (onGround fl4 (up.trans up4)).suite he4 hd4 na nL nF
      apply store_ok (X := X.suite a ((a, oe4) :: (X.pn ++ pins))) (v := .ref a) S4 hN hi (.inl hln) rfl _ (.inr hln)
      intro s5 S5
      apply wpAny_mono ((hsu a oe4 cls d (X.pn ++ pins) hz4 ⟨_, hd4⟩).run [] s5 _ H' _ S5 (hyes rfl a na)) _ (fun _ _ z => False.elim z)
      intro f s6 hsp
      have done : ∀ {σ6 : St} {H6 : Hp} {Q : Shared → Prop}, Inv (X.suite a ((a, oe4) :: (X.pn ++ pins))) [] σ6 H6 s6 → (∀ s7, Inv X pins (σ6.set i none) H6 s7 → Q s7) →
          wpAny (model X.prog X.w) X.A (do bindName X.env n .none; unbindBehindTheSuite X.env n pos') (fun _ s7 => Q s7) X.xe s6 := fun {σ6 H6 Q} S6 hq => gone_ok (S6.unsuite ok) hN hi hln hq
      cases f with
      | next =>
        obtain ⟨σ6, H6, S6, q6⟩ := hsp
        exact done S6 fun s7 J7 => ⟨_, _, J7, q6⟩
      | brk =>
        obtain ⟨σ6, H6, S6, q6⟩ := hsp
        exact done S6 fun s7 J7 => ⟨_, _, J7, q6⟩
      | cont =>
        obtain ⟨σ6, H6, S6, q6⟩ := hsp
        exact done S6 fun s7 J7 => ⟨_, _, J7, q6⟩
      | ret u =>
        obtain ⟨v6, σ6, H6, S6, r6, q6⟩ := hsp
        exact done S6 fun s7 J7 => ⟨_, _, _, J7, r6, q6⟩
end
section
variable {X : Cx} {body : List Stmt} {h₀ : ExceptHandler} {hds : List ExceptHandler} {l : List Cls1} {pos : Pos} {tb : WX → TS} {Wout : WX}
theorem ps_tryAll (hs : X.stack = X.env :: X.outer) (hf : X.env.frame = some X.env.locals) (hN : X.N.Nodup) (tk : Takes X Wout)
    (hb : ∀ (W : WX) (pn : List (Addr × Obj)) (xe : Value → Shared → Prop), Takes (X.tr pn xe) W → PassesOwn (model X.prog X.w) X.A X.env xe → PSs (X.tr pn xe) body (tb W))
    (hh : ClsOk X (h₀ :: hds) l) : PS X (.Try body (h₀ :: hds) [] [] pos) (fun D σ H => tb (wishAll X.K Wout D l) D σ H) := by
  constructor
  intro pins s σ H D I h
  have ok := I.ok
  have hfr : X.A.frames = some (X.env :: X.outer) := by rw [ok.frames, hs]
  apply wpAny_Try_except
  have body_ := (hb (wishAll X.K Wout D l) (X.pn ++ pins) (fun e s₁ => wpAny (model X.prog X.w) X.A (noteFrame e X.env) (fun _ s₂ => wpAny (model X.prog X.w) X.A (setFlight e none) (fun _ s₃ =>
    wpAny (model X.prog X.w) X.A (handleBy e X.env (h₀ :: hds)) (SP X pins D) X.xe s₃) X.xe s₂) X.xe s₁) (fun u s' xx => by
      obtain ⟨a, B, sI, pins', σ', H', cls, d, rfl, J', nb, up, sky, na, os, ag, w⟩ := xx
      have J : Inv X pins σ' H' sI := J'.ofTry ok
      show wpAny (model X.prog X.w) X.A (noteFrame (.ref a) X.env) _ _ _
      apply Sky.land Zc.steady hfr hf (show Sky B (X.env :: X.outer) a (Zc cls d) X.env.locals s'.heap by rw [← hs]; exact sky)
      intro h3 fl3 up3
      exact clauses hs hf hN tk J nb fl3 (up.trans up3) os ag na hh w) PassesOwn.looking).run [] s σ H D (I.toTry _) h
  apply wpAny_mono body_ _ (fun _ _ z => z)
  intro f s1 hsp
  cases f with
  | next =>
    obtain ⟨σ', H', J', q⟩ := hsp
    exact wpAny_execs_nil ⟨σ', H', J'.ofTry ok, q⟩
  | brk => exact hsp.imp fun _ q => q.imp fun _ q => ⟨q.1.ofTry ok, q.2⟩
  | cont => exact hsp.imp fun _ q => q.imp fun _ q => ⟨q.1.ofTry ok, q.2⟩
  | ret u => exact hsp.imp fun _ q => q.imp fun _ q => q.imp fun _ q => ⟨q.1.ofTry ok, q.2⟩
end
end L2.AR
set_option Elab.async false
set_option linter.all false
set_option maxRecDepth 100000
set_option maxHeartbeats 4000000
/-! Fw10: try on data; a caught error's field, its class. -/
namespace L2.AR
open PySem PySem.Spec PyProof.Rows

structure Hnd where
  test : Nat → Bool
  slot : Option Nat
  s : MS
def isExc : Sl → Bool
  | .exc _ _ => true
  | _ => false
def hush : OutS → OutS
  | .err _ _ _ _ => .stuck
  | o => o
def unR (i : Nat) : OutS → OutS
  | .ok f ρ h => .ok f (ρ.set i .no) h
  | o => o
def tryH : List Hnd → Nat → D → MS
  | [], c, d => fun ρ h => .err c d ρ h
  | q :: r, c, d => fun ρ h => if q.test c = true then
      (match q.slot with
      | none => hush (q.s ρ h)
      | some i => unR i (hush (q.s (ρ.set i (.exc c d)) h)))
    else tryH r c d ρ h
def clean : OutS → OutS
  | .ok f ρ h => if ρ.any isExc = false then .ok f ρ h else .stuck
  | o => o
def sTry (n : Nat) (body : MS) (hs : List Hnd) : MS := fun ρ h =>
  match body ρ h with
  | .err c d ρ' h' => if c < n ∧ ρ'.any isExc = false then clean (tryH hs c d ρ' h') else .stuck
  | o => o
/-- the suite's view -/
abbrev Gh.sees (G : Gh) (a : Addr) (cls : Value) (d : Option Addr) : Gh := { G with W := fun _ _ _ _ => False, ea := a, dx := d, ecls := cls }
section
variable {G : Gh} {F H : Hp} {hs : HS} {ρ : Rho} {σ : St}
theorem Rel.wish (R : Rel G F H hs ρ σ) (W : WX) : Rel { G with W := W } F H hs ρ σ := ⟨R.sub, R.hand, R.base, R.f0, R.new0, R.len, R.slots, R.apart⟩
theorem Rel.unwish {W : WX} (R : Rel { G with W := W } F H hs ρ σ) : Rel G F H hs ρ σ := ⟨R.sub, R.hand, R.base, R.f0, R.new0, R.len, R.slots, R.apart⟩
theorem no_exc {i : Nat} {c : Nat} {d : D} (h : ρ.any isExc = false) (e : ρ[i]? = some (.exc c d)) : False := by
  have m := List.mem_of_getElem? e
  have := List.any_eq_false.mp h _ m
  exact this rfl
theorem Rel.look (R : Rel G F H hs ρ σ) (n : ρ.any isExc = false) (a : Addr) (cls : Value) (d : Option Addr) : Rel (G.sees a cls d) F H hs ρ σ := by
  refine ⟨R.sub, R.hand, R.base, R.f0, R.new0, R.len, fun i s e => ?_, R.apart⟩
  have q := R.slots i s e
  cases s with
  | no => trivial
  | dat x => exact q
  | own x => exact q
  | owd x => exact q
  | exc x y => exact (no_exc n e).elim
theorem Rel.unlook {a : Addr} {cls : Value} {d : Option Addr} (R : Rel (G.sees a cls d) F H hs ρ σ) (n : ρ.any isExc = false) : Rel G F H hs ρ σ := by
  refine ⟨R.sub, R.hand, R.base, R.f0, R.new0, R.len, fun i s e => ?_, R.apart⟩
  have q := R.slots i s e
  cases s with
  | no => trivial
  | dat x => exact q
  | own x => exact q
  | owd x => exact q
  | exc x y => exact (no_exc n e).elim
theorem Rel.setExc {a dx : Addr} {c : Nat} {d : D} {v : V} (R : Rel (G.sees a (.ref (G.cl c)) (some dx)) F H hs ρ σ) (hx : H dx = some (.xd [(G.fld c, v)])) (hn : G.ha ≠ some dx) (dp : Dq G.K F v d) (i : Nat) :
    Rel (G.sees a (.ref (G.cl c)) (some dx)) F H hs (ρ.set i (.exc c d)) (σ.set i (some (.ref a))) := by
  refine ⟨R.sub, R.hand, R.base, R.f0, R.new0, by simpa using R.len, fun j s e => ?_, fun j k x y b hjk e1 e2 o1 o2 e3 => ?_⟩
  · rw [List.getElem?_set] at e ⊢
    by_cases hij : i = j
    · subst hij
      rw [if_pos rfl] at e ⊢
      split at e
      · rename_i hl
        cases e
        rw [if_pos (by rw [R.len]; exact hl)]
        exact ⟨rfl, rfl, dx, v, rfl, hx, hn, dp⟩
      · cases e
    · rw [if_neg hij] at e ⊢
      exact R.slots j s e
  · rw [List.getElem?_set] at e1 e2 e3 ⊢
    by_cases hj : i = j
    · rw [if_pos hj] at e1
      split at e1 <;> cases e1 <;> cases o1
    · by_cases hk : i = k
      · rw [if_pos hk] at e2
        split at e2 <;> cases e2 <;> cases o2
      · rw [if_neg hj] at e1 e3
        rw [if_neg hk] at e2 ⊢
        exact R.apart j k x y b hjk e1 e2 o1 o2 e3
end
/-- a clause and what it does -/
structure HOkD (K : PySem.W.Frag) (G : Gh) (n : Nat) (q : Cls1) (h : Hnd) : Prop where
  exm : ∀ c, c < n → PySem.W.exmOne K (.ref (G.cl c)) q.c = some (h.test c)
  slot : q.slot = h.slot
  ts : ∀ a cls d, q.ts a cls d = tS (G.sees a cls d) h.s
inductive HsOk (K : PySem.W.Frag) (G : Gh) (n : Nat) : List Cls1 → List Hnd → Prop
  | nil : HsOk K G n [] []
  | cons {q : Cls1} {h : Hnd} {l : List Cls1} {hs : List Hnd} : HOkD K G n q h → HsOk K G n l hs → HsOk K G n (q :: l) (h :: hs)
section
variable {X : Cx} {G : Gh} {pos : Pos} {n : Nat}
theorem suite_ends {E : Ends} {F F' H' : Hp} {a : Addr} {cls : Value} {d : Option Addr} : ∀ {o : OutS}, postS G F E (clean (hush o)) → Same F F' → postS (G.sees a cls d) F' E o := by
  intro o p sf
  cases o with
  | ok f ρ h =>
    have p : postS G F E (if ρ.any isExc = false then .ok f ρ h else .stuck) := p
    by_cases ne : ρ.any isExc = false
    · rw [if_pos ne] at p
      cases f with
      | nx => exact fun F2 H2 σ2 s R => p F2 H2 σ2 (sf.trans s) (R.unlook ne)
      | rt x => exact fun F2 H2 σ2 v s R r => p F2 H2 σ2 v (sf.trans s) (R.unlook ne) r
      | bk => exact fun F2 H2 σ2 s R => p F2 H2 σ2 (sf.trans s) (R.unlook ne)
      | ct => exact fun F2 H2 σ2 s R => p F2 H2 σ2 (sf.trans s) (R.unlook ne)
    · rw [if_neg ne] at p; exact p.elim
  | err c x ρ h => exact p.elim
  | stuck => exact p.elim
theorem suite_endsN {i : Nat} {E : Ends} {F F' : Hp} {a : Addr} {cls : Value} {d : Option Addr} : ∀ {o : OutS}, postS G F E (clean (unR i (hush o))) → Same F F' → postS (G.sees a cls d) F' (unslot i E) o := by
  intro o p sf
  cases o with
  | ok f ρ h =>
    have p : postS G F E (if (ρ.set i .no).any isExc = false then .ok f (ρ.set i .no) h else .stuck) := p
    by_cases ne : (ρ.set i .no).any isExc = false
    · rw [if_pos ne] at p
      cases f with
      | nx => exact fun F2 H2 σ2 s R => p F2 H2 _ (sf.trans s) ((R.gone i).unlook ne)
      | rt x => exact fun F2 H2 σ2 v s R r => p F2 H2 _ v (sf.trans s) ((R.gone i).unlook ne) r
      | bk => exact fun F2 H2 σ2 s R => p F2 H2 _ (sf.trans s) ((R.gone i).unlook ne)
      | ct => exact fun F2 H2 σ2 s R => p F2 H2 _ (sf.trans s) ((R.gone i).unlook ne)
    · rw [if_neg ne] at p; exact p.elim
  | err c x ρ h => exact p.elim
  | stuck => exact p.elim
theorem try_wish {K : PySem.W.Frag} {E : Ends} {F : Hp} {c : Nat} {d : D} {ρ : Rho} {hs : HS} (hc : c < n) (ne : ρ.any isExc = false) : ∀ {l : List Cls1} {hl : List Hnd}, HsOk K G n l hl → postS G F E (clean (tryH hl c d ρ hs)) →
    ∀ F' H' σ' dx v, Same F F' → Rel G F' H' hs ρ σ' → H' dx = some (.xd [(G.fld c, v)]) → G.ha ≠ some dx → Dq G.K F' v d → wishAll K G.W E l (.ref (G.cl c)) (some dx) σ' H'
  | _, _, .nil, p => fun F' H' σ' dx v s R hx hn dp => p F' H' σ' dx v s R hx hn dp
  | _, _, .cons (q := q) (h := h) (l := l) (hs := hl) ok r, p => fun F' H' σ' dx v s R hx hn dp => by
    refine ⟨h.test c, ok.exm c hc, fun t a na => ?_, fun t => ?_⟩
    · simp only [tryH, t, if_true] at p
      unfold suiteOf
      rw [ok.slot]
      cases e : h.slot with
      | none =>
        rw [e] at p
        simp only at p ⊢
        rw [ok.ts]
        exact ⟨F', hs, ρ, R.look ne _ _ _, suite_ends (H' := H') p s⟩
      | some i =>
        rw [e] at p
        simp only at p ⊢
        rw [ok.ts]
        exact ⟨F', hs, _, (R.look ne a (.ref (G.cl c)) (some dx)).setExc hx hn dp i, suite_endsN p s⟩
    · simp only [tryH, t, Bool.false_eq_true, if_false] at p
      exact try_wish hc ne r p F' H' σ' dx v s R hx hn dp
theorem p_try {body : List Stmt} {h₀ : ExceptHandler} {hds : List ExceptHandler} {l : List Cls1} {hl : List Hnd} {sb : MS} (n : Nat) (hs : X.stack = X.env :: X.outer) (hf : X.env.frame = some X.env.locals) (hN : X.N.Nodup) (tk : Takes X G.W)
    (hb : ∀ (W : WX) (pn : List (Addr × Obj)) (xe : Value → Shared → Prop), Takes (X.tr pn xe) W → PassesOwn (model X.prog X.w) X.A X.env xe → PSs (X.tr pn xe) body (tS { G with W := W } sb))
    (hh : ClsOk X (h₀ :: hds) l) (hd : HsOk X.K G n l hl) : PS X (.Try body (h₀ :: hds) [] [] pos) (tS G (sTry n sb hl)) := by
  refine psI (ps_tryAll (tb := fun W => tS { G with W := W } sb) hs hf hN tk hb hh) ?_
  rintro E σ H ⟨F, h, ρ, R, p⟩
  refine ⟨F, h, ρ, R.wish _, ?_⟩
  unfold sTry at p
  cases e : sb ρ h with
  | ok f ρ2 h2 =>
    rw [e] at p
    cases f with
    | nx => exact fun F2 H2 σ2 s R => p F2 H2 σ2 s R.unwish
    | rt x => exact fun F2 H2 σ2 v s R r => p F2 H2 σ2 v s R.unwish r
    | bk => exact fun F2 H2 σ2 s R => p F2 H2 σ2 s R.unwish
    | ct => exact fun F2 H2 σ2 s R => p F2 H2 σ2 s R.unwish
  | err c d ρ2 h2 =>
    rw [e] at p
    simp only at p
    split at p
    · rename_i cn
      exact fun F2 H2 σ2 dx v s R hx hn dp => try_wish cn.1 cn.2 hd p F2 H2 σ2 dx v s R.unwish hx hn dp
    · exact p.elim
  | stuck => rw [e] at p; exact p.elim
end

/-! ### a caught error -/
def gExc (cs : List Nat) (f : Nat → D → M D) (i : Nat) (ρ : Rho) : M D :=
  match ρ[i]? with
  | some (.exc c d) => if cs.contains c = true then f c d else stk
  | _ => stk
section
variable {X : Cx} {G : Gh} {pos : Pos} {a : Addr} {oe : Obj} {cls : Value} {d : Option Addr} {pn : List (Addr × Obj)}
theorem gExc_cases {α : Type} {σ : St} {F H : Hp} {hs : HS} {ρ : Rho} {cs : List Nat} {f : Nat → D → M D} {i : Nat} {Q : VK} (R : Rel (G.sees a cls d) F H hs ρ σ) (p : post (G.sees a cls d) σ F H (relE (G.sees a cls d)) Q (gExc cs f i ρ hs)) :
    ∃ c x v dx, c ∈ cs ∧ σ[i]? = some (some (.ref a)) ∧ cls = .ref (G.cl c) ∧ d = some dx ∧ H dx = some (.xd [(G.fld c, v)]) ∧ Dq G.K F v x ∧ post (G.sees a cls d) σ F H (relE (G.sees a cls d)) Q (f c x hs) := by
  unfold gExc at p
  cases e : ρ[i]? with
  | none => rw [e] at p; exact p.elim
  | some s =>
    rw [e] at p
    cases s with
    | exc c x =>
      simp only at p
      split at p
      · rename_i m
        obtain ⟨e1, e2, dx, v, h0, h1, h2, h3⟩ := R.slots i _ e
        exact ⟨c, x, v, dx, by simpa using m, e1, e2, h0, h1, h3, p⟩
      · exact p.elim
    | _ => exact p.elim
/-- error.f -/
theorem e_excF {e : Expr} {n : Str} (cs : List Nat) (i : Nat) (hK : G.K = X.K) (T : ∀ c ∈ cs, XfC X.K (G.cl c) ∧ PySem.W.findIn X.K (.ref (G.cl c)) n = some none ∧ G.fld c = n)
    (hz : Zc cls d oe) (hf : ∃ vs, oe.data = .fields vs) (he : PE (X.suite a ((a, oe) :: pn)) e (tVar i)) (hb : attributeBase e n X.env (eval e X.env) = eval e X.env := by rfl) :
    PE (X.suite a ((a, oe) :: pn)) (.Attribute e n pos) (tE (G.sees a cls d) (gExc cs (fun _ x => ret x) i)) := by
  constructor
  rintro pins s σ H Q I ⟨F, hs, ρ, R, p⟩
  obtain ⟨c, x, v, dx, m, e1, e2, h0, h1, h2, p2⟩ := gExc_cases (α := Unit) R p
  obtain ⟨t1, t2, t3⟩ := T c m
  refine (pe_xf t1 t2 hz hf he hb).run pins s σ H Q I ⟨.ref a, e1, rfl, e2, dx, _, v, h0, h1, ?_, post_ret R p2 (.inl h2)⟩
  rw [t3]
  simp [List.lookup]
end
end L2.AR
set_option Elab.async false
set_option linter.all false
set_option maxRecDepth 100000
set_option maxHeartbeats 4000000
/-! Fw11: isinstance of a caught error. -/
namespace PySem.W
open PySem PySem.Spec PySem.Calls PyProof.Rows
section
variable {prog : Program} {w : World} {A : Around} {E : Value → Shared → Prop} {s : Shared} {K : Frag} {x D : Addr} {ox : Obj} {od : Option Obj}
theorem ar_findData {C : Addr} {name : Str} {a g : Value} (hc : (clsIn K C).isSome = true) (ha : findIn K (.ref C) name = some (some a)) (hg : specialIn K a "__get__" = some (some g)) (ht : takesIn K a = some true) : findObj K C od name = some (.bind g a) := by
  obtain ⟨cd, hc⟩ := Option.isSome_iff_exists.mp hc
  unfold findObj
  rw [hc, Option.bind_some, ha, Option.bind_some]
  simp [hg, ht]
theorem ar_class {Q : Option Value → Shared → Prop} (T : L2.ExcC K D) (X : K.In s.heap) (I : InstAt s.heap x ox D od) (h : Q (some (.ref D)) { s with toks := s.toks + 1 }) : wpAny (model prog w) A (getAttr? (.ref x) "__class__") Q E s := by
  have hf : findObj K D od "__class__" = some (.bind (.builtin "getset_descriptor.__get__") (.builtin "object.__class__")) := by
    obtain ⟨cd, hc, _⟩ := any_some T.hd
    exact ar_findData (by rw [hc]; rfl) T.ha T.hn T.ht
  obtain ⟨hp, g, d, t, os⟩ := s
  have LT := I.type (M := model prog w)
  have LG := looks_findIn (M := model prog w) X T.hg
  have LK := looks_findIn (M := model prog w) X T.hk
  have LF := looks_find (M := model prog w) X I hf
  have sub : Looks (model prog w) hp (isInstance (.ref x) (.type "BaseException")) true := LT.andThen (looks_subIn X T.hs)
  have no0 : (false && onTheHeap (Value.builtin "BaseException.__getattribute__")) = false := rfl
  have no1 : (onTheHeap (Value.ref D) && Value.builtin "BaseException.__getattribute__" == Value.builtin "object.__getattribute__") = false := by
    rw [show (Value.builtin "BaseException.__getattribute__" == Value.builtin "object.__getattribute__") = false by decide +kernel]
    rfl
  unfold getAttr? getAttrBy? getAttrBy
  refine wpAny_bind (wpAny_mkText (wpAny_bind (wpAny_attempt (wpAny_holding (wpAny_bind (LT.at (wpAny_bind (LG.at ?_))))))))
  show wpAny _ _ (if (onTheHeap (Value.ref D) && Value.builtin "BaseException.__getattribute__" == Value.builtin "object.__getattribute__") = true then _ else _) _ _ _
  rw [no1, if_neg Bool.false_ne_true]
  unfold getAttrByItsOwn hookBefore
  refine wpAny_bind ?_
  rw [if_pos (show onTheHeap (Value.ref D) = true from rfl)]
  refine LK.at (wpAny_bind (wpAny_attempt (wpAny_holding ?_)))
  unfold callGetattribute
  rw [no0, if_neg Bool.false_ne_true]
  unfold boundAndCalled
  rw [PySem.F.excAttr_ValueError.ga.bind (.ref x)]
  refine wpAny_bind (wpAny_pure ?_)
  show wpAny _ _ (call (.builtin "BaseException.__getattribute__") [.ref x, .str "__class__" t]) _ _ _
  refine wpAny_call (codeAny_call_builtin PySem.F.excAttr_ValueError.ga.plain PySem.F.entry_bexc_ga ?_)
  refine @check_slot (model prog w) _ _ ⟨hp, g, d, t + 1, os⟩ "BaseException.__getattribute__" "BaseException" "__getattribute__" (.ref x) [.str "__class__" t] [] _ (by decide +kernel) (by decide +kernel) sub (PySem.F.args_bexc_ga (.ref x) (.str "__class__" t)) ?_
  unfold Builtin.«object.__getattribute__»
  refine wpAny_bind (wpAny_of_eq (a := ((Value.ref x : Value), [Value.str "__class__" t])) (by first | rfl | (simp only [slotArgs]; rfl)) ?_)
  refine wpAny_bind (wpAny_pure (wpAny_bind (LT.at (wpAny_bind (LF.at ?_)))))
  show wpAny _ _ (holding [Value.builtin "object.__class__"] (call (.builtin "getset_descriptor.__get__") [.builtin "object.__class__", .ref x, .ref D]) >>= ret) _ _ _
  refine wpAny_bind (wpAny_holding (wpAny_call (class_get (s := ⟨hp, g, d, t + 1, os⟩) (ox := ox) (od := od) X I T.hm ?_)))
  refine wpAny_pure ?_
  show wpAny _ _ (handedOut (.ref D)) _ _ _
  rw [handedOut_of (v := .ref D) rfl]
  first
    | exact wpAny_pure (wpAny_pure h)
    | exact wpAny_pure h
    | exact wpAny_pure (wpAny_bind (wpAny_pure (wpAny_pure h)))
theorem ar_kit (T : L2.ExcC K D) : KitX K (.ref x) (.ref D) (fun h => ∃ ox od, InstAt h x ox D od) where
  ty := fun _ _ _ ⟨_, _, I⟩ => I.type
  it := fun _ _ X _ => by
    obtain ⟨cd, hc, _⟩ := any_some T.hd
    unfold clsIn at hc
    split at hc
    · rename_i c' d' cd' sl' ho
      intro A' Q' E' s' k q
      unfold isType loadHead
      exact wpAny_bind (wpAny_loadPart (k _ _ (X _ _ ho)) (wpAny_pure q))
    · cases hc
  ne := fun h tp dd its n sl X htp => by
    obtain ⟨cd, hc, _⟩ := any_some T.hd
    refine Bool.eq_false_iff.mpr fun q => ?_
    obtain rfl : D = tp := Value.ref.inj (beq_iff_eq.mp q)
    unfold clsIn at hc
    split at hc
    · rename_i c' d' cd' sl' ho
      cases (X _ _ ho).symm.trans htp
    · cases hc
  ca := fun X ⟨_, _, I⟩ k => ar_class T X I k
end
end PySem.W
namespace L2.AR
open PySem PySem.Spec PyProof.Rows
section
variable {X : Cx} {a D' dd : Addr} {oe : Obj} {cls : Value} {pn : List (Addr × Obj)}
theorem exc_inst {σ : St} {H : Hp} {s : Shared} {pins : List (Addr × Obj)} {fs : List (Str × V)} (hz : Zc (.ref D') (some dd) oe) (hf : ∃ vs, oe.data = .fields vs) (I : Inv (X.suite a ((a, oe) :: pn)) pins σ H s) (hx : H dd = some (.xd fs)) : ∃ ox od, PySem.W.InstAt s.heap a ox D' od := by
  obtain ⟨ha, _⟩ := I.pin (a, oe) (List.mem_append_left _ List.mem_cons_self)
  obtain ⟨vs, hv⟩ := hf
  have ok : ObjOk X.prog X.w H s.heap dd (.xd fs) := I.hok dd _ hx
  obtain ⟨mA, ⟨o, es, ep, e1, e2⟩, hr⟩ := ok
  exact ⟨oe, some o, ha, hz.1, by unfold PySem.W.notCls; rw [hv] <;> rfl, by rw [hz.2]; exact e1⟩
theorem call_isX (hz : Zc cls (some dd) oe) (hf : ∃ vs, oe.data = .fields vs) : CallR (X.suite a ((a, oe) :: pn)) (.builtin "isinstance")
    (fun xs H Q => ∃ D' c u b fs, xs = [.ref a, c] ∧ cls = .ref D' ∧ ExcC X.K D' ∧ H dd = some (.xd fs) ∧ ClsV c u ∧ PySem.W.kitOne X.K (.ref D') u = some b ∧ Q (.bl b) H) := by
  intro pins s σ H xs us Q I r h
  obtain ⟨D', c, u, b, fs, rfl, rfl, T, hx, hc, e, q⟩ := h
  cases r with
  | cons rx rr =>
    cases rr with
    | cons rt rr =>
      cases rr
      cases rx
      have ec := hc.eq rt
      subst ec
      exact PySem.W.kia_one (PySem.W.ar_kit T) I.kIn (exc_inst hz hf I hx) e (fun z => nomatch z) fun tk => ⟨.bl b, H, I.kept (t' := tk) fun _ _ z => z, rfl, q⟩
theorem call_isXT (hz : Zc cls (some dd) oe) (hf : ∃ vs, oe.data = .fields vs) : CallR (X.suite a ((a, oe) :: pn)) (.builtin "isinstance")
    (fun xs H Q => ∃ D' tp cs us b fs, xs = [.ref a, .ref tp] ∧ H tp = some (.tup cs) ∧ Paired ClsV cs us ∧ cls = .ref D' ∧ ExcC X.K D' ∧ H dd = some (.xd fs) ∧ PySem.W.kitAny X.K (.ref D') us = some b ∧ Q (.bl b) H) := by
  intro pins s σ H xs us Q I r h
  obtain ⟨D', tp, cs, ws, b, fs, rfl, hT, k, rfl, T, hx, e, q⟩ := h
  cases r with
  | cons rx rr =>
    cases rr with
    | cons rt rr =>
      cases rr
      cases rx
      cases rt
      obtain ⟨_, its, rv, o, h1, h2, n, h3⟩ := (show ObjOk X.prog X.w H s.heap tp (.tup cs) from I.hok tp _ hT)
      have e3 := ClsV.all k rv
      subst e3
      obtain ⟨oc, od, dt, sl⟩ := o
      simp only at h2 h3
      subst h2 h3
      exact PySem.W.kia_tup (PySem.W.ar_kit T) I.kIn (exc_inst hz hf I hx) h1 e (fun z => nomatch z) fun tk => ⟨.bl b, H, I.kept (t' := tk) fun _ _ z => z, rfl, q⟩
end
section
variable {X : Cx} {G : Gh} {a : Addr} {oe : Obj} {cls : Value} {d : Option Addr} {pn : List (Addr × Obj)} {e : Expr}
/-- isinstance(error, C) -/
theorem e_excI {C : Addr} (cs : List Nat) (i : Nat) (tbl : Nat → Bool) (hK : G.K = X.K) (T : ∀ c ∈ cs, ExcC X.K (G.cl c) ∧ PySem.W.kitOne X.K (.ref (G.cl c)) (.ref C) = some (tbl c))
    (hz : Zc cls d oe) (hf : ∃ vs, oe.data = .fields vs)
    (he : ∀ r, CallR (X.suite a ((a, oe) :: pn)) (.builtin "isinstance") r → PE (X.suite a ((a, oe) :: pn)) e (tCB r (tCons (tVar i) (tCons (tC (.ref C)) tNil)))) :
    PE (X.suite a ((a, oe) :: pn)) e (tE (G.sees a cls d) (gExc cs (fun c _ => ret (.bool (tbl c))) i)) := by
  constructor
  rintro pins s σ H Q I ⟨F, hs, ρ, R, p⟩
  obtain ⟨c, x, v, dx, m, e1, e2, h0, h1, h2, p2⟩ := gExc_cases (α := Unit) R p
  obtain ⟨t1, t2⟩ := T c m
  exact (he _ (call_isX (by rw [← h0]; exact hz) hf)).run pins s σ H Q I ⟨.ref a, e1, G.cl c, .ref C, .ref C, tbl c, _, rfl, e2, t1, h1, .own C, t2, post_ret R p2 (.inl (.bl _))⟩
/-- isinstance(error, (C, C2)) -/
theorem e_excIT {C C2 : Addr} (cs : List Nat) (i : Nat) (tbl tbl2 : Nat → Bool) (hK : G.K = X.K) (T : ∀ c ∈ cs, ExcC X.K (G.cl c) ∧ PySem.W.kitOne X.K (.ref (G.cl c)) (.ref C) = some (tbl c) ∧ PySem.W.kitOne X.K (.ref (G.cl c)) (.ref C2) = some (tbl2 c))
    (hz : Zc cls d oe) (hf : ∃ vs, oe.data = .fields vs)
    (he : ∀ r, CallR (X.suite a ((a, oe) :: pn)) (.builtin "isinstance") r → PE (X.suite a ((a, oe) :: pn)) e (tCB r (tCons (tVar i) (tCons (tTup (tCons (tC (.ref C)) (tCons (tC (.ref C2)) tNil))) tNil)))) :
    PE (X.suite a ((a, oe) :: pn)) e (tE (G.sees a cls d) (gExc cs (fun c _ => ret (.bool (tbl c || tbl2 c))) i)) := by
  constructor
  rintro pins s σ H Q I ⟨F, hs, ρ, R, p⟩
  obtain ⟨c, x, v, dx, m, e1, e2, h0, h1, h2, p2⟩ := gExc_cases (α := Unit) R p
  obtain ⟨t1, t2, t3⟩ := T c m
  refine (he _ (call_isXT (by rw [← h0]; exact hz) hf)).run pins s σ H Q I ⟨.ref a, e1, by rw [sizeLine_eq]; exact (by decide : 2 ≤ 16777216), fun q nq => ?_⟩
  have st : PStep F H F (upd H q (.tup [.ref C, .ref C2])) := PStep.garb R.sub nq
  refine ⟨G.cl c, q, [.ref C, .ref C2], [.ref C, .ref C2], (tbl c || tbl2 c), _, rfl, upd_same, .cons (.own C) (.cons (.own C2) .nil), e2, t1, st.keep _ _ h1, ?_, post_ret' R p2 st (.inl (.bl _))⟩
  refine kitAny_cons t2 (fun z => ?_) fun z => by rw [z]; rfl
  rw [z, Bool.false_or]
  refine kitAny_cons t3 (fun z2 => ?_) fun z2 => z2
  rw [z2]
  exact kitAny_nil
end
end L2.AR
set_option Elab.async false
set_option linter.all false
set_option maxRecDepth 100000
set_option maxHeartbeats 4000000
/-! Fw12: the rules under short names, as the printed derivations use them; a def by its body; slices, chains, gcd. -/
namespace L2.AR
open PySem PySem.Spec PyProof.Rows

/-! ### short names for the functions -/
def cK (d : D) : Rho → M D := fun _ => ret d
def b2 (f : D → D → Option D) (a b : Rho → M D) : Rho → M D := fun ρ => bnd (a ρ) fun x => bnd (b ρ) fun y => op2 f x y
def aN : Rho → M (List D) := fun _ => ret []
def aC (g : Rho → M D) (gs : Rho → M (List D)) : Rho → M (List D) := fun ρ => bnd (g ρ) fun d => bnd (gs ρ) fun ds => ret (d :: ds)
def cA (f : List D → Option D) (gs : Rho → M (List D)) : Rho → M D := fun ρ => bnd (gs ρ) (opA f)
def cM (m : List D → M D) (gs : Rho → M (List D)) : Rho → M D := fun ρ => bnd (gs ρ) m
def cI (Ts : List String) (g : Rho → M D) : Rho → M D := fun ρ => bnd (g ρ) (gIsi Ts)
def tV (g : Rho → M D) : Rho → M Bool := fun ρ => bnd (g ρ) asB
def tNo (u : Rho → M Bool) : Rho → M Bool := fun ρ => bnd (u ρ) fun c => ret (!c)
def tAn (u v : Rho → M Bool) : Rho → M Bool := fun ρ => bnd (u ρ) fun c => if c = true then v ρ else ret false
def tOr' (u v : Rho → M Bool) : Rho → M Bool := fun ρ => bnd (u ρ) fun c => if c = true then ret true else v ρ
def tYs : Rho → M Bool := fun _ => ret true
def vAn (a b : Rho → M D) : Rho → M D := fun ρ => bnd (a ρ) fun x => bnd (asB x) fun c => if c = true then b ρ else ret (.bool false)
def vOr (a b : Rho → M D) : Rho → M D := fun ρ => bnd (a ρ) fun x => bnd (asB x) fun c => if c = true then ret (.bool true) else b ρ
def vNo (a : Rho → M D) : Rho → M D := fun ρ => bnd (a ρ) fun x => bnd (asB x) fun c => ret (.bool (!c))
def negD : D → M D
  | .int i => ret (.int (-i))
  | _ => stk
def vNeg (a : Rho → M D) : Rho → M D := fun ρ => bnd (a ρ) negD
def vIf (u : Rho → M Bool) (a b : Rho → M D) : Rho → M D := fun ρ => bnd (u ρ) fun z => if z = true then a ρ else b ρ
/-- a op1 b op2 c -/
def ch3 (f f' : D → D → Option D) (a b c : Rho → M D) : Rho → M D := fun ρ => bnd (a ρ) fun x => bnd (b ρ) fun y => bnd (op2 f x y) fun z => bnd (asB z) fun k => if k = true then bnd (c ρ) fun w => op2 f' y w else ret (.bool false)
abbrev gS (K : PySem.W.Frag) (cl : Nat → Addr) (fld : Nat → Str) (ha : Option Addr) (H F : Hp) (E : XK) : Gh := ⟨K, ha, H, F, cl, fld, fun c d _ H => E c d H, 0, none, .none⟩
section
variable {X : Cx} {G : Gh} {pos : Pos} {e a b c : Expr} {es rest : List Expr} {g ga gb gc : Rho → M D} {gs : Rho → M (List D)} {u v : Rho → M Bool} {r r' : R2} {f f' : D → D → Option D}
theorem E_int {i j} : PE X (.Constant (.int i) j pos) (tE G (cK (.int i))) := e_int
theorem E_bl {b j} : PE X (.Constant (.bool b) j pos) (tE G (cK (.bool b))) := e_bl
theorem E_non {j} : PE X (.Constant .none j pos) (tE G (cK .none)) := e_non
theorem E_str {x j} : PE X (.Constant (.str x) j pos) (tE G (cK (.str x))) := e_str
theorem E_glob {x : Str} {i : Int} {w : Value} (hg : Gl X x) (hm : X.mg x = some w) (r : RelV (.int i) w) (hd : (x == ("__debug__" : Str)) = false := by decide) : PE X (.Name x pos) (tE G (cK (.int i))) := e_glob hg hm r hd
theorem E_op {op : Operator} (ho : OpR X (binaryOp op) r) (hf : R2ok G.K r f) (ha : PE X a (tE G ga)) (hb : PE X b (tE G gb)) : PE X (.BinOp a op b pos) (tE G (b2 f ga gb)) := e_op ho hf ha hb
theorem E_cmp {op : CmpOp} (ho : OpR X (compareOp op) r) (hf : R2ok G.K r f) (ha : PE X a (tE G ga)) (hb : PE X b (tE G gb)) (hm : behindInMarks op b = false := by first | exact nomark _ | rfl) : PE X (.Compare a [op] [b] pos) (tE G (b2 f ga gb)) := e_cmp ho hf ha hb hm
theorem E_ix (hK : G.K = X.K) (ha : PE X a (tE G ga)) (hb : PE X b (tE G gb)) (hs : PlainIx b := by intro _ _; rfl) : PE X (.Subscript a b pos) (tE G (b2 fIx ga gb)) := e_ix ix_seq (hK ▸ ix_ok) ha hb hs
theorem op2_bind {α β : Type} {rel : Hp → β → α → Prop} {Q : β → Hp → Prop} {K' : D → M α} {σ : St} {F H : Hp} {hs : HS} {ρ : Rho} {v w : V} {x y : D} (R : Rel G F H hs ρ σ) (hv : Rp G.K F G.ha v x) (hw : Rp G.K F G.ha w y) (p : post G σ F H rel Q (bnd (op2 f x y) K' hs)) (hf : R2ok G.K r f) (Q2 : VK)
    (k : ∀ u F' H' z, Rel G F' H' hs ρ σ → Step G.ha F H F' H' → Dq G.K F' u z → post G σ F' H' rel Q (K' z hs) → Q2 u H') : r v w H Q2 := by
  unfold op2 at p
  by_cases ht : (isTok x || isTok y) = true
  · rw [if_pos ht] at p
    exact p.elim
  · rw [if_neg ht] at p
    simp only [Bool.or_eq_true, not_or, Bool.not_eq_true] at ht
    cases e : f x y with
    | none => rw [e] at p; exact p.elim
    | some z =>
      rw [e] at p
      exact hf F H v w x y z _ R.sub (hv.dp ht.1) (hw.dp ht.2) e fun F' H' u s d => k u F' H' z (R.pstep s) s.step d (post.after s.step p)
theorem E_chain {op op' : CmpOp} (ho : OpR X (compareOp op) r) (hf : R2ok G.K r f) (ho' : OpR X (compareOp op') r') (hf' : R2ok G.K r' f') (ha : PE X a (tE G ga)) (hb : PE X b (tE G gb)) (hc : PE X c (tE G gc))
    (hm : lastMarks [op, op'] [b, c] = false := by with_unfolding_all rfl) : PE X (.Compare a [op, op'] [b, c] pos) (tE G (ch3 f f' ga gb gc)) := by
  refine peI (pe_chain ho ho' ha hb hc hm) ?_
  rintro σ H Q ⟨F, hs, ρ, R, p⟩
  refine (rd_bind R p).mono ?_
  rintro v H1 ⟨F1, hs1, x, R1, s1, r1, p1⟩
  refine (rd_bind R1 p1).mono ?_
  rintro w H2 ⟨F2, hs2, y, R2, s2, r2, p2⟩
  refine op2_bind R2 (r1.same s2.ff) r2 p2 hf _ fun z F3 H3 d3 R3 s3 dd p3 => ?_
  obtain ⟨k, ek, p4⟩ := asB_post R3 (.inl dd) p3
  refine ⟨k, ek, ?_⟩
  cases k with
  | false => exact iteF (post_ret R3 p4 (.inl (.bl false)))
  | true =>
    refine iteT ((rd_bind R3 p4).mono ?_)
    rintro t H4 ⟨F4, hs4, z4, R4, s4, r4, p5⟩
    exact op2_post R4 ((r2.same s3.ff).same s4.ff) r4 p5 hf'
theorem A_nil : PA X [] (tA G aN) := a_nil
theorem A_cons (he : PE X e (tE G g)) (hr : PA X es (tA G gs)) (hs : starEach (e :: es) X.env = (false, eval e X.env) :: starEach es X.env := by rfl) : PA X (e :: es) (tA G (aC g gs)) := a_cons he hr hs
theorem E_tup {x1} (h : PA X es (tA G gs)) : PE X (.Tuple es x1 pos) (tE G (cA mkTup gs)) := e_tup h
theorem E_lst (h : PA X es (tA G gs)) : PE X (.List es pos) (tE G (cA mkLst gs)) := e_lst h
theorem T_val (h : PE X e (tE G g)) (he : ∀ whole, isTrue e X.env whole = (do let v ← whole; standAt e.pos; holding [v] (truthy v)) := by intro _; rfl) : PT X e (tT G (tV g)) := t_val h he
theorem T_not (h : PT X e (tT G u)) : PT X (.UnaryOp .Not e pos) (tT G (tNo u)) := t_not h
theorem W_and1 (h : PT X a (tT G u)) : PW X (.BoolOp .And [a] pos) (tT G u) := pw_and1 h
theorem W_or1 (h : PT X a (tT G u)) : PW X (.BoolOp .Or [a] pos) (tT G u) := pw_or1 h
theorem W_and (h : PT X a (tT G u)) (h2 : PW X (.BoolOp .And (b :: rest) pos) (tT G v)) : PW X (.BoolOp .And (a :: b :: rest) pos) (tT G (tAn u v)) := w_and h h2
theorem W_or (h : PT X a (tT G u)) (h2 : PW X (.BoolOp .Or (b :: rest) pos) (tT G v)) : PW X (.BoolOp .Or (a :: b :: rest) pos) (tT G (tOr' u v)) := w_or h h2
theorem E_one {op} (h : PE X a (tE G ga)) : PE X (.BoolOp op [a] pos) (tE G ga) := pe_one h
theorem E_and (h : PE X a (tE G ga)) (h2 : PE X (.BoolOp .And (b :: rest) pos) (tE G gb)) : PE X (.BoolOp .And (a :: b :: rest) pos) (tE G (vAn ga gb)) := e_and h h2
theorem E_or (h : PE X a (tE G ga)) (h2 : PE X (.BoolOp .Or (b :: rest) pos) (tE G gb)) : PE X (.BoolOp .Or (a :: b :: rest) pos) (tE G (vOr ga gb)) := e_or h h2
theorem E_not (h : PE X a (tE G ga)) : PE X (.UnaryOp .Not a pos) (tE G (vNo ga)) := e_not h
theorem E_neg (h : PE X a (tE G ga)) : PE X (.UnaryOp .USub a pos) (tE G (vNeg ga)) := by
  refine peI (pe_un un_neg h) ?_
  rintro σ H Q ⟨F, hs, ρ, R, p⟩
  refine (rd_bind R p).mono ?_
  rintro x H1 ⟨F1, hs1, d, R1, s1, r1, p1⟩
  cases d with
  | int i =>
    cases r1.dp rfl
    exact ⟨i, rfl, post_ret R1 p1 (.inl (.int _))⟩
  | _ => exact p1.elim
theorem E_ifx (hc : PT X c (tT G u)) (ha : PE X a (tE G ga)) (hb : PE X b (tE G gb)) : PE X (.IfExp c a b pos) (tE G (vIf u ga gb)) := e_ifx hc ha hb

/-! ### slices -/
def relO : Hp → Option Int → Option Int → Prop := fun _ a b => a = b
abbrev tO (G : Gh) (g : Rho → M (Option Int)) : TO := rd G relO g
def oNo : Rho → M (Option Int) := fun _ => ret none
def asI : D → M (Option Int)
  | .int i => ret (some i)
  | _ => stk
def oSo (g : Rho → M D) : Rho → M (Option Int) := fun ρ => bnd (g ρ) asI
theorem poI {o : Option Expr} {t t' : TO} (h : PO X o t) (i : ∀ σ H Q, t' σ H Q → t σ H Q) : PO X o t' := ⟨fun pins s σ H Q I q => h.run pins s σ H Q I (i _ _ _ q)⟩
theorem O_no : PO X none (tO G oNo) := by
  refine poI po_none ?_
  rintro σ H Q ⟨F, hs, ρ, R, p⟩
  exact post_ret R p rfl
theorem O_so (h : PE X e (tE G g)) : PO X (some e) (tO G (oSo g)) := by
  refine poI (po_some h) ?_
  rintro σ H Q ⟨F, hs, ρ, R, p⟩
  refine (rd_bind R p).mono ?_
  rintro x H1 ⟨F1, hs1, d, R1, s1, r1, p1⟩
  cases d with
  | int i =>
    cases r1.dp rfl
    exact ⟨i, rfl, post_ret R1 p1 rfl⟩
  | _ => exact p1.elim
def cutD (ds : List D) (lo hi : Option Int) : List D := (ds.drop (HT.sIx ds.length 0 lo)).take (HT.sIx ds.length ds.length hi - HT.sIx ds.length 0 lo)
def sliceD (d : D) (lo hi : Option Int) : M D :=
  match d with
  | .list ds => ret (.list (cutD ds lo hi))
  | .tuple ds => ret (.tuple (cutD ds lo hi))
  | _ => stk
def sl (g : Rho → M D) (l h : Rho → M (Option Int)) : Rho → M D := fun ρ => bnd (g ρ) fun d => bnd (l ρ) fun a => bnd (h ρ) fun b => sliceD d a b
theorem cut_dq {K : PySem.W.Frag} {F : Hp} {vs : List V} {ds : List D} {lo hi : Option Int} (h : DqAll K F vs ds) : DqAll K F (cutV vs lo hi) (cutD ds lo hi) := by
  unfold cutV cutD
  rw [dpAll_len h]
  exact dpAll_take _ (dpAll_drop _ h)
theorem E_sl {lo hi : Option Expr} {l h : Rho → M (Option Int)} {p2 : Pos} (hK : G.K = X.K) (he : PE X e (tE G g)) (hl : PO X lo (tO G l)) (hh : PO X hi (tO G h)) : PE X (.Subscript e (.Slice lo hi none p2) pos) (tE G (sl g l h)) := by
  refine peI (pe_slice (SlR.or sl_tupF sl_list) he hl hh) ?_
  rintro σ H Q ⟨F, hs, ρ, R, p⟩
  refine (rd_bind R p).mono ?_
  rintro x H1 ⟨F1, hs1, d, R1, s1, r1, p1⟩
  refine (rd_bind R1 p1).mono ?_
  rintro a H2 ⟨F2, hs2, a', R2, s2, rfl, p2⟩
  refine (rd_bind R2 p2).mono ?_
  rintro b H3 ⟨F3, hs3, b', R3, s3, rfl, p3⟩
  have rr := (r1.same s2.ff).same s3.ff
  cases d with
  | list ds =>
    cases rr.dp rfl with
    | @lst pa xs _ h1 h2 =>
      exact .inr ⟨pa, xs, rfl, SqL.of (R3.sub _ _ h1), fun q nq => post_ret' R3 p3 (PStep.alloc R3.sub nq) (.inl (.lst upd_same (dpAll_same (PStep.alloc R3.sub nq (o := .lst (cutV xs a b))).ff _ _ (cut_dq h2))))⟩
  | tuple ds =>
    cases rr.dp rfl with
    | @tup pa xs _ h1 h2 =>
      refine .inl ⟨pa, xs, rfl, by rw [← hK]; exact sqt_same R3.sub h1.sqt, fun z => post_ret R3 p3 (.inl ?_), fun _ q o nq no => post_ret' R3 p3 (PStep.alloc R3.sub nq) (.inl (.tup ⟨o, upd_same, no⟩ (dpAll_same (PStep.alloc R3.sub nq (o := .frz o (.tup (cutV xs a b)))).ff _ _ (cut_dq h2))))⟩
      have e1 : cutV xs a b = xs := by
        unfold cutV
        rw [z.1, z.2]
        simp
      have := cut_dq (lo := a) (hi := b) h2
      rw [e1] at this
      exact .tup h1 this
  | _ => exact p3.elim
/-- gcd(a, b), imported by its name -/
theorem E_callF {x : Str} {id : String} {p : Pos} {r : List V → Hp → VK → Prop} {f : List D → Option D} (hc : CallR X (.builtin id) r) (hf : RAok G.K r f) (hg : Gl X x) (hm : X.mg x = some (.builtin id)) (ha : PA X (e :: es) (tA G gs)) (hdb : (x == ("__debug__" : Str)) = false := by decide)
    (he : starEach (e :: es) X.env = (false, eval e X.env) :: starEach es X.env := by rfl) (hpl : (backTo pos (starEach es X.env)).any (·.1) = false := by rfl) : PE X (.Call (.Name x p) (e :: es) [] pos) (tE G (cA f gs)) := by
  refine peI (pe_callBfun hc hg hm ha hdb he hpl) fun σ H Q w => ?_
  refine (args_then (t := tA G gs) w).mono ?_
  rintro vs H1 ⟨F, hs, ρ, ds, R, r, p⟩
  exact opA_post R r p hf
theorem E_callB {x : Str} {id : String} {p : Pos} {r : List V → Hp → VK → Prop} {f : List D → Option D} (hc : CallR X (.builtin id) r) (hf : RAok G.K r f) (hg : Gl X x) (hm : X.mg x = none) (hv : bootBuiltins x = some (.builtin id)) (ha : PA X (e :: es) (tA G gs)) (hn : x ≠ "__name__" := by decide) (hdb : (x == ("__debug__" : Str)) = false := by decide)
    (he : starEach (e :: es) X.env = (false, eval e X.env) :: starEach es X.env := by rfl) (hpl : (backTo pos (starEach es X.env)).any (·.1) = false := by rfl) : PE X (.Call (.Name x p) (e :: es) [] pos) (tE G (cA f gs)) := e_callB hc hf hg hm hv ha hn hdb he hpl
theorem E_callTy {x : Str} {T : String} {p : Pos} {r : List V → Hp → VK → Prop} {f : List D → Option D} (hc : CallR X (.type T) r) (hf : RAok G.K r f) (hg : Gl X x) (hm : X.mg x = none) (hv : bootBuiltins x = some (.type T)) (ha : PA X (e :: es) (tA G gs)) (hn : x ≠ "__name__" := by decide) (hdb : (x == ("__debug__" : Str)) = false := by decide)
    (he : starEach (e :: es) X.env = (false, eval e X.env) :: starEach es X.env := by rfl) (hpl : (backTo pos (starEach es X.env)).any (·.1) = false := by rfl) : PE X (.Call (.Name x p) (e :: es) [] pos) (tE G (cA f gs)) := e_callTy hc hf hg hm hv ha hn hdb he hpl
theorem E_call {m : List D → M D} {k : Nat} {f : Addr} {fd : FuncData} {ps : List Str} {x : Str} {p : Pos} (g : Quiet X.A) (tk : Takes X G.W) (F : FnG X.prog X.w X.K X.mg X.base (L2.CX X.prog X.w) k f fd ps (spM G.K G.cl G.fld m)) (hr : Room k X.A) (hg : Gl X x) (hm : X.mg x = some (.ref f)) (hk : PySem.W.keepIn X.K (.ref f) = true) (hb : Binds X.K fd ps [])
    (ha : PA X (e :: es) (tA G gs)) (hdb : (x == ("__debug__" : Str)) = false := by decide) (he : starEach (e :: es) X.env = (false, eval e X.env) :: starEach es X.env := by rfl) (hpl : (backTo pos (starEach es X.env)).any (·.1) = false := by rfl) :
    PE X (.Call (.Name x p) (e :: es) [] pos) (tE G (cM m gs)) := e_call g tk F hr hg hm hk hb ha hdb he hpl
theorem E_call0 {m : List D → M D} {k : Nat} {f : Addr} {fd : FuncData} {ps : List Str} {x : Str} {p : Pos} (g : Quiet X.A) (tk : Takes X G.W) (F : FnG X.prog X.w X.K X.mg X.base (L2.CX X.prog X.w) k f fd ps (spM G.K G.cl G.fld m)) (hr : Room k X.A) (hg : Gl X x) (hm : X.mg x = some (.ref f)) (hk : PySem.W.keepIn X.K (.ref f) = true) (hb : Binds X.K fd ps [])
    (hdb : (x == ("__debug__" : Str)) = false := by decide) : PE X (.Call (.Name x p) [] [] pos) (tE G (cM m aN)) := e_call0 g tk F hr hg hm hk hb hdb
theorem Q_yes : PTs X [] (tT G tYs) := q_yes
theorem aLenC {n : Nat} {g : Rho → M D} {gs : Rho → M (List D)} (h : ALen n gs) : ALen (n + 1) (aC g gs) := aLenS h
theorem aLenN : ALen 0 aN := aLen0
end

/-! ### a def by its body -/
def runB (n k : Nat) (s : MS) (ds : List D) : M D := fun h =>
  if ds.length = k then
    match s (ds.map Sl.dat ++ List.replicate (n - k) .no) h with
    | .ok (.rt d) _ h' => .ok d h'
    | .ok .nx _ h' => .ok .none h'
    | .err c d _ h' => .err c d h'
    | _ => .stuck
  else .stuck
section
variable {P : Program} {w : World} {K : PySem.W.Frag} {mg : Str → Option Value} {base : Heap} {cl : Nat → Addr} {fld : Nat → Str}
theorem start_rel {ha : Option Addr} {F H : Hp} {hs : HS} {E : XK} {vs : List V} {ds : List D} {N : List Str} (s : Same F H) (hh : HandOK ha F H hs) (r : RpAll K F ha vs ds) (hl : ds.length ≤ N.length) :
    Rel (gS K cl fld ha H F E) F H hs (ds.map Sl.dat ++ List.replicate (N.length - ds.length) .no) (start N vs) := by
  have lv := r.len
  refine ⟨s, hh, fun b o e _ => e, Same.refl F, fun b h => .inl h, ?_, fun i x e => ?_, fun i j xs ys a hij e1 e2 o1 o2 e3 => ?_⟩
  · unfold start
    simp [lv]
  · by_cases hi : i < ds.length
    · rw [List.getElem?_append_left (by simpa using hi), List.getElem?_map] at e
      have ev : (start N vs)[i]? = vs[i]?.map some := by
        unfold start
        rw [List.getElem?_append_left (by simpa [lv] using hi), List.getElem?_map]
      have key : ∀ {vs : List V} {ds : List D} {i : Nat} {d : D}, RpAll K F ha vs ds → ds[i]? = some d → ∃ v, vs[i]? = some v ∧ Rp K F ha v d := by
        intro vs ds i d r
        induction r generalizing i with
        | nil => intro e; simp at e
        | cons r1 r2 ih =>
          intro e
          cases i with
          | zero => simp at e; subst e; exact ⟨_, rfl, r1⟩
          | succ i => exact ih e
      cases q : ds[i]? with
      | none => rw [q] at e; cases e
      | some d =>
        rw [q] at e
        cases e
        obtain ⟨v, e1, r1⟩ := key r q
        rw [ev, e1]
        exact ⟨v, rfl, r1⟩
    · rw [List.getElem?_append_right (by simpa using hi)] at e
      have : x = .no := List.eq_of_mem_replicate (List.mem_of_getElem? e)
      subst this
      trivial
  · have m := List.mem_of_getElem? e1
    rcases List.mem_append.mp m with z | z
    · obtain ⟨d, _, z⟩ := List.mem_map.mp z
      subst z
      cases o1
    · have z := List.eq_of_mem_replicate z
      subst z
      cases o1
/-- THE RULE for a def: it does as the function of its body says -/
theorem okM {x qual : Str} {st : Stmt} {f : Addr} {fd : FuncData} {N ps : List Str} {k : Nat} {m : List D → M D} {s : MS} (F : Fun K x qual st f fd) (S : FnScope N ps (defScope st)) (hm : m = runB N.length ps.length s)
    (body : ∀ (cdv : Value) (A : Around) (outer : List Env) (sh : Shared) (H : Hp) (E : XK) (ha : Option Addr) (F0 : Hp), Quiet (A.deeper (envOfC qual (defScope st) sh.heap.objs.size f cdv)) → Room k (A.deeper (envOfC qual (defScope st) sh.heap.objs.size f cdv)) →
      PSs (cxOf (L2.CX P w) P w K mg base N qual (defScope st) f cdv A outer sh H E) (defBody st) (tS (gS K cl fld ha H F0 E) s)) :
    FnG P w K mg base (L2.CX P w) (k + 1) f fd ps (spM K cl fld m) := by
  have pl : ps.length ≤ N.length := by have := congrArg List.length S.pre; rw [List.length_take] at this; omega
  have lens : ∀ vs H Q E, spM K cl fld m vs H Q E → vs.length = ps.length := by
    rintro vs H Q E ⟨ha, F0, hs, ds, s1, hh, r, q⟩
    rw [r.len]
    rw [hm] at q
    unfold runB at q
    by_cases c : ds.length = ps.length
    · exact c
    · rw [if_neg c] at q
      exact q.elim
  refine okG F S lens fun cdv A outer sh H vs Q E g hr h => ?_
  have h' := h
  obtain ⟨ha, F0, hs, ds, s1, hh, r, q⟩ := h
  have l2 : ds.length = ps.length := by rw [← r.len]; exact lens _ _ _ _ h'
  refine ⟨_, body cdv A outer sh H E ha F0 g hr, F0, hs, _, start_rel (N := N) s1 hh r (by omega), ?_⟩
  rw [hm] at q
  unfold runB at q
  rw [if_pos l2] at q
  rw [l2]
  cases e : s (ds.map Sl.dat ++ List.replicate (N.length - ps.length) .no) hs with
  | ok fl ρ h2 =>
    rw [e] at q
    cases fl with
    | nx => exact fun F2 H2 σ2 _ R => q F2 H2 .non R.entry R.hand (.inl .non)
    | rt d => exact fun F2 H2 σ2 v _ R rv => q F2 H2 v R.entry R.hand rv
    | bk => exact q.elim
    | ct => exact q.elim
  | err c d ρ h2 =>
    rw [e] at q
    exact fun F2 H2 σ2 dx v _ R hx hn dp => q F2 H2 dx v R.entry R.hand hx hn dp
  | stuck => rw [e] at q; exact q.elim
end
end L2.AR
set_option Elab.async false
set_option linter.all false
set_option maxRecDepth 100000
set_option maxHeartbeats 4000000
/-! Fw13: promises made weaker; plain form; an error's __init__; the law's rest behind its hand. -/
namespace L2.AR
open PySem PySem.Spec PyProof.Rows
section
variable {P : Program} {w : World} {K : PySem.W.Frag} {mg : Str → Option Value} {base : Heap} {CX : CXT} {k : Nat} {f : Addr} {fd : FuncData} {ps : List Str} {cl : Nat → Addr} {fld : Nat → Str}
/-- m' says no more than m -/
def Sub (m' m : List D → M D) : Prop := ∀ ds h, (∃ d h', m' ds h = .ok d h') ∨ (∃ c d h', m' ds h = .err c d h') → m ds h = m' ds h
theorem spM_imp {m m' : List D → M D} (s : Sub m' m) : ∀ vs H Q E, spM K cl fld m' vs H Q E → spM K cl fld m vs H Q E := by
  rintro vs H Q E ⟨ha, F, hs, ds, h1, h2, h3, q⟩
  refine ⟨ha, F, hs, ds, h1, h2, h3, ?_⟩
  cases e : m' ds hs with
  | ok d h' => rw [e] at q; rw [s ds hs (.inl ⟨d, h', e⟩), e]; exact q
  | err c d h' => rw [e] at q; rw [s ds hs (.inr ⟨c, d, h', e⟩), e]; exact q
  | stuck => rw [e] at q; exact q.elim
theorem FnG.less {m m' : List D → M D} (F : FnG P w K mg base CX k f fd ps (spM K cl fld m)) (s : Sub m' m) : FnG P w K mg base CX k f fd ps (spM K cl fld m') :=
  ⟨fun vs H Q E q => F.len vs H Q E (spM_imp s _ _ _ _ q), fun A outer sh H args us vs Q E g r e b v q => F.run A outer sh H args us vs Q E g r e b v (spM_imp s _ _ _ _ q)⟩
/-- a def of which nothing is said -/
theorem FnG.nothing {k : Nat} : FnG P w K mg base CX k f fd ps (spM K cl fld fun _ _ => .stuck) :=
  ⟨fun vs H Q E ⟨_, _, _, _, _, _, _, q⟩ => q.elim, fun A outer sh H args us vs Q E g r e b v ⟨_, _, _, _, _, _, _, q⟩ => q.elim⟩
end

theorem bnd_ok {α β : Type} {x : M α} {f : α → M β} {h h' : HS} {a : α} (e : x h = .ok a h') : bnd x f h = f a h' := by
  unfold bnd
  rw [e]
theorem bnd_err {α β : Type} {x : M α} {f : α → M β} {h h' : HS} {c : Nat} {d : D} (e : x h = .err c d h') : bnd x f h = .err c d h' := by
  unfold bnd
  rw [e]
theorem aC_ok {g : Rho → M D} {gs : Rho → M (List D)} {ρ : Rho} {h h1 h2 : HS} {d : D} {ds : List D} (e : g ρ h = .ok d h1) (e2 : gs ρ h1 = .ok ds h2) : aC g gs ρ h = .ok (d :: ds) h2 := by
  show bnd (g ρ) _ h = _
  rw [bnd_ok e, bnd_ok e2]
  rfl
theorem cA_ok {f : List D → Option D} {gs : Rho → M (List D)} {ρ : Rho} {h h1 : HS} {ds : List D} (e : gs ρ h = .ok ds h1) : cA f gs ρ h = opA f ds h1 := bnd_ok e
theorem cM_ok {m : List D → M D} {gs : Rho → M (List D)} {ρ : Rho} {h h1 : HS} {ds : List D} (e : gs ρ h = .ok ds h1) : cM m gs ρ h = m ds h1 := bnd_ok e
/-! ### plain form -/
mutual
def plainD : D → D
  | .list ds => .tuple (plainL ds)
  | .tuple ds => .tuple (plainL ds)
  | .none => .none
  | .bool b => .bool b
  | .int i => .int i
  | .str x => .str x
  | .dict k => .dict k
def plainL : List D → List D
  | [] => []
  | d :: ds => plainD d :: plainL ds
end
/-- nested less than n deep, rows not too long -/
def okP : Nat → D → Bool
  | 0, _ => false
  | n + 1, .list ds => decide (ds.length ≤ 100000) && ds.all (okP n)
  | n + 1, .tuple ds => decide (ds.length ≤ 100000) && ds.all (okP n)
  | _ + 1, .dict _ => false
  | _ + 1, _ => true
def sPlain (m : List D → M D) : MS := sSeq (sIf (tV (cI ["list", "tuple"] (gVar 0))) (sRet (cA fTuple (aC (gComp [1] (gVar 0) (tgN 1) tYs (cM m (aC (gVar 1) aN))) aN))) sSkip) (sRet (gVar 0))
def mPl : Nat → List D → M D
  | 0 => fun _ _ => .stuck
  | n + 1 => runB 2 1 (sPlain (mPl n))
def mPlain (n : Nat) : List D → M D
  | [d] => if okP n d = true then ret (plainD d) else stk
  | _ => stk
theorem kit_ll : kitB "list" "list" = some true := by decide +kernel
theorem kit_lt : kitB "list" "tuple" = some false := by decide +kernel
theorem kit_tl : kitB "tuple" "list" = some false := by decide +kernel
theorem kit_tt : kitB "tuple" "tuple" = some true := by decide +kernel
theorem kit_nl : kitB "NoneType" "list" = some false := by decide +kernel
theorem kit_nt : kitB "NoneType" "tuple" = some false := by decide +kernel
theorem kit_bl : kitB "bool" "list" = some false := by decide +kernel
theorem kit_bt : kitB "bool" "tuple" = some false := by decide +kernel
theorem kit_il : kitB "int" "list" = some false := by decide +kernel
theorem kit_it : kitB "int" "tuple" = some false := by decide +kernel
theorem kit_sl : kitB "str" "list" = some false := by decide +kernel
theorem kit_st : kitB "str" "tuple" = some false := by decide +kernel
theorem kit_ni : kitB "NoneType" "int" = some false := by decide +kernel
theorem kit_bi : kitB "bool" "int" = some true := by decide +kernel
theorem kit_ii : kitB "int" "int" = some true := by decide +kernel
theorem kit_si : kitB "str" "int" = some false := by decide +kernel
theorem kit_li : kitB "list" "int" = some false := by decide +kernel
theorem kit_ti : kitB "tuple" "int" = some false := by decide +kernel
theorem kit_nb : kitB "NoneType" "bool" = some false := by decide +kernel
theorem kit_bb : kitB "bool" "bool" = some true := by decide +kernel
theorem kit_ib : kitB "int" "bool" = some false := by decide +kernel
theorem kit_sb : kitB "str" "bool" = some false := by decide +kernel
theorem kit_lb : kitB "list" "bool" = some false := by decide +kernel
theorem kit_tb : kitB "tuple" "bool" = some false := by decide +kernel
theorem kit_ns : kitB "NoneType" "str" = some false := by decide +kernel
theorem kit_bs : kitB "bool" "str" = some false := by decide +kernel
theorem kit_is : kitB "int" "str" = some false := by decide +kernel
theorem kit_ss : kitB "str" "str" = some true := by decide +kernel
theorem kit_ls : kitB "list" "str" = some false := by decide +kernel
theorem kit_ts : kitB "tuple" "str" = some false := by decide +kernel
theorem isSeq_is (d : D) : isTok d = false → isiAny ["list", "tuple"] d = some (itemsOf d).isSome := by
  intro h
  cases d with
  | none => simp [isiAny, kindD, kit_nl, kit_nt, itemsOf]
  | bool b => simp [isiAny, kindD, kit_bl, kit_bt, itemsOf]
  | int i => simp [isiAny, kindD, kit_il, kit_it, itemsOf]
  | str x => simp [isiAny, kindD, kit_sl, kit_st, itemsOf]
  | list ds => simp [isiAny, kindD, kit_ll, itemsOf]
  | tuple ds => simp [isiAny, kindD, kit_tl, kit_tt, itemsOf]
  | dict k => cases h
theorem plain_tok : ∀ {d : D}, isTok d = false → isTok (plainD d) = false
  | .list _, _ => rfl
  | .tuple _, _ => rfl
  | .none, _ => rfl
  | .bool _, _ => rfl
  | .int _, _ => rfl
  | .str _, _ => rfl
theorem okP_tok {n : Nat} {d : D} (h : okP n d = true) : isTok d = false := by
  cases n with
  | zero => cases h
  | succ n => cases d <;> first | rfl | cases h
theorem comp_plain {n : Nat} {ρ : Rho} (hρ : 1 < ρ.length) (ih : ∀ d h, okP n d = true → mPl n [d] h = .ok (plainD d) h) : ∀ (ds acc : List D) (h : HS), ds.all (okP n) = true → acc.length + ds.length ≤ 100000 →
    comp1 (tgN 1) tYs (cM (mPl n) (aC (gVar 1) aN)) ρ ds acc h = .ok (.list (acc ++ plainL ds)) h
  | [], acc, h, _, _ => by
    simp [comp1, plainL, ret]
  | d :: ds, acc, h, ha, hl => by
    rw [List.all_cons, Bool.and_eq_true] at ha
    have hlen : acc.length < 1000000 := by simp at hl; omega
    have e1 : (ρ.set 1 (.dat d))[1]? = some (.dat d) := by
      rw [List.getElem?_set_self hρ]
    have e2 : cM (mPl n) (aC (gVar 1) aN) (ρ.set 1 (.dat d)) h = .ok (plainD d) h := by
      unfold cM aC aN gVar
      rw [e1]
      simp only [bnd_ret]
      exact ih d h ha.1
    have tk := plain_tok (okP_tok ha.1)
    have step := comp_plain hρ ih ds (acc ++ [plainD d]) h ha.2 (by simp at hl ⊢; omega)
    unfold comp1
    simp only [tgN]
    show bnd (nerr (tYs (ρ.set 1 (.dat d)))) _ h = _
    unfold tYs
    show bnd (nerr (cM (mPl n) (aC (gVar 1) aN) (ρ.set 1 (.dat d)))) _ h = _
    unfold bnd nerr
    rw [e2]
    show (if isTok (plainD d) = false ∧ acc.length < 1000000 then comp1 (tgN 1) tYs (cM (mPl n) (aC (gVar 1) aN)) ρ ds (acc ++ [plainD d]) else stk) h = _
    rw [if_pos ⟨tk, hlen⟩, step]
    simp [plainL]
theorem plain_is : ∀ (n : Nat) (d : D) (h : HS), okP n d = true → mPl n [d] h = .ok (plainD d) h
  | 0, d, h, e => by cases e
  | n + 1, d, h, e => by
    have tk := okP_tok e
    have isq := isSeq_is d tk
    have cond : tV (cI ["list", "tuple"] (gVar 0)) [.dat d, .no] h = .ok (itemsOf d).isSome h := by
      unfold tV cI gVar gIsi
      simp [bnd, ret, tk, isq, asB]
    have seqc : ∀ ds : List D, itemsOf d = some ds → ds.length ≤ 100000 → ds.all (okP n) = true → mPl (n + 1) [d] h = .ok (.tuple (plainL ds)) h := by
      intro ds ei hl ha
      have c := comp_plain (n := n) (ρ := [Sl.dat d, .no]) (by simp) (plain_is n) ds [] h ha (by simpa using hl)
      unfold mPl runB
      simp only [List.length_cons, List.length_nil, if_true, List.map_cons, List.map_nil, List.nil_append]
      show (match sPlain (mPl n) [.dat d, .no] h with | .ok (.rt d) _ h' => Out.ok d h' | .ok .nx _ h' => .ok .none h' | .err c d _ h' => .err c d h' | _ => .stuck) = _
      unfold sPlain sSeq sIf sExp
      rw [cond, ei]
      simp only [Option.isSome_some, if_true]
      have g : gComp [1] (gVar 0) (tgN 1) tYs (cM (mPl n) (aC (gVar 1) aN)) [.dat d, .no] h = .ok (.list (plainL ds)) h := by
        unfold gComp
        show bnd (gVar 0 [.dat d, .no]) _ h = _
        unfold gVar
        simp only [List.getElem?_cons_zero, bnd_ret, ei, orStk]
        exact c
      have g2 : cA fTuple (aC (gComp [1] (gVar 0) (tgN 1) tYs (cM (mPl n) (aC (gVar 1) aN))) aN) [.dat d, .no] h = .ok (.tuple (plainL ds)) h := by
        rw [cA_ok (aC_ok g rfl)]
        rfl
      unfold sRet sExp
      rw [g2]
    cases d with
    | list ds =>
      have e' : (decide (ds.length ≤ 100000) && ds.all (okP n)) = true := e
      rw [Bool.and_eq_true, decide_eq_true_eq] at e'
      rw [seqc ds rfl e'.1 e'.2]
      simp [plainD]
    | tuple ds =>
      have e' : (decide (ds.length ≤ 100000) && ds.all (okP n)) = true := e
      rw [Bool.and_eq_true, decide_eq_true_eq] at e'
      rw [seqc ds rfl e'.1 e'.2]
      simp [plainD]
    | none => unfold mPl runB; simp [sPlain, sSeq, sIf, sExp, cond, itemsOf, sSkip, sRet, gVar, ret, plainD]
    | bool b => unfold mPl runB; simp [sPlain, sSeq, sIf, sExp, cond, itemsOf, sSkip, sRet, gVar, ret, plainD]
    | int b => unfold mPl runB; simp [sPlain, sSeq, sIf, sExp, cond, itemsOf, sSkip, sRet, gVar, ret, plainD]
    | str b => unfold mPl runB; simp [sPlain, sSeq, sIf, sExp, cond, itemsOf, sSkip, sRet, gVar, ret, plainD]
    | dict k => cases tk
theorem plain_sub (n : Nat) : Sub (mPlain n) (mPl n) := by
  intro ds h q
  unfold mPlain at q ⊢
  split at q
  · rename_i d
    split at q
    · rename_i c
      simp only [c, if_true]
      rw [plain_is n d h c]
      rfl
    · rcases q with ⟨_, _, q⟩ | ⟨_, _, _, q⟩ <;> cases q
  · rcases q with ⟨_, _, q⟩ | ⟨_, _, _, q⟩ <;> cases q

/-! ### an error's __init__ -/
section
variable {P : Program} {w : World} {K : PySem.W.Frag} {mg : Str → Option Value} {base : Heap} {cl : Nat → Addr} {fld : Nat → Str}
theorem okI {qual pn : Str} {st : Stmt} {f : Addr} {fd : FuncData} {C : Addr} {fl : Str} {k : Nat} {m : List D → M D} {g : Rho → M D} (F : Fun K "__init__" qual st f fd) (S : FnScope ["self", pn] ["self", pn] (defScope st)) (T : OexC K C) (hno : PySem.W.findIn K (.ref C) fl = some none)
    (hg : ∀ d, g [.no, .dat d] = m [d])
    (body : ∀ (cdv : Value) (A : Around) (outer : List Env) (sh : Shared) (H : Hp) (E : XK) (ha : Option Addr) (F0 : Hp), Quiet (A.deeper (envOfC qual (defScope st) sh.heap.objs.size f cdv)) → Room k (A.deeper (envOfC qual (defScope st) sh.heap.objs.size f cdv)) →
      PSs (cxOf (L2.CX P w) P w K mg base ["self", pn] qual (defScope st) f cdv A outer sh H E) (defBody st) (tOst K fl (tVar 0) (tE (gS K cl fld ha H F0 E) g))) :
    FnG P w K mg base (L2.CX P w) (k + 1) f fd ["self", pn] (spI K C fl m) := by
  refine okG F S (fun vs H Q E ⟨_, _, _, _, _, _, e, _⟩ => by rw [e]; rfl) fun cdv A outer sh H vs Q E gq hr h => ?_
  obtain ⟨ha, F0, hs, a, v, d, rfl, s1, hh, ea, fa, nha, rv, q⟩ := h
  refine ⟨_, body cdv A outer sh H E ha F0 gq hr, ?_⟩
  have R : Rel (gS K cl fld ha H F0 E) F0 H hs [.no, .dat d] [some (.ref a), some v] := by
    refine ⟨s1, hh, fun b o e _ => e, Same.refl F0, fun b h => .inl h, rfl, fun i x e => ?_, fun i j xs ys b hij e1 e2 o1 o2 e3 => ?_⟩
    · match i, e with
      | 0, e => cases e; trivial
      | 1, e => cases e; exact ⟨v, rfl, rv⟩
      | n + 2, e => simp at e
    · match i, e1 with
      | 0, e => cases e; cases o1
      | 1, e => cases e; cases o1
      | n + 2, e => simp at e
  refine ⟨F0, hs, _, R, ?_⟩
  rw [hg]
  cases z : m [d] hs with
  | ok x h' =>
    rw [z] at q
    intro F' H' u st hh' ru
    exact ⟨.ref a, rfl, a, C, rfl, T, hno, .inl ⟨st.keep _ _ ea nha, fun dx n ne => q.2 F' H' dx u st hh' n ne (ru.dp q.1)⟩⟩
  | err c x h' => rw [z] at q; exact q.elim
  | stuck => rw [z] at q; exact q.elim
end
/-! ### comparisons as tests -/
theorem tV_imp {G : Gh} {g : Rho → M D} {σ : St} {H : Hp} {Q : Bool → Hp → Prop} (h : tT G (tV g) σ H Q) : tE G g σ H fun x H1 => ∃ c, x = .bl c ∧ Q c H1 := by
  obtain ⟨F, hs, ρ, R, p⟩ := h
  refine (rd_bind R p).mono ?_
  rintro x H1 ⟨F1, hs1, d, R1, s1, r1, p1⟩
  rw [show asB d = bnd (asB d) ret from (bnd_ret_right _).symm] at p1
  obtain ⟨c, ex, p2⟩ := asB_post R1 r1 p1
  exact ⟨c, ex, post_ret R1 p2 rfl⟩
section
variable {X : Cx} {G : Gh} {pos : Pos} {a b c : Expr} {ga gb gc : Rho → M D} {r r' : R2} {f f' : D → D → Option D}
theorem b2_imp {σ : St} {H : Hp} {Q : VK} (hf : R2ok G.K r f) (h : tE G (b2 f ga gb) σ H Q) : tOp r (tE G ga) (tE G gb) σ H Q := by
  refine (two_vals (k := op2 f) h).mono fun v H1 h1 => h1.mono ?_
  rintro w H2 ⟨F, hs, ρ, x, y, R, r1, r2, p⟩
  exact op2_post R r1 r2 p hf
theorem T_cmp {op : CmpOp} (ho : OpR X (compareOp op) r) (hf : R2ok G.K r f) (ha : PE X a (tE G ga)) (hb : PE X b (tE G gb)) (hm : behindInMarks op b = false := by first | exact nomark _ | rfl) : PT X (.Compare a [op] [b] pos) (tT G (tV (b2 f ga gb))) :=
  ptI (pt_cmpR ho ha hb hm) fun σ H Q h => b2_imp hf (tV_imp h)
theorem ch3_imp {σ : St} {H : Hp} {Q : VK} (hf : R2ok G.K r f) (hf' : R2ok G.K r' f') (h : tE G (ch3 f f' ga gb gc) σ H Q) : tChain r r' (tE G ga) (tE G gb) (tE G gc) σ H Q := by
  obtain ⟨F, hs, ρ, R, p⟩ := h
  refine (rd_bind R p).mono ?_
  rintro v H1 ⟨F1, hs1, x, R1, s1, r1, p1⟩
  refine (rd_bind R1 p1).mono ?_
  rintro w H2 ⟨F2, hs2, y, R2, s2, r2, p2⟩
  refine op2_bind R2 (r1.same s2.ff) r2 p2 hf _ fun z F3 H3 d3 R3 s3 dd p3 => ?_
  obtain ⟨k, ek, p4⟩ := asB_post R3 (.inl dd) p3
  refine ⟨k, ek, ?_⟩
  cases k with
  | false => exact iteF (post_ret R3 p4 (.inl (.bl false)))
  | true =>
    refine iteT ((rd_bind R3 p4).mono ?_)
    rintro t H4 ⟨F4, hs4, z4, R4, s4, r4, p5⟩
    exact op2_post R4 ((r2.same s3.ff).same s4.ff) r4 p5 hf'
theorem T_chain {op op' : CmpOp} (ho : OpR X (compareOp op) r) (hf : R2ok G.K r f) (ho' : OpR X (compareOp op') r') (hf' : R2ok G.K r' f') (ha : PE X a (tE G ga)) (hb : PE X b (tE G gb)) (hc : PE X c (tE G gc))
    (hm : lastMarks [op, op'] [b, c] = false := by with_unfolding_all rfl) : PT X (.Compare a [op, op'] [b, c] pos) (tT G (tV (ch3 f f' ga gb gc))) :=
  ptI (pt_chain ho ho' ha hb hc hm) fun σ H Q h => ch3_imp hf hf' (tV_imp h)
end
theorem E_globI {X : Cx} {G : Gh} {pos : Pos} {x : Str} {i : Int} (hg : Gl X x) (hm : ∃ tk, X.mg x = some (.int i tk)) (hd : (x == ("__debug__" : Str)) = false := by decide) : PE X (.Name x pos) (tE G (cK (.int i))) := by
  obtain ⟨tk, hm⟩ := hm
  exact e_glob hg hm ⟨_, rfl⟩ hd
/-! ### loops, once more -/
theorem p_for' {X : Cx} {G : Gh} {st : Stmt} {g : Rho → M D} {gt : TG} {t : Tgt} {s : MS} (vs : List Nat) (hK : G.K = X.K) (ht : GOk G vs gt t) (h : PS X st (tFor (iSeq X.K (tE G g)) gt (tS G s))) : PS X st (tS G (sFor g t s)) := by
  refine psI h ?_
  rintro E σ H ⟨F, hs, ρ, R, p⟩
  rw [← hK]
  refine iSeq_of (k := fun _ _ _ _ => True) R ?_
  unfold sFor sExp at p
  cases z : g ρ hs with
  | ok d h' =>
    rw [z] at p
    simp only at p
    cases w : itemsOf d with
    | none => rw [w] at p; exact p.elim
    | some ds =>
      rw [w] at p
      exact ⟨ds, w, fun F' H' J st hh S => for_inv ht (R.step st hh) S (postS.after st.ff p)⟩
  | err c d h' =>
    rw [z] at p
    exact fun F' H' dx v s h hx hn dp => p F' H' σ dx v s.ff (R.step s h) hx hn dp
  | stuck => rw [z] at p; exact p.elim
/-! ### the hand -/
/-- a draw: the next figure's rest by n -/
def mDraw : List D → M D
  | [.dict [], .int n] => fun h => if n = 0 then .stuck else .ok (.int (if h.row.length ≤ h.pos then 0 else (h.row.getD h.pos 0).fmod n)) ⟨h.row, h.pos + 1⟩
  | _ => stk
theorem mDraw_shape {ds : List D} {h : HS} (q : mDraw ds h ≠ .stuck) : ∃ n : Int, ds = [tok, .int n] ∧ n ≠ 0 := by
  unfold mDraw at q
  split at q
  · rename_i n
    refine ⟨n, rfl, fun e => q ?_⟩
    rw [if_pos e]
  · exact absurd rfl q
theorem row_at : ¬ (Str.ofString "row" = Str.ofString "at") := by decide
/-- the hand is made -/
def spHand (K : PySem.W.Frag) : Sp := fun vs H Q _ => ∃ (a : Addr) (ns : List Int), vs = [.ref a] ∧ SqL K H a (ns.map V.int) ∧ ns.length ≤ 63 ∧
  ∀ (H' : Hp) (d r : Addr) (row : List Int), r ≠ d → H' d = some (.dK [(.inr "row", .ref r), (.inr "at", .int 0)]) → H' r = some (.lst (row.map V.int)) → (∀ x ∈ row, 0 ≤ x ∧ x < 30) → row.length ≤ 720 → Q (.ref d) H'
/-- the law's promise -/
def spLaw (K : PySem.W.Frag) : Sp := fun vs H Q _ => ∃ (a : Addr) (ns : List Int), vs = [.ref a] ∧ SqL K H a (ns.map V.int) ∧ ns.length ≤ 63 ∧ ∀ H', Q (.bl true) H'
/-- a row of figures -/
def GoodRow (row : List Int) : Prop := ∀ x ∈ row, 0 ≤ x ∧ x < 30
/-! ### the law -/
def tAnyS (K : PySem.W.Frag) (cl : Nat → Addr) (fld : Nat → Str) (E : XK) (s : MS) : TS := fun D σ H => ∃ ha H0 F0, tS (gS K cl fld ha H0 F0 E) s D σ H
theorem p_any {X : Cx} {K : PySem.W.Frag} {cl : Nat → Addr} {fld : Nat → Str} {E : XK} {s : MS} {sts : List Stmt} (h : ∀ ha H0 F0, PSs X sts (tS (gS K cl fld ha H0 F0 E) s)) : PSs X sts (tAnyS K cl fld E s) :=
  ⟨fun pins sh σ H D I ⟨ha, H0, F0, q⟩ => (h ha H0 F0).run pins sh σ H D I q⟩
end L2.AR
set_option Elab.async false
set_option linter.all false
set_option maxRecDepth 100000
set_option maxHeartbeats 4000000
/-! Fw14: reckoning with the functions: one step each. -/
namespace L2.AR
open PySem PySem.Spec PyProof.Rows

/-! ### ends of statements, the state left aside -/
def okS (f : Fl) (ρ : Rho) : HS → OutS := fun h => .ok f ρ h
def errS (c : Nat) (d : D) (ρ : Rho) : HS → OutS := fun h => .err c d ρ h
def stkS : HS → OutS := fun _ => .stuck
def bndS {α : Type} (x : M α) (ρ : Rho) (k : α → MS) : HS → OutS := fun h =>
  match x h with
  | .ok a h' => k a ρ h'
  | .err c d h' => .err c d ρ h'
  | .stuck => .stuck
def seqS (o : HS → OutS) (t : MS) : HS → OutS := fun h =>
  match o h with
  | .ok .nx ρ' h' => t ρ' h'
  | x => x
@[simp] theorem bndS_ret {α : Type} (a : α) (ρ : Rho) (k : α → MS) : bndS (ret a) ρ k = k a ρ := rfl
@[simp] theorem bndS_fail {α : Type} (c : Nat) (d : D) (ρ : Rho) (k : α → MS) : bndS (fail c d) ρ k = errS c d ρ := rfl
@[simp] theorem seqS_nx (ρ : Rho) (t : MS) : seqS (okS .nx ρ) t = t ρ := rfl
@[simp] theorem seqS_rt (d : D) (ρ : Rho) (t : MS) : seqS (okS (.rt d) ρ) t = okS (.rt d) ρ := rfl
@[simp] theorem seqS_bk (ρ : Rho) (t : MS) : seqS (okS .bk ρ) t = okS .bk ρ := rfl
@[simp] theorem seqS_ct (ρ : Rho) (t : MS) : seqS (okS .ct ρ) t = okS .ct ρ := rfl
@[simp] theorem seqS_err (c : Nat) (d : D) (ρ : Rho) (t : MS) : seqS (errS c d ρ) t = errS c d ρ := rfl
theorem seqS_if {c : Prop} [Decidable c] (a b : HS → OutS) (t : MS) : seqS (if c then a else b) t = if c then seqS a t else seqS b t := by split <;> rfl
@[simp] theorem x_seq (s t : MS) (ρ : Rho) : sSeq s t ρ = seqS (s ρ) t := rfl
@[simp] theorem x_exp {α : Type} (g : Rho → M α) (k : α → MS) (ρ : Rho) : sExp g k ρ = bndS (g ρ) ρ k := rfl
@[simp] theorem x_skip (ρ : Rho) : sSkip ρ = okS .nx ρ := rfl
@[simp] theorem x_brk (ρ : Rho) : sBrk ρ = okS .bk ρ := rfl
@[simp] theorem x_cnt (ρ : Rho) : sCnt ρ = okS .ct ρ := rfl
@[simp] theorem x_put (i : Nat) (d : D) (ρ : Rho) : sPut i d ρ = okS .nx (ρ.set i (.dat d)) := rfl
@[simp] theorem x_set (i : Nat) (g : Rho → M D) (ρ : Rho) : sSet i g ρ = bndS (g ρ) ρ (sPut i) := rfl
theorem x_ret (g : Rho → M D) (ρ : Rho) : sRet g ρ = bndS (g ρ) ρ fun d ρ => okS (.rt d) ρ := rfl
@[simp] theorem x_ret' (g : Rho → M D) : sRet g = fun ρ => bndS (g ρ) ρ fun d ρ => okS (.rt d) ρ := rfl
@[simp] theorem x_do (g : Rho → M D) (ρ : Rho) : sDo g ρ = bndS (g ρ) ρ fun _ => sSkip := rfl
@[simp] theorem x_if (c : Rho → M Bool) (s t : MS) (ρ : Rho) : sIf c s t ρ = bndS (c ρ) ρ fun b => if b = true then s else t := rfl
@[simp] theorem x_asg (g : Rho → M D) (t : Tgt) (ρ : Rho) : sAsg g t ρ = bndS (g ρ) ρ (sTo t) := rfl
def toS (o : Option Rho) : HS → OutS :=
  match o with
  | some ρ' => okS .nx ρ'
  | none => stkS
@[simp] theorem toS_some (ρ : Rho) : toS (some ρ) = okS .nx ρ := rfl
@[simp] theorem x_to (t : Tgt) (d : D) (ρ : Rho) : sTo t d ρ = toS (t d ρ) := by
  unfold sTo toS
  cases t d ρ <;> rfl
@[simp] theorem x_tgN (i : Nat) (d : D) (ρ : Rho) : tgN i d ρ = some (ρ.set i (.dat d)) := rfl
@[simp] theorem x_tgT (ts : List Tgt) (ds : List D) (ρ : Rho) : tgT ts (.tuple ds) ρ = tgAll ts ds ρ := rfl
@[simp] theorem x_tgAll0 (ρ : Rho) : tgAll [] [] ρ = some ρ := rfl
@[simp] theorem x_tgAll1 (t : Tgt) (ts : List Tgt) (d : D) (ds : List D) (ρ : Rho) : tgAll (t :: ts) (d :: ds) ρ = (t d ρ).bind (tgAll ts ds) := rfl
def par2 (i j : Nat) (ds : List D) : MS := fun ρ h => match ds with | [x, y] => .ok .nx ((ρ.set i (.dat x)).set j (.dat y)) h | _ => .stuck
@[simp] theorem par2_is (i j : Nat) (x y : D) (ρ : Rho) : par2 i j [x, y] ρ = okS .nx ((ρ.set i (.dat x)).set j (.dat y)) := rfl
@[simp] theorem x_par (i j : Nat) (gs : Rho → M (List D)) (ρ : Rho) : sPar i j gs ρ = bndS (gs ρ) ρ (par2 i j) := rfl
@[simp] theorem x_new (i : Nat) (ρ : Rho) : sNew i ρ = okS .nx (ρ.set i (.own [])) := rfl
theorem x_raise (c : Nat) (g : Rho → M D) (ρ : Rho) : sRaise c g ρ = bndS (g ρ) ρ fun d => errS c d := rfl
@[simp] theorem x_raise' (c : Nat) (g : Rho → M D) : sRaise c g = fun ρ => bndS (g ρ) ρ fun d => errS c d := rfl
theorem x_frz_own {i : Nat} {ρ : Rho} {ds : List D} (e : ρ[i]? = some (.own ds)) : sFrz i ρ = okS .nx (ρ.set i (.dat (.list ds))) := by
  funext h
  unfold sFrz
  rw [e]
  rfl
theorem x_app {i : Nat} {g : Rho → M D} {ρ : Rho} {ds : List D} {d : D} (e : ρ[i]? = some (.own ds)) (eg : g ρ = ret d) (t : isTok d = false) (l : ds.length < 1000000) : sApp i g ρ = okS .nx (ρ.set i (.own (ds ++ [d]))) := by
  funext h
  unfold sApp
  rw [e]
  simp only [x_exp, eg, bndS_ret]
  rw [if_pos ⟨t, l⟩]
  rfl
/-- a turn's end -/
def turnS (o : HS → OutS) (t : MS) : HS → OutS := fun h =>
  match o h with
  | .ok .nx ρ2 h2 => t ρ2 h2
  | .ok .ct ρ2 h2 => t ρ2 h2
  | .ok .bk ρ2 h2 => .ok .nx ρ2 h2
  | x => x
@[simp] theorem turnS_nx (ρ : Rho) (t : MS) : turnS (okS .nx ρ) t = t ρ := rfl
@[simp] theorem turnS_ct (ρ : Rho) (t : MS) : turnS (okS .ct ρ) t = t ρ := rfl
@[simp] theorem turnS_bk (ρ : Rho) (t : MS) : turnS (okS .bk ρ) t = okS .nx ρ := rfl
@[simp] theorem turnS_rt (d : D) (ρ : Rho) (t : MS) : turnS (okS (.rt d) ρ) t = okS (.rt d) ρ := rfl
@[simp] theorem turnS_err (c : Nat) (d : D) (ρ : Rho) (t : MS) : turnS (errS c d ρ) t = errS c d ρ := rfl
@[simp] theorem x_loop0 (t : Tgt) (b : MS) (ρ : Rho) : loopL t b [] ρ = okS .nx ρ := rfl
theorem x_loop1 {t : Tgt} {b : MS} {d : D} {ds : List D} {ρ ρ1 : Rho} (e : t d ρ = some ρ1) : loopL t b (d :: ds) ρ = turnS (b ρ1) (loopL t b ds) := by
  funext h
  unfold turnS
  simp only [loopL]
  rw [e] <;> (try simp only) <;> (cases b ρ1 h with
    | ok f _ _ => cases f <;> rfl
    | err _ _ _ _ => rfl
    | stuck => rfl)
@[simp] theorem x_loopN (i : Nat) (b : MS) (d : D) (ds : List D) (ρ : Rho) : loopL (tgN i) b (d :: ds) ρ = turnS (b (ρ.set i (.dat d))) (loopL (tgN i) b ds) := x_loop1 rfl
@[simp] theorem x_for (g : Rho → M D) (t : Tgt) (b : MS) (ρ : Rho) : sFor g t b ρ = bndS (g ρ) ρ fun d => orStuck (loopL t b) (itemsOf d) := rfl
@[simp] theorem x_forR (g : Rho → M (List D)) (t : Tgt) (b : MS) (ρ : Rho) : sForR g t b ρ = bndS (g ρ) ρ fun d => orStuck (loopL t b) (rangeOf d) := rfl
@[simp] theorem orStuck_some {α : Type} (k : α → MS) (a : α) : orStuck k (some a) = k a := rfl
@[simp] theorem items_list (ds : List D) : itemsOf (.list ds) = some ds := rfl
@[simp] theorem items_tuple (ds : List D) : itemsOf (.tuple ds) = some ds := rfl
/-! a def's end -/
def endB (o : HS → OutS) : M D := fun h =>
  match o h with
  | .ok (.rt d) _ h' => .ok d h'
  | .ok .nx _ h' => .ok .none h'
  | .err c d _ h' => .err c d h'
  | _ => .stuck
@[simp] theorem endB_rt (d : D) (ρ : Rho) : endB (okS (.rt d) ρ) = ret d := rfl
@[simp] theorem endB_nx (ρ : Rho) : endB (okS .nx ρ) = ret .none := rfl
@[simp] theorem endB_err (c : Nat) (d : D) (ρ : Rho) : endB (errS c d ρ) = fail c d := rfl
theorem endB_if {c : Prop} [Decidable c] (a b : HS → OutS) : endB (if c then a else b) = if c then endB a else endB b := by split <;> rfl
theorem runB_is {n k : Nat} {s : MS} {ds : List D} (l : ds.length = k) : runB n k s ds = endB (s (ds.map Sl.dat ++ List.replicate (n - k) .no)) := by
  funext h
  unfold runB endB
  rw [if_pos l] <;> (cases s (ds.map Sl.dat ++ List.replicate (n - k) .no) h with
    | ok f _ _ => cases f <;> rfl
    | err _ _ _ _ => rfl
    | stuck => rfl)
/-! expressions -/
@[simp] theorem x_cK (d : D) (ρ : Rho) : cK d ρ = ret d := rfl
@[simp] theorem x_b2 (f : D → D → Option D) (a b : Rho → M D) (ρ : Rho) : b2 f a b ρ = bnd (a ρ) fun x => bnd (b ρ) fun y => op2 f x y := rfl
@[simp] theorem x_aN (ρ : Rho) : aN ρ = ret [] := rfl
@[simp] theorem x_aC (g : Rho → M D) (gs : Rho → M (List D)) (ρ : Rho) : aC g gs ρ = bnd (g ρ) fun d => bnd (gs ρ) fun ds => ret (d :: ds) := rfl
@[simp] theorem x_cA (f : List D → Option D) (gs : Rho → M (List D)) (ρ : Rho) : cA f gs ρ = bnd (gs ρ) (opA f) := rfl
@[simp] theorem x_cM (m : List D → M D) (gs : Rho → M (List D)) (ρ : Rho) : cM m gs ρ = bnd (gs ρ) m := rfl
@[simp] theorem x_cI (Ts : List String) (g : Rho → M D) (ρ : Rho) : cI Ts g ρ = bnd (g ρ) (gIsi Ts) := rfl
@[simp] theorem x_tV (g : Rho → M D) (ρ : Rho) : tV g ρ = bnd (g ρ) asB := rfl
@[simp] theorem x_tNo (u : Rho → M Bool) (ρ : Rho) : tNo u ρ = bnd (u ρ) fun c => ret (!c) := rfl
@[simp] theorem x_tAn (u v : Rho → M Bool) (ρ : Rho) : tAn u v ρ = bnd (u ρ) fun c => if c = true then v ρ else ret false := rfl
@[simp] theorem x_tOr (u v : Rho → M Bool) (ρ : Rho) : tOr' u v ρ = bnd (u ρ) fun c => if c = true then ret true else v ρ := rfl
@[simp] theorem x_tYs (ρ : Rho) : tYs ρ = ret true := rfl
@[simp] theorem x_vAn (a b : Rho → M D) (ρ : Rho) : vAn a b ρ = bnd (a ρ) fun x => bnd (asB x) fun c => if c = true then b ρ else ret (.bool false) := rfl
@[simp] theorem x_vOr (a b : Rho → M D) (ρ : Rho) : vOr a b ρ = bnd (a ρ) fun x => bnd (asB x) fun c => if c = true then ret (.bool true) else b ρ := rfl
@[simp] theorem x_vNo (a : Rho → M D) (ρ : Rho) : vNo a ρ = bnd (a ρ) fun x => bnd (asB x) fun c => ret (.bool (!c)) := rfl
@[simp] theorem x_vNeg (a : Rho → M D) (ρ : Rho) : vNeg a ρ = bnd (a ρ) negD := rfl
@[simp] theorem negD_int (i : Int) : negD (.int i) = ret (.int (-i)) := rfl
@[simp] theorem asB_bool (b : Bool) : asB (.bool b) = ret b := rfl
@[simp] theorem x_sl (g : Rho → M D) (l h : Rho → M (Option Int)) (ρ : Rho) : sl g l h ρ = bnd (g ρ) fun d => bnd (l ρ) fun a => bnd (h ρ) fun b => sliceD d a b := rfl
@[simp] theorem x_oNo (ρ : Rho) : oNo ρ = ret none := rfl
@[simp] theorem x_oSo (g : Rho → M D) (ρ : Rho) : oSo g ρ = bnd (g ρ) asI := rfl
@[simp] theorem asI_int (i : Int) : asI (.int i) = ret (some i) := rfl
@[simp] theorem nerr_ret {α : Type} (a : α) : nerr (ret a) = ret a := rfl
@[simp] theorem bnd_if {α β : Type} {c : Prop} [Decidable c] (a b : M α) (f : α → M β) : bnd (if c then a else b) f = if c then bnd a f else bnd b f := by split <;> rfl
@[simp] theorem bndS_if {α : Type} {c : Prop} [Decidable c] (a b : M α) (ρ : Rho) (f : α → MS) : bndS (if c then a else b) ρ f = if c then bndS a ρ f else bndS b ρ f := by split <;> rfl
theorem gVar_is {i : Nat} {ρ : Rho} {d : D} (e : ρ[i]? = some (.dat d)) : gVar i ρ = ret d := by
  unfold gVar
  rw [e]
@[simp] theorem gVar0 (d : D) (ρ : Rho) : gVar 0 (.dat d :: ρ) = ret d := rfl
@[simp] theorem gVarS (i : Nat) (s : Sl) (ρ : Rho) : gVar (i + 1) (s :: ρ) = gVar i ρ := by
  unfold gVar
  simp
/-! operations -/
@[simp] theorem tok_int (i : Int) : isTok (.int i) = false := rfl
@[simp] theorem tok_str (i : Str) : isTok (.str i) = false := rfl
@[simp] theorem tok_bool (i : Bool) : isTok (.bool i) = false := rfl
@[simp] theorem tok_none : isTok .none = false := rfl
@[simp] theorem tok_tuple (i : List D) : isTok (.tuple i) = false := rfl
@[simp] theorem tok_list (i : List D) : isTok (.list i) = false := rfl
@[simp] theorem o_add (a b : Int) : op2 fAdd (.int a) (.int b) = ret (.int (a + b)) := rfl
@[simp] theorem o_sub (a b : Int) : op2 fSub (.int a) (.int b) = ret (.int (a - b)) := rfl
@[simp] theorem o_lt (a b : Int) : op2 fLt (.int a) (.int b) = ret (.bool (decide (a < b))) := rfl
@[simp] theorem o_le (a b : Int) : op2 fLe (.int a) (.int b) = ret (.bool (decide (a ≤ b))) := rfl
@[simp] theorem o_gt (a b : Int) : op2 fGt (.int a) (.int b) = ret (.bool (decide (b < a))) := rfl
@[simp] theorem o_ge (a b : Int) : op2 fGe (.int a) (.int b) = ret (.bool (decide (b ≤ a))) := rfl
theorem o_mul {a b : Int} (h : small64 a = true ∨ small64 b = true) : op2 fMul (.int a) (.int b) = ret (.int (a * b)) := by
  have e : (small64 a || small64 b || decide (a.natAbs.log2 + b.natAbs.log2 < 1000000)) = true := by
    rcases h with h | h <;> simp [h]
  show lift (if (small64 a || small64 b || decide (a.natAbs.log2 + b.natAbs.log2 < 1000000)) = true then some (PyData.int (a * b)) else none) = _
  rw [if_pos e]
  rfl
theorem o_div {a b : Int} (h : 0 < b) (h2 : b.natAbs.log2 < 9000) : op2 fDiv (.int a) (.int b) = ret (.int (a / b)) := by
  show lift (if (decide (0 < b) && decide (b.natAbs.log2 < 9000)) = true then some (PyData.int (a / b)) else none) = _
  rw [if_pos (by simp [h, h2])]
  rfl
theorem o_mod {a b : Int} (h : 0 < b) : op2 fMod (.int a) (.int b) = ret (.int (a % b)) := by
  show lift (if decide (b ≠ 0) = true then some (PyData.int (a.fmod b)) else none) = _
  rw [if_pos (by simp; omega), Int.fmod_eq_emod_of_nonneg a (by omega)]
  rfl
theorem o_eqI (a b : Int) : op2 fEq (.int a) (.int b) = ret (.bool (a == b)) := by
  show lift (if SeqAt.shaped (PyData.int a) = true ∧ SeqAt.shaped (PyData.int b) = true then some (PyData.bool (PyData.eqv (.int a) (.int b))) else none) = _
  have s : ∀ i : Int, SeqAt.shaped (PyData.int i) = true := fun i => by simp [SeqAt.shaped, PyData.canLay0, PyData.depth]
  rw [if_pos ⟨s a, s b⟩]
  rfl
@[simp] theorem o_eqS (a b : Str) : op2 fEq (.str a) (.str b) = ret (.bool (a == b)) := rfl
@[simp] theorem o_neS (a b : Str) : op2 fNe (.str a) (.str b) = ret (.bool (!(a == b))) := rfl
theorem o_neI (a b : Int) : op2 fNe (.int a) (.int b) = ret (.bool (!(a == b))) := by
  show lift (if SeqAt.shaped (PyData.int a) = true ∧ SeqAt.shaped (PyData.int b) = true then some (PyData.bool (!PyData.eqv (.int a) (.int b))) else none) = _
  have s : ∀ i : Int, SeqAt.shaped (PyData.int i) = true := fun i => by simp [SeqAt.shaped, PyData.canLay0, PyData.depth]
  rw [if_pos ⟨s a, s b⟩]
  rfl
@[simp] theorem o_int (i : Int) : opA fInt [.int i] = ret (.int i) := rfl
@[simp] theorem o_tupL (ds : List D) : opA fTuple [.list ds] = ret (.tuple ds) := rfl
@[simp] theorem o_tupT (ds : List D) : opA fTuple [.tuple ds] = ret (.tuple ds) := rfl
@[simp] theorem o_lstL (ds : List D) : opA fList [.list ds] = ret (.list ds) := rfl
@[simp] theorem o_lstT (ds : List D) : opA fList [.tuple ds] = ret (.list ds) := rfl
@[simp] theorem o_lenL (ds : List D) : opA fLen [.list ds] = ret (.int ds.length) := rfl
@[simp] theorem o_lenT (ds : List D) : opA fLen [.tuple ds] = ret (.int ds.length) := rfl
@[simp] theorem o_gcd (a b : Int) : opA fGcd [.int a, .int b] = ret (.int ((Nat.gcd a.natAbs b.natAbs : Nat) : Int)) := rfl
theorem o_mkT {ds : List D} (h : ds.any isTok = false) (l : ds.length ≤ 1000000) : opA mkTup ds = ret (.tuple ds) := by
  unfold opA mkTup
  rw [h, if_pos l]
  rfl
theorem o_mkL {ds : List D} (h : ds.any isTok = false) (l : ds.length ≤ 1000000) : opA mkLst ds = ret (.list ds) := by
  unfold opA mkLst
  rw [h, if_pos l]
  rfl
theorem o_ixT {ds : List D} {i : Int} {d : D} (e : atI ds i = some d) : op2 fIx (.tuple ds) (.int i) = ret d := by
  show lift (atI ds i) = _
  rw [e]
  rfl
theorem o_ixL {ds : List D} {i : Int} {d : D} (e : atI ds i = some d) : op2 fIx (.list ds) (.int i) = ret d := by
  show lift (atI ds i) = _
  rw [e]
  rfl
theorem i_of {Ts : List String} {d : D} {b : Bool} (t : isTok d = false) (e : isiAny Ts d = some b) : gIsi Ts d = ret (.bool b) := by
  unfold gIsi
  rw [t, e]
  rfl
section
open PyData
@[simp] theorem i_int_int (i : Int) : gIsi ["int"] (.int i) = ret (.bool true) := i_of rfl (by simp [isiAny, kindD, kit_ii])
@[simp] theorem i_int_bool (i : Bool) : gIsi ["int"] (.bool i) = ret (.bool true) := i_of rfl (by simp [isiAny, kindD, kit_bi])
@[simp] theorem i_int_none : gIsi ["int"] .none = ret (.bool false) := i_of rfl (by simp [isiAny, kindD, kit_ni])
@[simp] theorem i_int_str (x : Str) : gIsi ["int"] (.str x) = ret (.bool false) := i_of rfl (by simp [isiAny, kindD, kit_si])
@[simp] theorem i_int_list (x : List D) : gIsi ["int"] (.list x) = ret (.bool false) := i_of rfl (by simp [isiAny, kindD, kit_li])
@[simp] theorem i_int_tuple (x : List D) : gIsi ["int"] (.tuple x) = ret (.bool false) := i_of rfl (by simp [isiAny, kindD, kit_ti])
@[simp] theorem i_bool_int (i : Int) : gIsi ["bool"] (.int i) = ret (.bool false) := i_of rfl (by simp [isiAny, kindD, kit_ib])
@[simp] theorem i_bool_bool (i : Bool) : gIsi ["bool"] (.bool i) = ret (.bool true) := i_of rfl (by simp [isiAny, kindD, kit_bb])
@[simp] theorem i_bool_none : gIsi ["bool"] .none = ret (.bool false) := i_of rfl (by simp [isiAny, kindD, kit_nb])
@[simp] theorem i_tup_int (i : Int) : gIsi ["tuple"] (.int i) = ret (.bool false) := i_of rfl (by simp [isiAny, kindD, kit_it])
@[simp] theorem i_tup_bool (i : Bool) : gIsi ["tuple"] (.bool i) = ret (.bool false) := i_of rfl (by simp [isiAny, kindD, kit_bt])
@[simp] theorem i_tup_none : gIsi ["tuple"] .none = ret (.bool false) := i_of rfl (by simp [isiAny, kindD, kit_nt])
@[simp] theorem i_tup_str (x : Str) : gIsi ["tuple"] (.str x) = ret (.bool false) := i_of rfl (by simp [isiAny, kindD, kit_st])
@[simp] theorem i_tup_list (x : List D) : gIsi ["tuple"] (.list x) = ret (.bool false) := i_of rfl (by simp [isiAny, kindD, kit_lt])
@[simp] theorem i_tup_tuple (x : List D) : gIsi ["tuple"] (.tuple x) = ret (.bool true) := i_of rfl (by simp [isiAny, kindD, kit_tt])
@[simp] theorem i_str_str (x : Str) : gIsi ["str"] (.str x) = ret (.bool true) := i_of rfl (by simp [isiAny, kindD, kit_ss])
@[simp] theorem i_str_int (x : Int) : gIsi ["str"] (.int x) = ret (.bool false) := i_of rfl (by simp [isiAny, kindD, kit_is])
@[simp] theorem i_str_tuple (x : List D) : gIsi ["str"] (.tuple x) = ret (.bool false) := i_of rfl (by simp [isiAny, kindD, kit_ts])
@[simp] theorem i_str_none : gIsi ["str"] .none = ret (.bool false) := i_of rfl (by simp [isiAny, kindD, kit_ns])
end
theorem m_plain {n : Nat} {d : D} (h : okP n d = true) : mPlain n [d] = ret (plainD d) := by
  unfold mPlain
  simp [h]
end L2.AR
set_option Elab.async false
set_option linter.all false
set_option maxRecDepth 100000
set_option maxHeartbeats 4000000
/-! Fw15: data that may be told apart and shown. -/
namespace L2.AR
open PySem PySem.Spec PyProof.Rows
def jI (i : Int) : Bool := decide (i.natAbs < 2 ^ 200)
def jS (x : Str) : Bool := PyData.strOk x && decide (x.length ≤ 100)
/-- plain data at most n deep, its numbers and texts small -/
def J : Nat → D → Bool
  | _, .none => true
  | _, .bool _ => true
  | _, .int i => jI i
  | _, .str x => jS x
  | n + 1, .list ds => ds.all (J n)
  | n + 1, .tuple ds => ds.all (J n)
  | _, _ => false
mutual
/-- no less than the text's length -/
def sz : D → Nat
  | .str _ => 1020
  | .list ds => szA ds + 10
  | .tuple ds => szA ds + 10
  | _ => 220
def szA : List D → Nat
  | [] => 0
  | d :: ds => sz d + 2 + szA ds
end
theorem textFrom_is : ∀ (ts : List Str) (k : Nat) (acc : Str), (textFrom k acc ts).length ≤ acc.length + (ts.map fun t => t.length + 2).sum
  | [], k, acc => by simp [textFrom]
  | t :: r, k, acc => by
    have ih := textFrom_is r (k + 1) (acc ++ (if k > 0 then ", " else "" : String) ++ t)
    have e : (acc ++ (if k > 0 then ", " else "" : String) ++ t).length ≤ acc.length + 2 + t.length := by
      rw [strLen_append, strLen_append]
      have : ((if k > 0 then ", " else "" : String) : Str).length ≤ 2 := by split <;> decide
      omega
    show (textFrom (k + 1) _ r).length ≤ _
    rw [List.map_cons, List.sum_cons]
    omega
theorem listText_le (ts : List Str) : (listText ts).length ≤ piled ts + 10 := by
  unfold listText piled
  rw [strLen_append]
  have h := textFrom_is ts 0 "["
  have e1 : (("[" : String) : Str).length = 1 := rfl
  have e2 : (("]" : String) : Str).length = 1 := rfl
  rw [e1] at h
  rw [e2]
  omega
theorem tupleText_le (ts : List Str) : (tupleText ts).length ≤ piled ts + 10 := by
  unfold tupleText
  rw [strLen_append, strLen_append]
  have e1 : ((("(" : String) : Str)).length = 1 := rfl
  have e3 : (((if ts.length == 1 then ",)" else ")" : String) : Str)).length ≤ 2 := by split <;> decide
  by_cases h : ts = []
  · subst h
    decide
  · have := join_length_add ts h
    omega
structure JIs (n : Nat) (d : D) : Prop where
  lay : d.canLay0 = true
  dp : d.depth ≤ n
  sh : d.showable = true
  len : d.shown.length ≤ sz d
structure JAll (n : Nat) (ds : List D) : Prop where
  lay : PyData.canLayAll0 ds = true
  dp : PyData.depthAll ds ≤ n
  sh : PyData.showableAll ds = true
  len : piled (PyData.shownAll ds) ≤ szA ds
theorem j_is : ∀ (n : Nat) (d : D), J n d = true → JIs n d := by
  intro n
  induction n with
  | zero =>
    intro d h
    cases d with
    | none => exact ⟨by simp [PyData.canLay0], by simp [PyData.depth], by simp [PyData.showable], by simp only [PyData.shown, sz]; decide⟩
    | bool b => exact ⟨by simp [PyData.canLay0], by simp [PyData.depth], by simp [PyData.showable], by cases b <;> simp only [PyData.shown, sz] <;> decide⟩
    | int i =>
      have h1 : i.natAbs < 2 ^ 200 := by simpa [J, jI] using h
      have l : i.natAbs.log2 < 200 := by
        by_cases z : i.natAbs = 0
        · rw [z]; decide
        · exact (Nat.log2_lt z).mpr h1
      refine ⟨by simp [PyData.canLay0], by simp [PyData.depth], by simp only [PyData.showable, decide_eq_true_eq]; omega, ?_⟩
      simp only [PyData.shown, sz]
      have e := int_text_length_le (k := 200) (by decide) l
      rw [PySem.ofString_length]
      omega
    | str x =>
      have h1 : PyData.strOk x = true ∧ x.length ≤ 100 := by simpa [J, jS] using h
      refine ⟨by simpa [PyData.canLay0] using h1.1, by simp [PyData.depth], by simp [PyData.showable], ?_⟩
      simp only [PyData.shown, sz]
      have e := StrLaws.reprText_len x (fun c m => by
        have q := h1.1
        unfold PyData.strOk at q
        rw [← Array.all_toList, List.all_eq_true] at q
        have := q c m
        simp at this
        omega)
      omega
    | list ds => simp [J] at h
    | tuple ds => simp [J] at h
    | dict kvs => simp [J] at h
  | succ n ih =>
    have all : ∀ ds : List D, ds.all (J n) = true → JAll n ds := by
      intro ds
      induction ds with
      | nil => exact fun _ => ⟨by simp [PyData.canLayAll0], by simp [PyData.depthAll], by simp [PyData.showableAll], by simp [PyData.shownAll, szA, piled]⟩
      | cons d ds ihd =>
        intro h
        rw [List.all_cons, Bool.and_eq_true] at h
        have a := ih d h.1
        have b := ihd h.2
        refine ⟨by simp [PyData.canLayAll0, a.lay, b.lay], ?_, by simp [PyData.showableAll, a.sh, b.sh], ?_⟩
        · have := a.dp
          have := b.dp
          simp only [PyData.depthAll]
          omega
        · have := a.len
          have := b.len
          simp only [PyData.shownAll, szA, piled_cons]
          omega
    intro d h
    cases d with
    | none => exact ⟨by simp [PyData.canLay0], by simp [PyData.depth], by simp [PyData.showable], by simp only [PyData.shown, sz]; decide⟩
    | bool b => exact ⟨by simp [PyData.canLay0], by simp [PyData.depth], by simp [PyData.showable], by cases b <;> simp only [PyData.shown, sz] <;> decide⟩
    | int i =>
      have h1 : i.natAbs < 2 ^ 200 := by simpa [J, jI] using h
      have l : i.natAbs.log2 < 200 := by
        by_cases z : i.natAbs = 0
        · rw [z]; decide
        · exact (Nat.log2_lt z).mpr h1
      refine ⟨by simp [PyData.canLay0], by simp [PyData.depth], by simp only [PyData.showable, decide_eq_true_eq]; omega, ?_⟩
      simp only [PyData.shown, sz]
      have e := int_text_length_le (k := 200) (by decide) l
      rw [PySem.ofString_length]
      omega
    | str x =>
      have h1 : PyData.strOk x = true ∧ x.length ≤ 100 := by simpa [J, jS] using h
      refine ⟨by simpa [PyData.canLay0] using h1.1, by simp [PyData.depth], by simp [PyData.showable], ?_⟩
      simp only [PyData.shown, sz]
      have e := StrLaws.reprText_len x (fun c m => by
        have q := h1.1
        unfold PyData.strOk at q
        rw [← Array.all_toList, List.all_eq_true] at q
        have := q c m
        simp at this
        omega)
      omega
    | list ds =>
      have a := all ds (by simpa [J] using h)
      refine ⟨by simpa [PyData.canLay0] using a.lay, ?_, by simpa [PyData.showable] using a.sh, ?_⟩
      · have := a.dp
        simp only [PyData.depth]
        omega
      · have := a.len
        have := listText_le (PyData.shownAll ds)
        simp only [PyData.shown, sz]
        omega
    | tuple ds =>
      have a := all ds (by simpa [J] using h)
      refine ⟨by simpa [PyData.canLay0] using a.lay, ?_, by simpa [PyData.showable] using a.sh, ?_⟩
      · have := a.dp
        simp only [PyData.depth]
        omega
      · have := a.len
        have := tupleText_le (PyData.shownAll ds)
        simp only [PyData.shown, sz]
        omega
    | dict kvs => simp [J] at h
theorem j_tok {n : Nat} {d : D} (h : J n d = true) : isTok d = false := by
  cases d with
  | dict kvs => cases n <;> simp [J] at h
  | _ => rfl
theorem j_shaped {n : Nat} {d : D} (h : J n d = true) (hn : n ≤ 40) : SeqAt.shaped d = true := by
  have a := j_is n d h
  unfold SeqAt.shaped
  rw [a.lay]
  have := a.dp
  simp
  omega
theorem j_eq {n : Nat} {d e : D} (h : J n d = true) (h' : J n e = true) (hn : n ≤ 40) : op2 fEq d e = ret (.bool (PyData.eqv d e)) := by
  have key : fEq d e = some (.bool (PyData.eqv d e)) := by
    unfold fEq fst2
    have eD : fEqD d e = some (.bool (PyData.eqv d e)) := by
      unfold fEqD
      rw [if_pos ⟨j_shaped h hn, j_shaped h' hn⟩]
    cases d <;> cases e <;> first | exact eD | (simp only [fEqS, Option.orElse, PyData.eqv])
  unfold op2
  rw [j_tok h, j_tok h', key]
  rfl
theorem j_ne {n : Nat} {d e : D} (h : J n d = true) (h' : J n e = true) (hn : n ≤ 40) : op2 fNe d e = ret (.bool (!PyData.eqv d e)) := by
  have key : fNe d e = some (.bool (!PyData.eqv d e)) := by
    unfold fNe fst2
    have eD : fNeD d e = some (.bool (!PyData.eqv d e)) := by
      unfold fNeD
      rw [if_pos ⟨j_shaped h hn, j_shaped h' hn⟩]
    cases d <;> cases e <;> first | exact eD | (simp only [fNeS, Option.orElse, PyData.eqv])
  unfold op2
  rw [j_tok h, j_tok h', key]
  rfl
theorem j_self {n : Nat} {d : D} (h : J n d = true) : PyData.eqv d d = true := SeqAt.eqv_refl d (j_is n d h).lay
theorem j_repr {n : Nat} {d : D} (h : J n d = true) (hn : n ≤ 40) (hz : sz d ≤ 16777216) : opA fRepr [d] = ret (.str d.shown) := by
  have a := j_is n d h
  have s : shows d = true := by
    unfold shows
    have := a.dp
    have := a.len
    rw [j_tok h, a.sh, PyData.hasDict_of_canLay d a.lay]
    simp
    omega
  have key : fRepr [d] = some (.str d.shown) := if_pos s
  unfold opA
  rw [key]
  simp [j_tok h]
end L2.AR
set_option Elab.async false
set_option linter.all false
set_option maxRecDepth 100000
set_option maxHeartbeats 4000000
/-! Fw16: reckoning: try, the caught error, comprehensions, drawing. -/
namespace L2.AR
open PySem PySem.Spec PyProof.Rows
def tryS (n : Nat) (hs : List Hnd) (o : HS → OutS) : HS → OutS := fun h =>
  match o h with
  | .err c d ρ' h' => if c < n ∧ ρ'.any isExc = false then clean (tryH hs c d ρ' h') else .stuck
  | o => o
def clS (o : HS → OutS) : HS → OutS := fun h => clean (o h)
def huS (o : HS → OutS) : HS → OutS := fun h => hush (o h)
def unS (i : Nat) (o : HS → OutS) : HS → OutS := fun h => unR i (o h)
@[simp] theorem x_try (n : Nat) (b : MS) (hs : List Hnd) (ρ : Rho) : sTry n b hs ρ = tryS n hs (b ρ) := rfl
@[simp] theorem try_ok (n : Nat) (hs : List Hnd) (f : Fl) (ρ : Rho) : tryS n hs (okS f ρ) = okS f ρ := rfl
@[simp] theorem try_err (n : Nat) (hs : List Hnd) (c : Nat) (d : D) (ρ : Rho) : tryS n hs (errS c d ρ) = if c < n ∧ ρ.any isExc = false then clS (tryH hs c d ρ) else stkS := by
  funext h
  show (if c < n ∧ ρ.any isExc = false then clean (tryH hs c d ρ h) else .stuck) = _
  split <;> rfl
@[simp] theorem clS_ok (f : Fl) (ρ : Rho) : clS (okS f ρ) = if ρ.any isExc = false then okS f ρ else stkS := by
  funext h
  show (if ρ.any isExc = false then OutS.ok f ρ h else .stuck) = _
  split <;> rfl
@[simp] theorem huS_ok (f : Fl) (ρ : Rho) : huS (okS f ρ) = okS f ρ := rfl
@[simp] theorem unS_ok (i : Nat) (f : Fl) (ρ : Rho) : unS i (okS f ρ) = okS f (ρ.set i .no) := rfl
@[simp] theorem tryH_some (t : Nat → Bool) (i : Nat) (s : MS) (r : List Hnd) (c : Nat) (d : D) (ρ : Rho) : tryH (⟨t, some i, s⟩ :: r) c d ρ = if t c = true then unS i (huS (s (ρ.set i (.exc c d)))) else tryH r c d ρ := by
  funext h
  simp only [tryH]
  split <;> rfl
@[simp] theorem tryH_none (t : Nat → Bool) (s : MS) (r : List Hnd) (c : Nat) (d : D) (ρ : Rho) : tryH (⟨t, none, s⟩ :: r) c d ρ = if t c = true then huS (s ρ) else tryH r c d ρ := by
  funext h
  simp only [tryH]
  split <;> rfl
@[simp] theorem exc_dat (d : D) : isExc (.dat d) = false := rfl
@[simp] theorem exc_no : isExc .no = false := rfl
@[simp] theorem exc_own (l : List D) : isExc (.own l) = false := rfl
@[simp] theorem gExc0 (cs : List Nat) (f : Nat → D → M D) (c : Nat) (d : D) (ρ : Rho) : gExc cs f 0 (.exc c d :: ρ) = if cs.contains c = true then f c d else stk := rfl
@[simp] theorem gExcS (cs : List Nat) (f : Nat → D → M D) (i : Nat) (s : Sl) (ρ : Rho) : gExc cs f (i + 1) (s :: ρ) = gExc cs f i ρ := by
  unfold gExc
  simp
@[simp] theorem x_comp (vs : List Nat) (gi : Rho → M D) (t : Tgt) (c : Rho → M Bool) (g : Rho → M D) (ρ : Rho) : gComp vs gi t c g ρ = bnd (gi ρ) fun d => orStk (fun ds => comp1 t c g (wipeR ρ vs) ds []) (itemsOf d) := rfl
@[simp] theorem orStk_some {α β : Type} (k : α → M β) (a : α) : orStk k (some a) = k a := rfl
@[simp] theorem comp_nil (t : Tgt) (c : Rho → M Bool) (g : Rho → M D) (ρ : Rho) (acc : List D) : comp1 t c g ρ [] acc = ret (.list acc) := rfl
@[simp] theorem comp_cons (i : Nat) (g : Rho → M D) (ρ : Rho) (d : D) (ds acc : List D) : comp1 (tgN i) tYs g ρ (d :: ds) acc = bnd (nerr (g (ρ.set i (.dat d)))) fun y => if isTok y = false ∧ acc.length < 1000000 then comp1 (tgN i) tYs g ρ ds (acc ++ [y]) else stk := rfl
@[simp] theorem o_addL (a b : List D) : op2 fAdd (.list a) (.list b) = if a.length + b.length ≤ 1000000 then ret (.list (a ++ b)) else stk := by
  show lift (if a.length + b.length ≤ 1000000 then some (PyData.list (a ++ b)) else none) = _
  split <;> rfl
/-! drawing -/
theorem draw_is (n : Int) (h0 : 0 < n) (h : HS) : ∃ r h', mDraw [tok, .int n] h = .ok (.int r) h' ∧ 0 ≤ r ∧ r < n := by
  have e : mDraw [tok, .int n] h = if n = 0 then .stuck else .ok (.int (if h.row.length ≤ h.pos then 0 else (h.row.getD h.pos 0).fmod n)) ⟨h.row, h.pos + 1⟩ := rfl
  rw [if_neg (by omega)] at e
  refine ⟨_, _, e, ?_, ?_⟩
  · split
    · omega
    · rw [Int.fmod_eq_emod_of_nonneg _ (by omega)]
      exact Int.emod_nonneg _ (by omega)
  · split
    · omega
    · rw [Int.fmod_eq_emod_of_nonneg _ (by omega)]
      exact Int.emod_lt_of_pos _ h0
theorem bnd_at {α β : Type} {x : M α} {f : α → M β} {h h' : HS} {a : α} (e : x h = .ok a h') : bnd x f h = f a h' := by
  unfold bnd
  rw [e]
theorem bndS_at {α : Type} {x : M α} {ρ : Rho} {k : α → MS} {h h' : HS} {a : α} (e : x h = .ok a h') : bndS x ρ k h = k a ρ h' := by
  unfold bndS
  rw [e]
theorem seqS_at {o : HS → OutS} {t : MS} {h h' : HS} {ρ : Rho} (e : o h = .ok .nx ρ h') : seqS o t h = t ρ h' := by
  unfold seqS
  rw [e]
end L2.AR
set_option Elab.async false
set_option linter.all false
set_option maxRecDepth 100000
set_option maxHeartbeats 4000000
/-! Fw17: a dict of whole numbers that a def makes and fills, its own. -/
namespace L2.AR
open PySem PySem.Spec PyProof.Rows
def getE (es : List (Int × D)) (k : Int) : Option D := (es.find? fun e => decide (e.1 = k)).map (·.2)
def putE (es : List (Int × D)) (k : Int) (d : D) : List (Int × D) :=
  if (es.any fun e => decide (e.1 = k)) = true then es.map (fun e => if e.1 = k then (e.1, d) else e) else es ++ [(k, d)]
section
variable {K : PySem.W.Frag} {F : Hp} {kvs : List (Key × V)} {es : List (Int × D)}
theorem inl_dec (a b : Int) : decide ((Sum.inl a : Key) = .inl b) = decide (a = b) := by
  by_cases h : a = b <;> simp [h]
theorem KvR.get (h : KvR K F kvs es) (k : Int) : match getE es k with
    | some d => ∃ v, valV kvs (.inl k) = some v ∧ Dq K F v d
    | none => valV kvs (.inl k) = none := by
  induction h with
  | nil => rfl
  | cons r rr ih =>
    rename_i k' v d kr er
    by_cases e : k' = k
    · subst e
      have e1 : getE ((k', d) :: er) k' = some d := by simp [getE]
      rw [e1]
      exact ⟨v, valV_pos rfl, r⟩
    · have e1 : getE ((k', d) :: er) k = getE er k := by simp [getE, List.find?_cons, e]
      have e2 : valV ((.inl k', v) :: kr) (.inl k) = valV kr (.inl k) := valV_neg (fun z => e (Sum.inl.inj z))
      rw [e1, e2]
      exact ih
theorem KvR.len (h : KvR K F kvs es) : kvs.length = es.length := by
  induction h with
  | nil => rfl
  | cons _ _ ih => simp [ih]
theorem KvR.any (h : KvR K F kvs es) (k : Int) : (kvs.any fun kv => decide (kv.1 = .inl k)) = es.any fun e => decide (e.1 = k) := by
  induction h with
  | nil => rfl
  | cons _ _ ih => rw [List.any_cons, List.any_cons, ih, inl_dec]
theorem KvR.map (h : KvR K F kvs es) (k : Int) {v : V} {d : D} (r : Dq K F v d) : KvR K F (kvs.map fun kv => if kv.1 = .inl k then (kv.1, v) else kv) (es.map fun e => if e.1 = k then (e.1, d) else e) := by
  induction h with
  | nil => exact .nil
  | cons r1 _ ih =>
    rename_i k' v' d' kr er _
    rw [List.map_cons, List.map_cons]
    by_cases e : k' = k
    · subst e
      rw [if_pos rfl, if_pos rfl]
      exact .cons r ih
    · rw [if_neg (fun z => e (Sum.inl.inj z)), if_neg e]
      exact .cons r1 ih
theorem KvR.snoc (h : KvR K F kvs es) (k : Int) {v : V} {d : D} (r : Dq K F v d) : KvR K F (kvs ++ [(.inl k, v)]) (es ++ [(k, d)]) := by
  induction h with
  | nil => exact .cons r .nil
  | cons r1 _ ih => exact .cons r1 ih
theorem KvR.put (h : KvR K F kvs es) (k : Int) {v : V} {d : D} (r : Dq K F v d) : KvR K F (putK kvs (.inl k) v) (putE es k d) := by
  unfold putK putE
  rw [h.any]
  split
  · exact h.map k r
  · exact h.snoc k r
theorem KvR.keys (h : KvR K F kvs es) : kvs.map (·.1) = (es.map (·.1)).map Sum.inl := by
  induction h with
  | nil => rfl
  | cons _ _ ih => simp [ih]
end
/-! what the statements and expressions say -/
def sNewD (i : Nat) : MS := fun ρ h => .ok .nx (ρ.set i (.owd [])) h
def sPutD (i : Nat) (gk gv : Rho → M D) : MS := sExp gv fun d ρ h =>
  match ρ[i]? with
  | some (.owd es) => sExp gk (fun k ρ h => match k with
    | .int n => if isTok d = false ∧ es.length < 1000000 then .ok .nx (ρ.set i (.owd (putE es n d))) h else .stuck
    | _ => .stuck) ρ h
  | _ => .stuck
def gInD (neg : Bool) (i : Nat) (gk : Rho → M D) : Rho → M D := fun ρ => bnd (gk ρ) fun k =>
  match ρ[i]?, k with
  | some (.owd es), .int n => ret (.bool (if neg then !(getE es n).isSome else (getE es n).isSome))
  | _, _ => stk
def gGetD (i : Nat) (gk : Rho → M D) : Rho → M D := fun ρ =>
  match ρ[i]? with
  | some (.owd es) => bnd (gk ρ) fun k => (match k with
    | .int n => (match getE es n with
      | some d => ret d
      | none => stk)
    | _ => stk)
  | _ => stk
def insI (x : Int) : List Int → List Int
  | [] => [x]
  | y :: r => if x ≤ y then x :: y :: r else y :: insI x r
def sortI : List Int → List Int
  | [] => []
  | x :: r => insI x (sortI r)
theorem insI_perm (x : Int) : ∀ l : List Int, (insI x l).Perm (x :: l)
  | [] => .refl _
  | y :: r => by
    unfold insI
    split
    · exact .refl _
    · exact ((insI_perm x r).cons y).trans (.swap x y r)
theorem sortI_perm : ∀ l : List Int, (sortI l).Perm l
  | [] => .refl _
  | x :: r => (insI_perm x _).trans ((sortI_perm r).cons x)
theorem insI_srt (x : Int) : ∀ l : List Int, l.Pairwise (· ≤ ·) → (insI x l).Pairwise (· ≤ ·)
  | [], _ => by simp [insI]
  | y :: r, h => by
    unfold insI
    split
    · rename_i c
      refine List.pairwise_cons.mpr ⟨fun z hz => ?_, h⟩
      rcases List.mem_cons.mp hz with rfl | hz
      · exact c
      · have := (List.pairwise_cons.mp h).1 z hz
        omega
    · rename_i c
      refine List.pairwise_cons.mpr ⟨fun z hz => ?_, insI_srt x r (List.pairwise_cons.mp h).2⟩
      rcases List.mem_cons.mp ((insI_perm x r).mem_iff.mp hz) with rfl | hz
      · omega
      · exact (List.pairwise_cons.mp h).1 z hz
theorem sortI_srt : ∀ l : List Int, (sortI l).Pairwise (· ≤ ·)
  | [] => .nil
  | x :: r => insI_srt x _ (sortI_srt r)
theorem srt_unique : ∀ {a b : List Int}, a.Perm b → a.Pairwise (· ≤ ·) → b.Pairwise (· ≤ ·) → a = b
  | [], b, p, _, _ => by rw [List.nil_perm.mp p]
  | x :: r, [], p, _, _ => by cases List.perm_nil.mp p
  | x :: r, y :: s, p, ha, hb => by
    have h1 : x ≤ y := by
      rcases List.mem_cons.mp (p.mem_iff.mpr (List.mem_cons_self (a := y))) with e | m
      · omega
      · exact (List.pairwise_cons.mp ha).1 y m
    have h2 : y ≤ x := by
      rcases List.mem_cons.mp (p.mem_iff.mp (List.mem_cons_self (a := x))) with e | m
      · omega
      · exact (List.pairwise_cons.mp hb).1 x m
    have e : x = y := by omega
    subst e
    rw [srt_unique (List.Perm.cons_inv p) (List.pairwise_cons.mp ha).2 (List.pairwise_cons.mp hb).2]
def gSortD (i : Nat) : Rho → M D := fun ρ =>
  match ρ[i]? with
  | some (.owd es) => if es.length < 64 then ret (.list ((sortI (es.map (·.1))).map .int)) else stk
  | _ => stk
/-! what keeps the relation -/
section
variable {G : Gh} {F H : Hp} {hs : HS} {ρ : Rho} {σ : St}
theorem Rel.freshD (R : Rel G F H hs ρ σ) {p : Addr} (np : H p = none) (i : Nat) : Rel G F (upd H p (.dK [])) hs (ρ.set i (.owd [])) (σ.set i (some (.ref p))) := by
  have R' := R.pstep (PStep.garb R.sub np (o := .dK []))
  have fp : F p = none := R.sub.free np
  have hp : G.ha ≠ some p := fun e => by
    obtain ⟨_, r, _, h2, _⟩ := R.hand p e
    rw [np] at h2; cases h2
  have h0 : G.H0 p = none := by
    cases q : G.H0 p with
    | none => rfl
    | some o =>
      have := R.base p o q hp
      rw [np] at this; cases this
  refine ⟨R'.sub, R'.hand, R'.base, R'.f0, R'.new0, by simpa using R.len, fun j s e => ?_, fun j k x y a hjk e1 e2 o1 o2 e3 => ?_⟩
  · rw [List.getElem?_set] at e ⊢
    by_cases hij : i = j
    · subst hij
      rw [if_pos rfl] at e ⊢
      split at e
      · rename_i hl
        cases e
        rw [if_pos (by rw [R.len]; exact hl)]
        exact ⟨p, [], rfl, upd_same, fp, h0, hp, .nil⟩
      · cases e
    · rw [if_neg hij] at e ⊢
      exact R'.slots j s e
  · have old : ∀ (j : Nat) (x : Sl) (a : Addr), ρ[j]? = some x → isOwn x = true → σ[j]? = some (some (.ref a)) → a ≠ p := by
      rintro j x a e o e' rfl
      obtain ⟨b, vs, eb, hb, _⟩ := (R.slots j _ e).at o
      rw [e'] at eb
      cases eb
      rw [np] at hb; cases hb
    rw [List.getElem?_set] at e1 e2 e3 ⊢
    by_cases hj : i = j
    · rw [if_pos hj] at e1 e3
      have hk : ¬ i = k := fun z => hjk (hj.symm.trans z)
      rw [if_neg hk] at e2 ⊢
      split at e3
      · cases e3
        exact fun z => old k y p e2 o2 z rfl
      · cases e3
    · rw [if_neg hj] at e1 e3
      by_cases hk : i = k
      · rw [if_pos hk] at e2 ⊢
        split
        · intro z
          cases z
          exact old j x _ e1 o1 e3 rfl
        · intro z; cases z
      · rw [if_neg hk] at e2 ⊢
        exact R.apart j k x y a hjk e1 e2 o1 o2 e3
/-- an own dict gets an entry -/
theorem Rel.putD (R : Rel G F H hs ρ σ) {i : Nat} {a : Addr} {xs : List (Int × D)} {kvs : List (Key × V)} {v : V} {d : D} {n : Int} (e : ρ[i]? = some (.owd xs)) (es : σ[i]? = some (some (.ref a))) (ha : H a = some (.dK kvs)) (r : Dq G.K F v d) :
    Rel G F (upd H a (.dK (putK kvs (.inl n) v))) hs (ρ.set i (.owd (putE xs n d))) σ := by
  obtain ⟨b, ws, eb, h1, h2, h3, h4, h5⟩ := R.slots i _ e
  rw [es] at eb
  cases eb
  rw [ha] at h1
  cases h1
  have ne : ∀ {b : Addr} {o : HO}, F b = some o → b ≠ a := fun z => ne_of_none z h2
  refine ⟨fun b o z => by rw [upd_ne (ne z)]; exact R.sub b o z, fun b z => ?_, fun b o z n => ?_, R.f0, R.new0, by simpa using R.len, fun j s z => ?_, fun j k x y c hjk z1 z2 o1 o2 z3 => ?_⟩
  · obtain ⟨q1, q, q2, q3, q4⟩ := R.hand b z
    have hb : b ≠ a := fun w => h4 (by rw [z, w])
    exact ⟨q1, q, q2, by rw [upd_ne hb]; exact q3, q4⟩
  · rw [upd_ne (ne_of_none z h3)]
    exact R.base b o z n
  · rw [List.getElem?_set] at z
    by_cases hij : i = j
    · subst hij
      rw [if_pos rfl] at z
      split at z
      · cases z
        exact ⟨a, _, es, upd_same, h2, h3, h4, h5.put n r⟩
      · cases z
    · rw [if_neg hij] at z
      have q := R.slots j s z
      cases s with
      | no => trivial
      | dat x => exact q
      | own xs =>
        obtain ⟨c, us, ec, g1, g2, g3, g4, g5⟩ := q
        have hc : c ≠ a := fun w => R.apart i j _ _ a hij e z rfl rfl es (by rw [ec, w])
        exact ⟨c, us, ec, by rw [upd_ne hc]; exact g1, g2, g3, g4, g5⟩
      | owd xs =>
        obtain ⟨c, us, ec, g1, g2, g3, g4, g5⟩ := q
        have hc : c ≠ a := fun w => R.apart i j _ _ a hij e z rfl rfl es (by rw [ec, w])
        exact ⟨c, us, ec, by rw [upd_ne hc]; exact g1, g2, g3, g4, g5⟩
      | exc x y =>
        obtain ⟨g1, g2, dx, u, g0, g3, g4, g5⟩ := q
        have hc : dx ≠ a := fun w => by rw [w, ha] at g3; cases g3
        exact ⟨g1, g2, dx, u, g0, by rw [upd_ne hc]; exact g3, g4, g5⟩
  · rw [List.getElem?_set] at z1 z2
    by_cases hj : i = j
    · subst hj
      rw [if_pos rfl] at z1
      rw [if_neg hjk] at z2
      exact R.apart i k _ y c hjk e z2 rfl o2 z3
    · rw [if_neg hj] at z1
      by_cases hk : i = k
      · subst hk
        intro w
        exact R.apart i j _ x c (fun q => hj q) e z1 rfl o1 w z3
      · rw [if_neg hk] at z2
        exact R.apart j k x y c hjk z1 z2 o1 o2 z3
end
end L2.AR
set_option Elab.async false
set_option linter.all false
set_option maxRecDepth 100000
set_option maxHeartbeats 4000000
/-! Fw18: rules for own dicts. -/
namespace L2.AR
open PySem PySem.Spec PyProof.Rows
section
variable {X : Cx} {G : Gh} {pos : Pos}
theorem p_newD (i : Nat) {x : Str} {pos' pos2 : Pos} (hN : X.N.Nodup) (hi : X.N[i]? = some x := by rfl) (hx : Loc X.env.scope x := by first | exact Or.inl rfl | exact Or.inr rfl)
    (hs : swapsWith (.Dict [] [] pos2) (some (.Name x pos')) pos.line X.env = pure false := by rfl) (hf : X.fn x = true ∨ X.env.scope.names.lookup x = some .local := by first | exact .inl rfl | exact .inr rfl | assumption) :
    PS X (.Assign [.Name x pos'] (.Dict [] [] pos2) pos) (tS G (sNewD i)) := by
  refine psI (ps_set hN hi hx pe_dnewK hs hf) ?_
  rintro E σ H ⟨F, hs, ρ, R, p⟩
  exact fun a na => p F _ _ (Same.refl F) (R.freshD na i)
theorem int_val {K : PySem.W.Frag} {F : Hp} {ha : Option Addr} {v : V} {n : Int} (r : Rp K F ha v (.int n)) : v = .int n := by
  cases r.dp rfl
  rfl
theorem p_putD (i : Nat) {o k e : Expr} {gk gv : Rho → M D} {pos' : Pos} (hu : X.A.units + 1 < cLine) (ho : PE X o (tVar i)) (hk : PE X k (tE G gk)) (hv : PE X e (tE G gv)) (hs : swapsWith e (some (.Subscript o k pos')) pos.line X.env = pure false := by rfl) :
    PS X (.Assign [.Subscript o k pos'] e pos) (tS G (sPutD i gk gv)) := by
  refine psI (ps_dput hu ho hk hv hs) fun E σ H q => ?_
  refine (exp_then (rel := relE G) q).mono ?_
  rintro v H1 ⟨F, hs, ρ, d, R, r, p⟩
  cases e : ρ[i]? with
  | none => rw [e] at p; exact p.elim
  | some s =>
    cases s with
    | owd es =>
      rw [e] at p
      obtain ⟨a, kvs, ea, h1, h2, h3, h4, h5⟩ := R.slots i _ e
      refine ⟨.ref a, ea, ?_⟩
      simp only at p
      unfold sExp at p
      refine ⟨F, hs, ρ, R, ?_⟩
      cases z : gk ρ hs with
      | ok y hs' =>
        rw [z] at p
        intro F' H' u s hh ru
        have R' := R.step s hh
        cases y with
        | int n =>
          simp only at p
          by_cases c : isTok d = false ∧ es.length < 1000000
          · rw [if_pos c] at p
            obtain ⟨a', kvs', ea', g1, g2, g3, g4, g5⟩ := R'.slots i _ e
            rw [ea] at ea'
            cases ea'
            cases int_val ru
            refine ⟨a, _, rfl, DPut.k (k := .inl n) g1 (by rw [g5.len]; exact line_of (Nat.le_of_lt c.2)), ?_⟩
            exact p _ _ _ s.ff (R'.putD e ea g1 ((r.same s.ff).dp c.1))
          · rw [if_neg c] at p
            exact p.elim
        | _ => exact p.elim
      | err c x hs' =>
        rw [z] at p
        exact fun F' H' dx u s h hx hn dp => p F' H' σ dx u s.ff (R.step s h) hx hn dp
      | stuck => rw [z] at p; exact p.elim
    | _ => rw [e] at p; exact p.elim
theorem inD_imp {neg : Bool} {i : Nat} {gk : Rho → M D} {σ : St} {H : Hp} {Q : VK} (h : tE G (gInD neg i gk) σ H Q) :
    tE G gk σ H fun y H1 => tVar i σ H1 fun x H2 => ∃ a o, x = .ref a ∧ DGet H2 a y o ∧ Q (.bl (if neg then !o.isSome else o.isSome)) H2 := by
  obtain ⟨F, hs, ρ, R, p⟩ := h
  refine (rd_bind (rel := relE G) R p).mono ?_
  rintro v H1 ⟨F1, hs1, k, R1, s1, r1, p1⟩
  cases e : ρ[i]? with
  | none => rw [e] at p1; exact p1.elim
  | some s =>
    cases s with
    | owd es =>
      rw [e] at p1
      cases k with
      | int n =>
        simp only at p1
        obtain ⟨a, kvs, ea, h1, h2, h3, h4, h5⟩ := R1.slots i _ e
        cases int_val r1
        refine ⟨.ref a, ea, a, _, rfl, DGet.k (k := .inl n) h1, ?_⟩
        have g := h5.get n
        cases w : getE es n with
        | none =>
          rw [w] at g p1
          rw [g]
          exact post_ret R1 p1 (.inl (.bl _))
        | some d =>
          rw [w] at g p1
          obtain ⟨u, eu, _⟩ := g
          rw [eu]
          exact post_ret R1 p1 (.inl (.bl _))
      | _ => exact p1.elim
    | _ => rw [e] at p1; exact p1.elim
theorem T_inD {i : Nat} {k o : Expr} {gk : Rho → M D} (hu : X.A.units + 1 < cLine) (hk : PE X k (tE G gk)) (ho : PE X o (tVar i)) (hm : behindInMarks .In o = false := by first | exact nomark _ | rfl) : PT X (.Compare k [.In] [o] pos) (tT G (tV (gInD false i gk))) :=
  ptI (pt_cmp (pc_din hu hk ho) hm) fun σ H Q h => inD_imp (tV_imp h)
theorem T_ninD {i : Nat} {k o : Expr} {gk : Rho → M D} (hu : X.A.units + 1 < cLine) (hk : PE X k (tE G gk)) (ho : PE X o (tVar i)) (hm : behindInMarks .NotIn o = false := by first | exact nomark _ | rfl) : PT X (.Compare k [.NotIn] [o] pos) (tT G (tV (gInD true i gk))) :=
  ptI (pt_cmp (pc_dnotin hu hk ho) hm) fun σ H Q h => inD_imp (tV_imp h)
theorem e_getD {i : Nat} {k o : Expr} {gk : Rho → M D} (hu : X.A.units + 1 < cLine) (ho : PE X o (tVar i)) (hk : PE X k (tE G gk)) (hs : NoSl k := by intro _ _; rfl) : PE X (.Subscript o k pos) (tE G (gGetD i gk)) := by
  refine peI (pe_dget hu ho hk hs) ?_
  rintro σ H Q ⟨F, hs, ρ, R, p⟩
  unfold gGetD at p
  cases e : ρ[i]? with
  | none => rw [e] at p; exact p.elim
  | some s =>
    cases s with
    | owd es =>
      rw [e] at p
      simp only at p
      obtain ⟨a, kvs, ea, h1, h2, h3, h4, h5⟩ := R.slots i _ e
      refine ⟨.ref a, ea, ?_⟩
      refine (rd_bind (rel := relE G) R p).mono ?_
      rintro v H1 ⟨F1, hs1, y, R1, s1, r1, p1⟩
      cases y with
      | int n =>
        simp only at p1
        obtain ⟨a', kvs', ea', g1, g2, g3, g4, g5⟩ := R1.slots i _ e
        rw [ea] at ea'
        cases ea'
        cases int_val r1
        have g := g5.get n
        cases w : getE es n with
        | none => rw [w] at p1; exact p1.elim
        | some d =>
          rw [w] at g p1
          obtain ⟨u, eu, ru⟩ := g
          refine ⟨a, u, rfl, ?_, post_ret R1 p1 (.inl ru)⟩
          rw [← eu]
          exact DGet.k (k := .inl n) g1
      | _ => exact p1.elim
    | _ => rw [e] at p; exact p.elim
def rSortD : List V → Hp → VK → Prop := fun xs H Q => ∃ (a : Addr) (kvs : List (Key × V)) (ks : List Int), xs = [.ref a] ∧ Rd H a (.dK kvs) ∧ kvs.map (·.1) = ks.map Sum.inl ∧ ks.length < 64 ∧
    ∀ (ys : List Int) (p : Addr), ys.Perm ks → ys.Pairwise (· ≤ ·) → H p = none → Q (.ref p) (upd H p (.lst (ys.map V.int)))
theorem ints_dq {K : PySem.W.Frag} {F : Hp} : ∀ ns : List Int, DqAll K F (ns.map V.int) (ns.map PyData.int)
  | [] => .nil
  | n :: r => .cons (.int n) (ints_dq r)
theorem e_sortD {i : Nat} {e : Expr} (h : PE X e (tCB rSortD (tCons (tVar i) tNil))) : PE X e (tE G (gSortD i)) := by
  refine peI h ?_
  rintro σ H Q ⟨F, hs, ρ, R, p⟩
  unfold gSortD at p
  cases e : ρ[i]? with
  | none => rw [e] at p; exact p.elim
  | some s =>
    cases s with
    | owd es =>
      rw [e] at p
      simp only at p
      obtain ⟨a, kvs, ea, h1, h2, h3, h4, h5⟩ := R.slots i _ e
      by_cases c : es.length < 64
      · rw [if_pos c] at p
        refine ⟨.ref a, ea, a, kvs, es.map (·.1), rfl, .inl h1, h5.keys, by simpa using c, fun ys q pm sr nq => ?_⟩
        have ey : ys = sortI (es.map (·.1)) := srt_unique (pm.trans (sortI_perm _).symm) sr (sortI_srt _)
        subst ey
        exact post_ret' R p (PStep.alloc R.sub nq) (.inl (.lst upd_same (ints_dq _)))
      · rw [if_neg c] at p
        exact p.elim
    | _ => rw [e] at p; exact p.elim
end
end L2.AR
set_option Elab.async false
set_option linter.all false
set_option maxRecDepth 100000
set_option maxHeartbeats 4000000
/-! Fw19: range with a step. -/
namespace L2.AR
open PySem PySem.Spec PyProof.Rows
/-- lo, lo + c, .. -/
def stepTo (lo c : Int) (n : Nat) : List D := (List.range n).map fun (k : Nat) => .int (lo + (k : Int) * c)
def rangeOf3 : List D → Option (List D)
  | [.int i, .int j, .int c] => if c ≠ 0 ∧ c.natAbs < 1073741824 ∧ Builtin.Range.small i j c = true ∧ 0 ≤ Builtin.Range.rangeSize i j c then some (stepTo i c (Builtin.Range.rangeSize i j c).toNat) else none
  | _ => none
def sForR3 (gs : Rho → M (List D)) (t : Tgt) (body : MS) : MS := sExp gs fun ds => orStuck (loopL t body) (rangeOf3 ds)
def gCompR3 (vs : List Nat) (gi : Rho → M (List D)) (t : Tgt) (c : Rho → M Bool) (g : Rho → M D) (ρ : Rho) : M D := bnd (gi ρ) fun d => orStk (fun ds => comp1 t c g (wipeR ρ vs) ds []) (rangeOf3 d)
@[simp] theorem x_forR3 (g : Rho → M (List D)) (t : Tgt) (b : MS) (ρ : Rho) : sForR3 g t b ρ = bndS (g ρ) ρ fun d => orStuck (loopL t b) (rangeOf3 d) := rfl
@[simp] theorem x_comp3 (vs : List Nat) (gi : Rho → M (List D)) (t : Tgt) (c : Rho → M Bool) (g : Rho → M D) (ρ : Rho) : gCompR3 vs gi t c g ρ = bnd (gi ρ) fun d => orStk (fun ds => comp1 t c g (wipeR ρ vs) ds []) (rangeOf3 d) := rfl
@[simp] theorem x_compR (vs : List Nat) (gi : Rho → M (List D)) (t : Tgt) (c : Rho → M Bool) (g : Rho → M D) (ρ : Rho) : gCompR vs gi t c g ρ = bnd (gi ρ) fun d => orStk (fun ds => comp1 t c g (wipeR ρ vs) ds []) (rangeOf d) := rfl
theorem src_rangeC {K : PySem.W.Frag} {F : Hp} (lo c : Int) (n : Nat) : Src K (Itc lo c n) (stepTo lo c n) F := by
  refine ⟨fun F' H _ _ => ?_, fun F' H i d _ _ e => ?_⟩
  · show n ≤ (stepTo lo c n).length
    simp [stepTo]
  · unfold stepTo at e
    rw [List.getElem?_map] at e
    by_cases hi : i < n
    · rw [List.getElem?_eq_getElem (by simpa using hi)] at e
      simp only [List.getElem_range, Option.map_some, Option.some.injEq] at e
      subst e
      refine ⟨hi, fun x H' y => ?_⟩
      obtain ⟨rfl, rfl⟩ := y
      exact ⟨rfl, .int _⟩
    · rw [List.getElem?_eq_none (by simpa using hi)] at e
      cases e
section
variable {X : Cx} {G : Gh} {pos : Pos}
theorem rng3_of {gs : Rho → M (List D)} {σ : St} {F H : Hp} {hs : HS} {ρ : Rho} {R : It → Hp → Prop} (r : Rel G F H hs ρ σ)
    (q : match gs ρ hs with
      | .ok as h' => ∃ ds, rangeOf3 as = some ds ∧ ∀ F' H' lo c n, Step G.ha F H F' H' → HandOK G.ha F' H' h' → ds = stepTo lo c n → R (Itc lo c n) H'
      | .err c d h' => ∀ F' H' dx v, Step G.ha F H F' H' → HandOK G.ha F' H' h' → H' dx = some (.xd [(G.fld c, v)]) → G.ha ≠ some dx → Dq G.K F' v d → G.W (.ref (G.cl c)) (some dx) σ H'
      | .stuck => False) : iRng3 (tA G gs) σ H R := by
  refine ⟨F, hs, ρ, r, ?_⟩
  cases z : gs ρ hs with
  | ok as h' =>
    rw [z] at q
    obtain ⟨ds, e, q⟩ := q
    have key : ∃ i j c : Int, as = [.int i, .int j, .int c] := by
      unfold rangeOf3 at e
      split at e
      · exact ⟨_, _, _, rfl⟩
      · cases e
    obtain ⟨i, j, c, rfl⟩ := key
    have e : (if c ≠ 0 ∧ c.natAbs < 1073741824 ∧ Builtin.Range.small i j c = true ∧ 0 ≤ Builtin.Range.rangeSize i j c then some (stepTo i c (Builtin.Range.rangeSize i j c).toNat) else none) = some ds := e
    by_cases hb : c ≠ 0 ∧ c.natAbs < 1073741824 ∧ Builtin.Range.small i j c = true ∧ 0 ≤ Builtin.Range.rangeSize i j c
    · rw [if_pos hb] at e
      cases e
      intro F' H' v s hh rv
      cases rv with
      | cons r1 r2 =>
        cases r2 with
        | cons r2 r3 =>
          cases r3 with
          | cons r3 r4 =>
            cases r4
            cases r1.dp rfl
            cases r2.dp rfl
            cases r3.dp rfl
            exact ⟨i, j, c, _, rfl, ⟨hb.1, hb.2.1, hb.2.2.1, (Int.toNat_of_nonneg hb.2.2.2).symm⟩, q F' H' i c _ s hh rfl⟩
    · rw [if_neg hb] at e
      cases e
  | err c d h' => rw [z] at q; exact q
  | stuck => rw [z] at q; exact q.elim
theorem p_forR3 {tg iter : Expr} {body : List Stmt} {gs : Rho → M (List D)} {gt : TG} {t : Tgt} {s : MS} (vs : List Nat) (ht : GOk G vs gt t)
    (h : PS X (.For tg iter body [] pos) (tFor (iRng3 (tA G gs)) gt (tS G s))) : PS X (.For tg iter body [] pos) (tS G (sForR3 gs t s)) := by
  refine psI h ?_
  rintro E σ H ⟨F, hs, ρ, R, p⟩
  refine rng3_of R ?_
  unfold sForR3 sExp at p
  cases z : gs ρ hs with
  | ok as h' =>
    rw [z] at p
    simp only at p
    cases w : rangeOf3 as with
    | none => rw [w] at p; exact p.elim
    | some ds =>
      rw [w] at p
      refine ⟨ds, w, fun F' H' lo c n st hh e => ?_⟩
      subst e
      exact for_inv ht (R.step st hh) (src_rangeC lo c n) (postS.after st.ff p)
  | err c d h' =>
    rw [z] at p
    exact fun F' H' dx v s h hx hn dp => p F' H' σ dx v s.ff (R.step s h) hx hn dp
  | stuck => rw [z] at p; exact p.elim
theorem comp_rng3 {gi : Rho → M (List D)} {gt : TG} {t : Tgt} {vs : List Nat} {c : Rho → M Bool} {g : Rho → M D} {σ : St} {H : Hp} {Q : VK} (ht : GOk G vs gt t) (h : tE G (gCompR3 vs gi t c g) σ H Q) : tLc (iRng3 (tA G gi)) gt (tT G.mute c) (tE G.mute g) vs σ H Q := by
  obtain ⟨F, hs, ρ, R, p⟩ := h
  refine rng3_of R ?_
  unfold gCompR3 bnd at p
  cases z : gi ρ hs with
  | ok as h' =>
    rw [z] at p
    simp only at p
    cases w : rangeOf3 as with
    | none => rw [w] at p; exact p.elim
    | some ds =>
      rw [w] at p
      refine ⟨ds, w, fun F' H' lo c n st hh e Dd nD => ?_⟩
      subst e
      exact comp_inv ht (R.step st hh) (src_rangeC lo c n) nD (p.after st)
  | err c d h' => rw [z] at p; exact p
  | stuck => rw [z] at p; exact p.elim
theorem e_lcR3 {e : Expr} {gi : Rho → M (List D)} {gt : TG} {t : Tgt} {vs : List Nat} {c : Rho → M Bool} {g : Rho → M D} (ht : GOk G vs gt t) (h : PE X e (tLc (iRng3 (tA G gi)) gt (tT G.mute c) (tE G.mute g) vs)) : PE X e (tE G (gCompR3 vs gi t c g)) := peI h fun _ _ _ q => comp_rng3 ht q
end
end L2.AR
set_option Elab.async false
set_option linter.all false
set_option maxRecDepth 100000
set_option maxHeartbeats 4000000
/-! Fw20: min, max, sum of a list of whole numbers; sorted of whole numbers. -/
namespace L2.AR
open PySem PySem.Spec PyProof.Rows
variable {K : PySem.W.Frag}
def intsOf : List D → Option (List Int)
  | [] => some []
  | .int b :: ds => (intsOf ds).map (b :: ·)
  | _ => none
theorem intsOf_vals {F : Hp} : ∀ {vs : List V} {ds : List D} {bs : List Int}, DqAll K F vs ds → intsOf ds = some bs → vs = bs.map V.int
  | _, _, bs, .nil, e => by cases e; rfl
  | _, _, bs, .cons (d := d) (ds := ds) r t, e => by
    cases d with
    | int b =>
      cases r
      have e' : (intsOf ds).map (b :: ·) = some bs := e
      cases c : intsOf ds with
      | none => rw [c] at e'; cases e'
      | some cs =>
        rw [c] at e'
        cases e'
        rw [intsOf_vals t c]
        rfl
    | _ => cases e
theorem intsOf_map : ∀ ns : List Int, intsOf (ns.map PyData.int) = some ns
  | [] => rfl
  | n :: r => by
    show (intsOf (r.map PyData.int)).map (n :: ·) = _
    rw [intsOf_map r]
    rfl
def minI : List Int → Int
  | [] => 0
  | [x] => x
  | x :: y :: r => if x ≤ minI (y :: r) then x else minI (y :: r)
theorem minI_mem : ∀ {l : List Int}, l ≠ [] → minI l ∈ l ∧ ∀ y ∈ l, minI l ≤ y
  | [], h => absurd rfl h
  | [x], _ => by simp [minI]
  | x :: y :: r, _ => by
    have ih := minI_mem (l := y :: r) (by simp)
    unfold minI
    split
    · rename_i c
      exact ⟨List.mem_cons_self .., fun z hz => by
        rcases List.mem_cons.mp hz with rfl | hz
        · omega
        · have := ih.2 z hz
          omega⟩
    · rename_i c
      exact ⟨List.mem_cons_of_mem _ ih.1, fun z hz => by
        rcases List.mem_cons.mp hz with rfl | hz
        · omega
        · exact ih.2 z hz⟩
def fMinL : List D → Option D
  | [.list ds] => (intsOf ds).bind fun ns => if ns = [] then none else some (.int (minI ns))
  | _ => none
theorem minL_ok : RAok K (rMin K) fMinL := by
  intro F H vs ds z Q s h e q
  unfold fMinL at e
  split at e
  · rename_i xs
    obtain ⟨v, rfl, r⟩ := one_val h
    cases c : intsOf xs with
    | none => rw [c] at e; cases e
    | some bs =>
      rw [c] at e
      have e : (if bs = [] then none else some (PyData.int (minI bs))) = some z := e
      by_cases hb : bs = []
      · rw [if_pos hb] at e; cases e
      · rw [if_neg hb] at e
        cases e
        cases r with
        | lst h1 h2 =>
          have ev := intsOf_vals h2 c
          have mm := minI_mem hb
          refine ⟨_, bs, rfl, ?_, List.length_pos_iff.mpr hb, fun m hm hle => ?_⟩
          · rw [← ev]
            exact SqL.of (s _ _ h1)
          · have : m = minI bs := by
              have h1 := hle _ mm.1
              have h2 := mm.2 _ hm
              omega
            subst this
            exact q _ _ _ (PStep.refl s) (.int _)
  · cases e
def fSumL : List D → Option D
  | [.list ds] => (intsOf ds).map fun ns => .int ns.sum
  | _ => none
theorem sumL_ok : RAok K (rSum K) fSumL := by
  intro F H vs ds z Q s h e q
  unfold fSumL at e
  split at e
  · rename_i xs
    obtain ⟨v, rfl, r⟩ := one_val h
    cases c : intsOf xs with
    | none => rw [c] at e; cases e
    | some bs =>
      rw [c] at e
      cases e
      cases r with
      | lst h1 h2 =>
        have ev := intsOf_vals h2 c
        refine ⟨_, bs, rfl, ?_, q _ _ _ (PStep.refl s) (.int _)⟩
        rw [← ev]
        exact SqL.of (s _ _ h1)
  · cases e
def fSortL : List D → Option D
  | [.list ds] => (intsOf ds).map fun ns => .list ((sortI ns).map .int)
  | _ => none
end L2.AR
set_option Elab.async false
set_option linter.all false
set_option maxRecDepth 100000
set_option maxHeartbeats 4000000
/-! Fw21: sorted of tuples of whole numbers, all of one length. -/
namespace SrtO
open PySem PySem.Spec PyProof.Rows L2
theorem lexLt_asym : ∀ {a b : List Int}, HT.lexLt a b = true → HT.lexLt b a = false
  | [], [], h => by cases h
  | [], _ :: _, _ => rfl
  | _ :: _, [], h => by cases h
  | x :: a, y :: b, h => by
    rw [HT.lexLt_cons] at h ⊢
    by_cases e : x = y
    · subst e
      rw [if_pos rfl] at h ⊢
      exact lexLt_asym h
    · rw [if_neg e] at h
      rw [if_neg (fun z => e z.symm)]
      have := of_decide_eq_true h
      exact decide_eq_false (by omega)
theorem lexLt_total : ∀ {a b : List Int}, HT.lexLt a b = false → HT.lexLt b a = false → a = b
  | [], [], _, _ => rfl
  | [], _ :: _, h, _ => by cases h
  | _ :: _, [], _, h => by cases h
  | x :: a, y :: b, h, h2 => by
    rw [HT.lexLt_cons] at h h2
    by_cases e : x = y
    · subst e
      rw [if_pos rfl] at h h2
      rw [lexLt_total h h2]
    · rw [if_neg e] at h
      rw [if_neg (fun z => e z.symm)] at h2
      have := of_decide_eq_false h
      have := of_decide_eq_false h2
      omega
theorem lexLt_tr : ∀ {a b c : List Int}, HT.lexLt b a = false → HT.lexLt c b = false → HT.lexLt c a = false
  | [], b, [], _, _ => rfl
  | [], b, _ :: _, _, _ => rfl
  | x :: a, [], c, h, _ => by cases h
  | x :: a, y :: b, [], _, h => by cases h
  | x :: a, y :: b, z :: c, h1, h2 => by
    rw [HT.lexLt_cons] at h1 h2 ⊢
    by_cases e : y = x
    · subst e
      rw [if_pos rfl] at h1
      by_cases e2 : z = y
      · subst e2
        rw [if_pos rfl] at h2 ⊢
        exact lexLt_tr h1 h2
      · rw [if_neg e2] at h2 ⊢
        exact h2
    · rw [if_neg e] at h1
      have := of_decide_eq_false h1
      by_cases e2 : z = y
      · subst e2
        rw [if_neg e]
        exact h1
      · rw [if_neg e2] at h2
        have := of_decide_eq_false h2
        rw [if_neg (by omega)]
        exact decide_eq_false (by omega)
theorem swo_lexL (k : α → List Int) : Swo fun v u => HT.lexLt (k v) (k u) := ⟨fun _ _ h => lexLt_asym h, fun _ _ _ h1 h2 => lexLt_tr h1 h2⟩
section
variable {prog : Program} {w : World} {A : Around} {s : Shared} {Q : Bool → Shared → Prop}
theorem oneI (c : Bool) {p q : Int} {t u : Tok} (h : Q (decide (p < q)) s) : wpAny (model prog w) A (oneLt' c (.int p t) (.int q u)) Q (fun _ _ => False) s := by
  cases c with
  | true => exact oneLt_int h
  | false => exact PySem.W.kat_one _ _ (PyProof.Rows.lt_int (Q := PySem.W.BoolBack Q) h)
end
/-- a tuple of whole numbers -/
def IsTupI (h : Heap) (v : Value) (ns : List Int) : Prop := ∃ (a : Addr) (o : Obj) (xs : Array Value) (n : Nat), v = .ref a ∧ h.get? a = some o ∧ o.cls = .type "tuple" ∧ o.data = .seq xs n ∧ IntsAre xs.toList ns
theorem IsTupI.keeps {h h' : Heap} {v : Value} {ns : List Int} (p : IsTupI h v ns) (k : ∀ b o, h.get? b = some o → o.cls = .type "tuple" → h'.get? b = some o) : IsTupI h' v ns := by
  obtain ⟨a, o, xs, n, e, ho, hc, hd, i⟩ := p
  exact ⟨a, o, xs, n, e, k _ _ ho hc, hc, hd, i⟩
section
variable {prog : Program} {w : World} {A : Around} {E : Value → Shared → Prop} {s : Shared} {Q : Bool → Shared → Prop}
theorem lexI {b : Bool} {xs ys : List Value} {ns ms : List Int} (i : Nat) (hx : IntsAre xs ns) (hy : IntsAre ys ms) (hl : ns.length = ms.length)
    (h : Q (HT.lexLt ns ms) s) : PySem.W.KatLex prog w A b false Q (xs.zip ys) i s := by
  induction hx generalizing ys ms i with
  | nil =>
    cases hy with
    | nil => exact PySem.W.kat_nil h
    | cons q u hy => simp at hl
  | @cons p t xs ns hx ih =>
    cases hy with
    | nil => simp at hl
    | @cons q u ys ms hy =>
      have hl' : ns.length = ms.length := by simpa using hl
      show PySem.W.KatLex prog w A b false Q ((Value.int p t, Value.int q u) :: xs.zip ys) i s
      refine PySem.W.kat_cons (wpAny_eqBool_int ?_)
      rw [HT.lexLt_cons] at h
      by_cases e : p = q
      · subst e
        rw [beq_self_eq_true]
        rw [if_pos rfl] at h
        refine PySem.W.kat_yes ?_
        exact ih (i + 1) hy hl' h
      · rw [show (p == q) = false from beq_eq_false_iff_ne.mpr e]
        rw [if_neg e] at h
        exact PySem.W.kat_no (oneI _ h)
theorem cmpI {vs : List Value} {k : Value → List Int} {d : Nat} (hp : ∀ v ∈ vs, IsTupI s.heap v (k v) ∧ (k v).length = d) : Cmp prog w A s (tuples' true) (fun p => p.1 ∈ vs) (lt2 fun v u => HT.lexLt (k v) (k u)) := by
  intro p q hm hm'
  have h1 := hp _ hm
  have h2 := hp _ hm'
  show wpAny (model prog w) A (keyLt' (tuples' true) p.1 q.1) (fun r s' => s' = s ∧ r = HT.lexLt (k p.1) (k q.1)) (fun _ _ => False) s
  obtain ⟨⟨a, o, xs, n, e, ho, hc, hd, i⟩, l1⟩ := h1
  obtain ⟨⟨a', o', xs', n', e', ho', hc', hd', i'⟩, l2⟩ := h2
  rw [e, e']
  refine PySem.W.kat_lt ho hd ho' hd' ?_
  have le : xs.size = xs'.size := by
    have a1 := i.length
    have a2 := i'.length
    rw [Array.length_toList] at a1 a2
    omega
  have f : decide (xs.size < xs'.size) = false := decide_eq_false (by omega)
  rw [f, ← e, ← e']
  exact lexI 0 i i' (by omega) ⟨rfl, rfl⟩
theorem firstsI {h : Heap} {k : Value → List Int} : ∀ {vs : List Value}, (∀ v ∈ vs, IsTupI h v (k v) ∧ 0 < (k v).length) → ∃ fs : List Value, PySem.W.KatTups h vs fs ∧ fs.length = vs.length ∧ ∀ f ∈ fs, ∃ x t, f = Value.int x t
  | [], _ => ⟨[], PySem.W.KatTups.nil, rfl, fun _ hm => by simp at hm⟩
  | v :: vs, hp => by
    obtain ⟨fs, h1, h2, h3⟩ := firstsI (vs := vs) fun v' hm => hp v' (List.mem_cons_of_mem _ hm)
    obtain ⟨⟨a, o, xs, n, e, ho, hc, hd, i⟩, l⟩ := hp v (List.mem_cons_self ..)
    obtain ⟨y, ys, ey⟩ : ∃ y ys, xs.toList = y :: ys := by
      cases q : xs.toList with
      | nil =>
        rw [q] at i
        have l2 := i.length
        rw [List.length_nil] at l2
        omega
      | cons y ys => exact ⟨y, ys, rfl⟩
    obtain ⟨m, t, hy⟩ := i.all y (by rw [ey]; exact List.mem_cons_self ..)
    rw [e]
    refine ⟨y :: fs, PySem.W.KatTups.cons ho hc hd ?_ h1, by simp [h2], fun f hm => ?_⟩
    · rw [← Array.getElem?_toList, ey]
      rfl
    · rcases List.mem_cons.mp hm with rfl | hm
      · exact ⟨m, t, hy⟩
      · exact h3 f hm
theorem tups_sortableO {a : Addr} {vs : List Value} {k : Value → List Int} {d : Nat} (h0 : 0 < vs.length) (d0 : 0 < d) (hp : ∀ v ∈ vs, IsTupI s.heap v (k v) ∧ (k v).length = d) (ha : ∀ o, s.heap.get? a = some o → o.cls ≠ .type "tuple") : SortableO prog w A s a vs fun v u => HT.lexLt (k v) (k u) := by
  intro h' keep
  have hp' : ∀ v ∈ vs, IsTupI h' v (k v) ∧ (k v).length = d := fun v hm => ⟨(hp v hm).1.keeps fun b o e c => keep b o (fun z => by subst z; exact ha o e c) e, (hp v hm).2⟩
  obtain ⟨fs, h1, h2, h3⟩ := firstsI fun v hm => ⟨(hp' v hm).1, by rw [(hp' v hm).2]; exact d0⟩
  refine ⟨tuples' true, fun Q E hq => ?_, cmpI hp'⟩
  refine PySem.W.kat_kind (T := .type "int") h1 (by omega) (fun f hm => ?_) (by rfl) ?_
  · obtain ⟨x, t, rfl⟩ := h3 f hm
    exact PySem.W.Looks.now
  · have e : (Value.type "int" != Value.type "tuple") = true := by first | decide +kernel | rfl | decide
    rw [e]
    exact hq
theorem sorted_tupsO {l : Addr} {vs : List Value} {k : Value → List Int} {d : Nat} {Q : Value → Shared → Prop} (hl : s.heap.IsList l vs.toArray) (hz : vs.length ≤ sizeLine) (d0 : 0 < d) (hp : ∀ v ∈ vs, IsTupI s.heap v (k v) ∧ (k v).length = d)
    (h : ∀ (h' : Heap) (d : Addr) (out : List Value), Srtd (fun v u => HT.lexLt (k v) (k u)) out → Stb (fun v u => HT.lexLt (k v) (k u)) out vs → (∀ b o, s.heap.get? b = some o → h'.get? b = some o) → s.heap.objs.size ≤ d → (∃ n, h'.get? d = some (seqObj "list" out.toArray n)) → Q (.ref d) { s with heap := h' }) :
    wpAny (model prog w) A (call (.builtin "sorted") [.ref l]) Q E s := by
  refine sorted_ord (swo_lexL k) hl hz (fun h2 h₁ a ha kk => ?_) fun out hs hb => ?_
  · refine tups_sortableO (s := { s with heap := h₁ }) (by omega) d0 (fun v hm => ⟨(hp v hm).1.keeps fun b o e _ => (kk b o e).2, (hp v hm).2⟩) fun o e => ?_
    have e' : some o = some (seqObj "list" vs.toArray 0) := e.symm.trans ha
    cases e'
    intro c
    exact absurd (Value.type.inj c) (by decide)
  · exact h _ _ out hs hb (fun b o e => sortedAll_old e) (Nat.le_succ _) (sortedAll_at s.heap vs out.toArray)
end
end SrtO
namespace SrtO
open PySem PySem.Spec PyProof.Rows L2
theorem ints_uniq : ∀ {vs : List Value} {ns ms : List Int}, IntsAre vs ns → IntsAre vs ms → ns = ms
  | _, _, _, .nil, .nil => rfl
  | _, _, _, .cons n t h, .cons _ _ h' => by rw [ints_uniq h h']
theorem tupI_uniq {h : Heap} {v : Value} {ns ms : List Int} (a : IsTupI h v ns) (b : IsTupI h v ms) : ns = ms := by
  obtain ⟨a, o, xs, n, rfl, ho, hc, hd, i⟩ := a
  obtain ⟨a', o', xs', n', e, ho', hc', hd', i'⟩ := b
  cases e
  rw [ho] at ho'
  cases ho'
  rw [hd] at hd'
  cases hd'
  exact ints_uniq i i'
end SrtO
namespace L2.AR
open PySem PySem.Spec PyProof.Rows
/-- x is a tuple of these d whole numbers -/
def TupV (K : PySem.W.Frag) (H : Hp) (d : Nat) (x : V) (l : List Int) : Prop := ∃ t, x = V.ref t ∧ SqT K H t (l.map V.int) ∧ l.length = d
/-- sorted(xs), xs a list of tuples of ints, all of one length: a new list -/
def rSortedT (K : PySem.W.Frag) : List V → Hp → VK → Prop := fun vs H Q => ∃ (a : Addr) (xs : List V) (ls : List (List Int)) (d : Nat), vs = [V.ref a] ∧ SqL K H a xs ∧ 0 < d ∧ Paired (TupV K H d) xs ls ∧
  ∀ ys ls' p, ls'.Perm ls → ls'.Pairwise (fun x y => HT.lexLt y x = false) → (∀ R : V → List Int → Prop, Paired R xs ls → Paired R ys ls') → H p = none → Q (.ref p) (upd H p (.lst ys))
theorem paired_mem {α β : Type} {R : α → β → Prop} : ∀ {xs : List α} {ys : List β}, Paired R xs ys → ∀ x ∈ xs, ∃ y, R x y
  | _, _, .cons r h, x, m => by
    rcases List.mem_cons.mp m with rfl | m
    · exact ⟨_, r⟩
    · exact paired_mem h x m
theorem paired_map {α β : Type} {R : α → β → Prop} {k : α → β} : ∀ {xs : List α} {ys : List β}, Paired R xs ys → (∀ x y, R x y → y = k x) → ys = xs.map k
  | _, _, .nil, _ => rfl
  | _, _, .cons r h, e => by rw [List.map_cons, e _ _ r, paired_map h e]
theorem paired_of {α β : Type} {R : α → β → Prop} {k : α → β} : ∀ {xs : List α}, (∀ x ∈ xs, R x (k x)) → Paired R xs (xs.map k)
  | [], _ => .nil
  | x :: xs, h => .cons (h x (by simp)) (paired_of fun y m => h y (by simp [m]))
theorem paired_self {α β : Type} {R : α → β → Prop} {k : α → β} : ∀ {xs : List α}, Paired R xs (xs.map k) → ∀ x ∈ xs, R x (k x)
  | [], _, x, m => by cases m
  | y :: ys, .cons r h, x, m => by
    rcases List.mem_cons.mp m with rfl | m
    · exact r
    · exact paired_self h x m
section
variable {X : Cx}
open Classical in
theorem cr_sortedT : CallR X (.builtin "sorted") (rSortedT X.K) := by
  intro pins s σ H vs us Q I r h
  obtain ⟨a, xs, ls, d, rfl, hs, d0, hx, q⟩ := h
  obtain ⟨its, rv, hl, hz⟩ := I.list hs
  obtain ⟨u, rfl, ru⟩ := vals1 r
  obtain rfl : u = Value.ref a := ru
  obtain ⟨e1, e2⟩ := refs_back rv fun x m => by
    obtain ⟨l, t, e, _⟩ := paired_mem hx x m
    exact ⟨t, e⟩
  -- the ints at an address, as the heap has them
  let kv : Value → List Int := fun u => if h : ∃ ns, SrtO.IsTupI s.heap u ns then h.choose else []
  have kvs : ∀ {u ns}, SrtO.IsTupI s.heap u ns → kv u = ns := fun {u ns} i => by
    have ex : ∃ ns, SrtO.IsTupI s.heap u ns := ⟨ns, i⟩
    show (if h : ∃ ns, SrtO.IsTupI s.heap u ns then h.choose else []) = ns
    rw [dif_pos ex]
    exact SrtO.tupI_uniq ex.choose_spec i
  have tup : ∀ {t l}, SqT X.K H t (l.map V.int) → SrtO.IsTupI s.heap (.ref t) l := fun {t l} ht => by
    obtain ⟨its2, r2, p2, _⟩ := I.tuple ht
    obtain ⟨o, ho, hc, n, hd⟩ := p2
    exact ⟨t, o, its2.toArray, n, rfl, ho, hc, hd, by rw [List.toList_toArray]; exact intsAre_of r2⟩
  let k : V → List Int := fun x => match x with
    | .ref t => kv (.ref t)
    | _ => []
  have kx : ∀ x l, TupV X.K H d x l → l = k x := by
    rintro x l ⟨t, rfl, ht, _⟩
    exact (kvs (tup ht)).symm
  have els := paired_map hx kx
  have all : ∀ x ∈ xs, TupV X.K H d x (k x) := fun x m => by
    obtain ⟨l, r⟩ := paired_mem hx x m
    rw [← kx x l r]
    exact r
  refine SrtO.sorted_tupsO (k := kv) (d := d) hl.isList (by rw [← rv.length]; exact hz) d0 (fun v hv => ?_) fun h' d' out h1 h2 kp hd hn => ?_
  · obtain ⟨t, rfl⟩ := e2 v hv
    have hm : V.ref t ∈ xs := by rw [e1]; exact List.mem_map.mpr ⟨_, hv, rfl⟩
    obtain ⟨t', e, ht, hlen⟩ := all _ hm
    cases e
    exact ⟨tup ht, hlen⟩
  · have h3 : ∀ u ∈ out, ∃ a, u = Value.ref a := fun u hu => e2 u (h2.perm.mem_iff.mp hu)
    obtain ⟨n, hn⟩ := hn
    have hb : (out.map backV).Perm xs := by
      rw [e1]
      exact h2.perm.map backV
    have same : ∀ {l : List Value}, (∀ u ∈ l, ∃ a, u = Value.ref a) → (l.map backV).map k = l.map kv := fun {l} h => by
      rw [List.map_map]
      refine List.map_congr_left fun u m => ?_
      obtain ⟨a, rfl⟩ := h u m
      rfl
    refine ⟨.ref d', upd H d' (.lst (out.map backV)), I.laid (t' := s.toks) kp hd ⟨?_, out, n, vals_back h3, hn⟩, rfl, q _ ((out.map backV).map k) d' ?_ ?_ (fun R pr => paired_of fun x m => by
      rw [els] at pr
      exact paired_self pr x (hb.mem_iff.mp m)) (I.hok.fresh hd)⟩
    · rw [hb.length_eq]
      exact hz
    · rw [els]
      exact hb.map k
    · rw [same h3]
      exact List.pairwise_map.mpr h1
end
end L2.AR
set_option Elab.async false
set_option linter.all false
set_option maxRecDepth 100000
set_option maxHeartbeats 4000000
/-! Fw22: sorted of tuples, the function. -/
namespace L2.AR
open PySem PySem.Spec PyProof.Rows
def tupI : D → Option (List Int)
  | .tuple ds => intsOf ds
  | _ => none
def tupsI : List D → Option (List (List Int))
  | [] => some []
  | d :: ds => match tupI d, tupsI ds with
    | some l, some ls => some (l :: ls)
    | _, _ => none
def tupD (l : List Int) : D := .tuple (l.map .int)
def insT (x : List Int) : List (List Int) → List (List Int)
  | [] => [x]
  | y :: r => if HT.lexLt y x = true then y :: insT x r else x :: y :: r
def sortT : List (List Int) → List (List Int)
  | [] => []
  | x :: r => insT x (sortT r)
abbrev SrtT (l : List (List Int)) : Prop := l.Pairwise (fun x y => HT.lexLt y x = false)
theorem insT_perm (x : List Int) : ∀ l, (insT x l).Perm (x :: l)
  | [] => .refl _
  | y :: r => by
    unfold insT
    split
    · exact ((insT_perm x r).cons y).trans (.swap x y r)
    · exact .refl _
theorem sortT_perm : ∀ l, (sortT l).Perm l
  | [] => .refl _
  | x :: r => (insT_perm x _).trans ((sortT_perm r).cons x)
theorem insT_srt (x : List Int) : ∀ l, SrtT l → SrtT (insT x l)
  | [], _ => by simp [insT]
  | y :: r, h => by
    unfold insT
    split
    · rename_i c
      refine List.pairwise_cons.mpr ⟨fun z hz => ?_, insT_srt x r (List.pairwise_cons.mp h).2⟩
      rcases List.mem_cons.mp ((insT_perm x r).mem_iff.mp hz) with rfl | hz
      · exact SrtO.lexLt_asym c
      · exact (List.pairwise_cons.mp h).1 z hz
    · rename_i c
      have c' : HT.lexLt y x = false := by simpa using c
      refine List.pairwise_cons.mpr ⟨fun z hz => ?_, h⟩
      rcases List.mem_cons.mp hz with rfl | hz
      · exact c'
      · exact SrtO.lexLt_tr c' ((List.pairwise_cons.mp h).1 z hz)
theorem sortT_srt : ∀ l, SrtT (sortT l)
  | [] => .nil
  | x :: r => insT_srt x _ (sortT_srt r)
theorem lex_refl (x : List Int) : HT.lexLt x x = false := by
  cases h : HT.lexLt x x with
  | false => rfl
  | true => rw [SrtO.lexLt_asym h] at h; cases h
theorem srtT_unique : ∀ {a b : List (List Int)}, a.Perm b → SrtT a → SrtT b → a = b
  | [], b, p, _, _ => by rw [List.nil_perm.mp p]
  | x :: r, [], p, _, _ => by cases List.perm_nil.mp p
  | x :: r, y :: s, p, ha, hb => by
    have h1 : HT.lexLt y x = false := by
      rcases List.mem_cons.mp (p.mem_iff.mpr (List.mem_cons_self (a := y))) with e | m
      · rw [e]; exact lex_refl x
      · exact (List.pairwise_cons.mp ha).1 y m
    have h2 : HT.lexLt x y = false := by
      rcases List.mem_cons.mp (p.mem_iff.mp (List.mem_cons_self (a := x))) with e | m
      · rw [e]; exact lex_refl y
      · exact (List.pairwise_cons.mp hb).1 x m
    have e : x = y := SrtO.lexLt_total h2 h1
    subst e
    rw [srtT_unique (List.Perm.cons_inv p) (List.pairwise_cons.mp ha).2 (List.pairwise_cons.mp hb).2]
def oneLen (d : Nat) (ls : List (List Int)) : Bool := ls.all fun l => l.length == d
def fSortT : List D → Option D
  | [.list ds] => match tupsI ds with
    | some ls => if (ls.all fun l => l.length == (ls.headD [0]).length && decide (0 < l.length)) = true then some (.list ((sortT ls).map tupD)) else none
    | none => none
  | _ => none
section
variable {K : PySem.W.Frag} {F : Hp}
/-- x is a tuple of these d whole numbers, tracked -/
def TupW (F : Hp) (d : Nat) (x : V) (l : List Int) : Prop := ∃ t, x = V.ref t ∧ SqS F t (l.map V.int) ∧ l.length = d
theorem tupI_val {v : V} {d : D} {l : List Int} (r : Dq K F v d) (e : tupI d = some l) : ∃ t, v = .ref t ∧ SqS F t (l.map V.int) := by
  cases d with
  | tuple ds =>
    cases r with
    | tup h1 h2 => exact ⟨_, rfl, by rw [← intsOf_vals h2 e]; exact h1⟩
  | _ => cases e
theorem tupsI_vals : ∀ {vs : List V} {ds : List D} {ls : List (List Int)} {d : Nat}, DqAll K F vs ds → tupsI ds = some ls → (∀ l ∈ ls, l.length = d) → Paired (TupW F d) vs ls
  | _, _, ls, d, .nil, e, _ => by cases e; exact .nil
  | _, _, ls, d, .cons (d := x) (ds := xs) r t, e, hl => by
    have e' : (match tupI x, tupsI xs with
      | some l, some ls => some (l :: ls)
      | _, _ => none) = some ls := e
    cases c : tupI x with
    | none => rw [c] at e'; cases e'
    | some l =>
      cases c2 : tupsI xs with
      | none => rw [c, c2] at e'; cases e'
      | some ls2 =>
        rw [c, c2] at e'
        cases e'
        obtain ⟨a, ea, ha⟩ := tupI_val r c
        exact .cons ⟨a, ea, ha, hl l (by simp)⟩ (tupsI_vals t c2 fun z m => hl z (by simp [m]))
theorem tups_dq {d : Nat} : ∀ {ys : List V} {ls : List (List Int)}, Paired (TupW F d) ys ls → DqAll K F ys (ls.map tupD)
  | _, _, .nil => .nil
  | _, _, .cons ⟨t, e, h, _⟩ r => by
    subst e
    exact .cons (.tup h (ints_dq _)) (tups_dq r)
theorem sortT_ok : RAok K (rSortedT K) fSortT := by
  intro F H vs ds z Q s h e q
  unfold fSortT at e
  split at e
  · rename_i xs
    obtain ⟨v, rfl, r⟩ := one_val h
    cases c : tupsI xs with
    | none => rw [c] at e; cases e
    | some ls =>
      rw [c] at e
      simp only at e
      by_cases hb : (ls.all fun l => l.length == (ls.headD [0]).length && decide (0 < l.length)) = true
      · rw [if_pos hb] at e
        cases e
        have hl : ∀ l ∈ ls, l.length = (ls.headD [0]).length := fun l m => by
          have := List.all_eq_true.mp hb l m
          rw [Bool.and_eq_true] at this
          exact eq_of_beq this.1
        have d0 : 0 < (ls.headD [0]).length := by
          cases ls with
          | nil => simp
          | cons l r =>
            have := List.all_eq_true.mp hb l (by simp)
            simp at this
            simpa using this
        cases r with
        | lst h1 h2 =>
          rename_i a ws
          have pr := tupsI_vals h2 c hl
          have same : ∀ {x l}, TupW F (ls.headD [0]).length x l → TupV K H (ls.headD [0]).length x l := fun {x l} ⟨t, e, h, n⟩ => ⟨t, e, (h.same s).sqt, n⟩
          have lift : ∀ {xs : List V} {ms : List (List Int)}, Paired (TupW F (ls.headD [0]).length) xs ms → Paired (TupV K H (ls.headD [0]).length) xs ms := by
            intro xs ms p
            induction p with
            | nil => exact .nil
            | cons r _ ih => exact .cons (same r) ih
          refine ⟨a, ws, ls, _, rfl, SqL.of (s _ _ h1), d0, lift pr, fun ys ls' p pm sr py np => ?_⟩
          have el : ls' = sortT ls := srtT_unique (pm.trans (sortT_perm _).symm) sr (sortT_srt _)
          subst el
          have q1 := tups_dq (K := K) (py _ pr)
          refine q _ _ _ (PStep.alloc s np (o := .lst ys)) (.lst upd_same (dpAll_same (PStep.alloc s np (o := .lst ys)).ff _ _ q1))
      · rw [if_neg hb] at e
        cases e
  · cases e
end
end L2.AR
set_option Elab.async false
set_option linter.all false
set_option maxRecDepth 100000
set_option maxHeartbeats 4000000
/-! Fw23: more reckoning: while, own dicts, ranges, what surely ends so (the hand's state left aside). -/
namespace L2.AR
open PySem PySem.Spec PyProof.Rows
theorem x_while0 (c : Rho → M Bool) (s : MS) (n : Nat) (ρ : Rho) : loopW c s (n + 1) ρ = bndS (c ρ) ρ fun b ρ => if b = true then turnS (s ρ) (loopW c s n) else okS .nx ρ := by
  funext h
  simp only [loopW, sExp, bndS]
  cases c ρ h with
  | ok b h' =>
    cases b
    · rfl
    · simp only [if_true, turnS]
      all_goals (cases s ρ h' with
        | ok f ρ2 h2 => cases f <;> rfl
        | err _ _ _ _ => rfl
        | stuck => rfl)
  | err _ _ _ => rfl
  | stuck => rfl
/-! own dicts -/
@[simp] theorem x_newD (i : Nat) (ρ : Rho) : sNewD i ρ = okS .nx (ρ.set i (.owd [])) := rfl
@[simp] theorem exc_owd (l : List (Int × D)) : isExc (.owd l) = false := rfl
theorem x_putD {i : Nat} {gk gv : Rho → M D} {ρ : Rho} {es : List (Int × D)} {d : D} {n : Int} (e : ρ[i]? = some (.owd es)) (ev : gv ρ = ret d) (ek : gk ρ = ret (.int n)) (t : isTok d = false) (l : es.length < 1000000) :
    sPutD i gk gv ρ = okS .nx (ρ.set i (.owd (putE es n d))) := by
  funext h
  unfold sPutD
  simp only [x_exp, ev, bndS_ret]
  rw [e]
  simp only [x_exp, ek, bndS_ret]
  rw [if_pos ⟨t, l⟩]
  rfl
theorem x_inD {neg : Bool} {i : Nat} {gk : Rho → M D} {ρ : Rho} {es : List (Int × D)} {n : Int} (e : ρ[i]? = some (.owd es)) (ek : gk ρ = ret (.int n)) : gInD neg i gk ρ = ret (.bool (if neg then !(getE es n).isSome else (getE es n).isSome)) := by
  unfold gInD
  rw [ek, bnd_ret, e]
theorem x_getD {i : Nat} {gk : Rho → M D} {ρ : Rho} {es : List (Int × D)} {n : Int} {d : D} (e : ρ[i]? = some (.owd es)) (ek : gk ρ = ret (.int n)) (eg : getE es n = some d) : gGetD i gk ρ = ret d := by
  unfold gGetD
  rw [e]
  simp only
  rw [ek, bnd_ret]
  simp only
  rw [eg]
theorem x_sortD {i : Nat} {ρ : Rho} {es : List (Int × D)} (e : ρ[i]? = some (.owd es)) (l : es.length < 64) : gSortD i ρ = ret (.list ((sortI (es.map (·.1))).map .int)) := by
  unfold gSortD
  rw [e]
  simp only
  rw [if_pos l]
theorem getE_nil (k : Int) : getE [] k = none := rfl
theorem getE_snoc (es : List (Int × D)) (k n : Int) (d : D) : getE (es ++ [(k, d)]) n = (getE es n).orElse fun _ => if k = n then some d else none := by
  unfold getE
  rw [List.find?_append]
  cases h : es.find? fun e => decide (e.1 = n) with
  | some x => simp
  | none =>
    by_cases e : k = n
    · simp [e]
    · simp [e]
theorem putE_new {es : List (Int × D)} {k : Int} {d : D} (h : getE es k = none) : putE es k d = es ++ [(k, d)] := by
  have : (es.any fun e => decide (e.1 = k)) = false := by
    unfold getE at h
    rw [Option.map_eq_none_iff, List.find?_eq_none] at h
    rw [List.any_eq_false]
    exact h
  unfold putE
  simp [this]
theorem getE_mem {es : List (Int × D)} {k : Int} : (getE es k).isSome = true ↔ k ∈ es.map (·.1) := by
  unfold getE
  rw [Option.isSome_map, List.find?_isSome]
  simp
/-! max, min, displays, ranges -/
@[simp] theorem o_max (a b : Int) : opA fMax [.int a, .int b] = ret (.int (if b > a then b else a)) := rfl
@[simp] theorem o_min (a b : Int) : opA fMin [.int a, .int b] = ret (.int (if b < a then b else a)) := rfl
theorem mkT (ds : List D) : opA mkTup ds = if ds.any isTok = false ∧ ds.length ≤ 1000000 then ret (.tuple ds) else stk := by
  unfold opA mkTup
  cases ds.any isTok
  · by_cases h : ds.length ≤ 1000000
    · simp [h]
    · simp [h]
  · simp
theorem mkL (ds : List D) : opA mkLst ds = if ds.any isTok = false ∧ ds.length ≤ 1000000 then ret (.list ds) else stk := by
  unfold opA mkLst
  cases ds.any isTok
  · by_cases h : ds.length ≤ 1000000
    · simp [h]
    · simp [h]
  · simp
@[simp] theorem o_addT (a b : List D) : op2 fAdd (.tuple a) (.tuple b) = if a.length + b.length ≤ 1000000 then ret (.tuple (a ++ b)) else stk := by
  show lift (if a.length + b.length ≤ 1000000 then some (PyData.tuple (a ++ b)) else none) = _
  split <;> rfl
theorem upTo_succ (lo : Int) (n : Nat) : upTo lo (n + 1) = .int lo :: upTo (lo + 1) n := by
  unfold upTo
  rw [List.range_succ_eq_map]
  simp only [List.map_cons, List.map_map]
  refine congr (congrArg _ (by simp)) ?_
  refine List.map_congr_left fun k _ => ?_
  show PyData.int _ = PyData.int _
  congr 1
  simp
  omega
theorem upTo_zero (lo : Int) : upTo lo 0 = [] := rfl
theorem upTo_len (lo : Int) (n : Nat) : (upTo lo n).length = n := by simp [upTo]
theorem range_2 {i j : Int} (h1 : -(2 ^ 62) ≤ i) (h2 : i < 2 ^ 62) (h3 : -(2 ^ 62) ≤ j) (h4 : j < 2 ^ 62) : rangeOf [.int i, .int j] = some (upTo i (j - i).toNat) := if_pos ⟨h1, h2, h3, h4⟩
theorem range_1' {j : Int} (h3 : -(2 ^ 62) ≤ j) (h4 : j < 2 ^ 62) : rangeOf [.int j] = some (upTo 0 j.toNat) := if_pos ⟨h3, h4⟩
/-- a comprehension without a condition, each turn known -/
theorem comp_map {i : Nat} {g : Rho → M D} {ρ : Rho} {f : D → D} : ∀ (ds acc : List D), (∀ d ∈ ds, g (ρ.set i (.dat d)) = ret (f d)) → (∀ d ∈ ds, isTok (f d) = false) → acc.length + ds.length ≤ 1000000 → comp1 (tgN i) tYs g ρ ds acc = ret (.list (acc ++ ds.map f))
  | [], acc, _, _, _ => by simp
  | d :: ds, acc, h, t, l => by
    rw [comp_cons, h d (by simp), nerr_ret, bnd_ret, if_pos ⟨t d (by simp), by simp at l; omega⟩, comp_map ds _ (fun x m => h x (by simp [m])) (fun x m => t x (by simp [m])) (by simp at l ⊢; omega)]
    simp
/-! ### surely ends so -/
def Ends {α : Type} (x : M α) (P : α → Prop) : Prop := ∀ h, ∃ a h', x h = .ok a h' ∧ P a
def EndsS (o : HS → OutS) (P : Fl → Rho → Prop) : Prop := ∀ h, ∃ f ρ h', o h = .ok f ρ h' ∧ P f ρ
section
variable {α β : Type} {x : M α} {f : α → M β} {a : α} {ρ : Rho} {k : α → MS} {o : HS → OutS} {t : MS}
theorem Ends.ret {P : α → Prop} (p : P a) : Ends (ret a) P := fun h => ⟨a, h, rfl, p⟩
theorem Ends.bnd {Q : α → Prop} {P : β → Prop} (e : Ends x Q) (k : ∀ a, Q a → Ends (f a) P) : Ends (bnd x f) P := fun h => by
  obtain ⟨a, h', e1, q⟩ := e h
  obtain ⟨b, h2, e2, p⟩ := k a q h'
  exact ⟨b, h2, by unfold L2.AR.bnd; rw [e1]; exact e2, p⟩
theorem Ends.mono {P Q : α → Prop} (e : Ends x P) (i : ∀ a, P a → Q a) : Ends x Q := fun h => by
  obtain ⟨a, h', e1, q⟩ := e h
  exact ⟨a, h', e1, i a q⟩
theorem EndsS.ok {P : Fl → Rho → Prop} {f : Fl} (p : P f ρ) : EndsS (okS f ρ) P := fun h => ⟨f, ρ, h, rfl, p⟩
theorem EndsS.bnd {Q : α → Prop} {P : Fl → Rho → Prop} (e : Ends x Q) (i : ∀ a, Q a → EndsS (k a ρ) P) : EndsS (bndS x ρ k) P := fun h => by
  obtain ⟨a, h', e1, q⟩ := e h
  obtain ⟨f, r, h2, e2, p⟩ := i a q h'
  exact ⟨f, r, h2, by unfold bndS; rw [e1]; exact e2, p⟩
theorem EndsS.mono {P Q : Fl → Rho → Prop} (e : EndsS o P) (i : ∀ f r, P f r → Q f r) : EndsS o Q := fun h => by
  obtain ⟨f, r, h', e1, q⟩ := e h
  exact ⟨f, r, h', e1, i f r q⟩
theorem EndsS.seq {Q : Rho → Prop} {P : Fl → Rho → Prop} (e : EndsS o fun f r => f = .nx ∧ Q r) (i : ∀ r, Q r → EndsS (t r) P) : EndsS (seqS o t) P := fun h => by
  obtain ⟨f, r, h', e1, rfl, q⟩ := e h
  obtain ⟨f, r2, h2, e2, p⟩ := i r q h'
  exact ⟨f, r2, h2, by unfold seqS; rw [e1]; exact e2, p⟩
theorem EndsS.turn {Q : Rho → Prop} {P : Fl → Rho → Prop} (e : EndsS o fun f r => f = .nx ∧ Q r) (i : ∀ r, Q r → EndsS (t r) P) : EndsS (turnS o t) P := fun h => by
  obtain ⟨f, r, h', e1, rfl, q⟩ := e h
  obtain ⟨f, r2, h2, e2, p⟩ := i r q h'
  exact ⟨f, r2, h2, by unfold turnS; rw [e1]; exact e2, p⟩
theorem Ends.endB {P : D → Prop} (e : EndsS o fun f _ => ∃ d, f = .rt d ∧ P d) : Ends (endB o) P := fun h => by
  obtain ⟨f, r, h', e1, d, rfl, p⟩ := e h
  exact ⟨d, h', by unfold L2.AR.endB; rw [e1], p⟩
end
theorem bndS_bnd {α β : Type} (x : M α) (f : α → M β) (ρ : Rho) (k : β → MS) : bndS (bnd x f) ρ k = bndS x ρ fun a ρ => bndS (f a) ρ k := by
  funext h
  unfold bndS bnd
  cases x h <;> rfl
theorem seqS_bndS {α : Type} (x : M α) (ρ : Rho) (k : α → MS) (t : MS) : seqS (bndS x ρ k) t = bndS x ρ fun a ρ => seqS (k a ρ) t := by
  funext h
  unfold seqS bndS
  cases x h <;> rfl
theorem turnS_bndS {α : Type} (x : M α) (ρ : Rho) (k : α → MS) (t : MS) : turnS (bndS x ρ k) t = bndS x ρ fun a ρ => turnS (k a ρ) t := by
  funext h
  unfold turnS bndS
  cases x h <;> rfl
theorem endB_bndS {α : Type} (x : M α) (ρ : Rho) (k : α → MS) : endB (bndS x ρ k) = bnd x fun a => endB (k a ρ) := by
  funext h
  unfold endB bndS bnd
  cases x h <;> rfl
theorem seqS_seqS (o : HS → OutS) (s t : MS) : seqS (seqS o s) t = seqS o fun ρ => seqS (s ρ) t := by
  funext h
  unfold seqS
  cases o h with
  | ok f _ _ => cases f <;> rfl
  | err _ _ _ _ => rfl
  | stuck => rfl
theorem turnS_if {c : Prop} [Decidable c] (a b : HS → OutS) (t : MS) : turnS (if c then a else b) t = if c then turnS a t else turnS b t := by split <;> rfl
theorem turnS_seqS (o : HS → OutS) (s t : MS) : turnS (seqS o s) t = turnS (seqS o s) t := rfl
theorem draw_ends (n : Int) (h0 : 0 < n) : Ends (mDraw [tok, .int n]) fun d => ∃ r, d = .int r ∧ 0 ≤ r ∧ r < n := fun h => by
  obtain ⟨r, h', e, a, b⟩ := draw_is n h0 h
  exact ⟨_, h', e, r, rfl, a, b⟩
end L2.AR
set_option Elab.async false
set_option linter.all false
set_option maxRecDepth 100000
set_option maxHeartbeats 4000000
/-! Fw24: a look at an own list: what is reckoned from it holds no list, and the list stays this frame's own. -/
namespace L2.AR
open PySem PySem.Spec PyProof.Rows
mutual
/-- no list in it -/
def noL : D → Bool
  | .list _ => false
  | .tuple ds => noLs ds
  | _ => true
def noLs : List D → Bool
  | [] => true
  | d :: ds => noL d && noLs ds
end
/-- what is tracked, but for one address -/
def cutH (F : Hp) (a : Addr) : Hp := fun b => if b = a then none else F b
theorem cutH_ne {F : Hp} {a b : Addr} (h : b ≠ a) : cutH F a b = F b := if_neg h
theorem cutH_at {F : Hp} {a : Addr} : cutH F a a = none := if_pos rfl
theorem cutH_some {F : Hp} {a b : Addr} {o : HO} (h : cutH F a b = some o) : b ≠ a ∧ F b = some o := by
  by_cases e : b = a
  · subst e
    rw [cutH_at] at h
    cases h
  · exact ⟨e, by rw [cutH_ne e] at h; exact h⟩
mutual
theorem dq_cut {K : PySem.W.Frag} {F : Hp} {a : Addr} {vs : List V} (ha : F a = some (.lst vs)) : ∀ (d : D) (v : V), noL d = true → Dq K F v d → Dq K (cutH F a) v d
  | .none, _, _, h => by cases h; exact .non
  | .bool b, _, _, h => by cases h; exact .bl b
  | .int i, _, _, h => by cases h; exact .int i
  | .str x, _, _, h => by cases h; exact .str x
  | .list ds, _, n, h => by simp [noL] at n
  | .tuple ds, _, n, h => by
    cases h with
    | tup hs hd =>
      obtain ⟨o, z, no⟩ := hs
      refine .tup ⟨o, ?_, no⟩ (dqs_cut ha ds _ (by simpa [noL] using n) hd)
      rw [cutH_ne]
      · exact z
      · intro e
        subst e
        rw [ha] at z
        cases z
  | .dict _, _, _, h => by cases h
theorem dqs_cut {K : PySem.W.Frag} {F : Hp} {a : Addr} {vs : List V} (ha : F a = some (.lst vs)) : ∀ (ds : List D) (us : List V), noLs ds = true → DqAll K F us ds → DqAll K (cutH F a) us ds
  | [], _, _, h => by cases h; exact .nil
  | d :: ds, _, n, h => by
    simp only [noLs, Bool.and_eq_true] at n
    cases h with
    | cons h1 h2 => exact .cons (dq_cut ha d _ n.1 h1) (dqs_cut ha ds _ n.2 h2)
end
/-- the hand and the other own lists are out of sight -/
def unT : Sl → Sl
  | .dat d => if isTok d = true then .no else .dat d
  | .own _ => .no
  | .owd _ => .no
  | s => s
def viewR (i : Nat) (ds : List D) (ρ : Rho) : Rho := (ρ.set i (.dat (.list ds))).map unT
def pkO (hs : HS) : Out D → Out D
  | .ok d _ => if noL d = true then .ok d hs else .stuck
  | .err c d _ => if noL d = true then .err c d hs else .stuck
  | .stuck => .stuck
def pkB (hs : HS) : Out Bool → Out Bool
  | .ok b _ => .ok b hs
  | .err c d _ => if noL d = true then .err c d hs else .stuck
  | .stuck => .stuck
/-- an expression in which the own list in slot i is read -/
def gPk (i : Nat) (g : Rho → M D) : Rho → M D := fun ρ hs =>
  match ρ[i]? with
  | some (.own ds) => pkO hs (g (viewR i ds ρ) ⟨[], 0⟩)
  | _ => .stuck
def tPk (i : Nat) (u : Rho → M Bool) : Rho → M Bool := fun ρ hs =>
  match ρ[i]? with
  | some (.own ds) => pkB hs (u (viewR i ds ρ) ⟨[], 0⟩)
  | _ => .stuck
/-- the same, the hand unknown, the frame entered now -/
abbrev Gh.view (G : Gh) (F H : Hp) : Gh := { G with ha := none, H0 := H, F0 := F }
section
variable {G : Gh} {F H : Hp} {hs : HS} {ρ : Rho} {σ : St}
theorem Rel.view (R : Rel G F H hs ρ σ) (hs' : HS) : Rel (G.view F H) F H hs' (ρ.map unT) σ := by
  refine ⟨R.sub, (fun a e => by cases e), fun b o e _ => e, Same.refl F, fun b z => .inl z, by rw [List.length_map]; exact R.len, fun i s e => ?_, fun i j x y a hij e1 e2 o1 o2 e3 => ?_⟩
  · rw [List.getElem?_map] at e
    cases w : ρ[i]? with
    | none => rw [w] at e; cases e
    | some s0 =>
      rw [w] at e
      cases e
      have q := R.slots i s0 w
      cases s0 with
      | no => trivial
      | dat d =>
        by_cases ht : isTok d = true
        · simp only [unT, ht, if_true]
          trivial
        · simp only [unT, ht, if_false]
          obtain ⟨v, ev, r⟩ := q
          exact ⟨v, ev, .inl (r.dp (by simpa using ht))⟩
      | own ds => trivial
      | owd es => trivial
      | exc c d =>
        obtain ⟨e1, e2, dx, v, h0, h1, h2, h3⟩ := q
        exact ⟨e1, e2, dx, v, h0, h1, (fun z => by cases z), h3⟩
  · rw [List.getElem?_map] at e1
    cases w : ρ[i]? with
    | none => rw [w] at e1; cases e1
    | some s0 =>
      rw [w] at e1
      cases e1
      cases s0 with
      | dat d =>
        by_cases ht : isTok d = true
        · simp only [unT, ht, if_true] at o1
          cases o1
        · simp only [unT, ht, if_false] at o1
          cases o1
      | _ => cases o1
/-- back from the look: the list is no longer tracked as a datum -/
theorem look_back {F' H' : Hp} {a : Addr} {vs : List V} (R : Rel G F H hs ρ σ) (na : F a = none) (st : Step none (upd F a (.lst vs)) H F' H') : Step G.ha F H (cutH F' a) H' ∧ HandOK G.ha (cutH F' a) H' hs := by
  have ff : Same F (cutH F' a) := fun b o e => by
    have hb : b ≠ a := ne_of_none e na
    rw [cutH_ne hb]
    exact st.ff b o (by rw [upd_ne hb]; exact e)
  have kp : Same H H' := fun b o e => st.keep b o e (fun z => by cases z)
  refine ⟨⟨ff, fun b o e => st.fh b o (cutH_some e).2, fun b o e _ => kp b o e, fun b z => ?_⟩, fun x e => ?_⟩
  · cases w : cutH F' a b with
    | none => exact absurd w z
    | some o =>
      obtain ⟨hb, w'⟩ := cutH_some w
      rcases st.new b (by rw [w']; simp) with q | q
      · rw [upd_ne hb] at q
        exact .inl q
      · exact .inr q
  · obtain ⟨h1, r, n, h2, h3⟩ := R.hand x e
    refine ⟨?_, r, n, kp _ _ h2, ff _ _ h3⟩
    cases w : cutH F' a x with
    | none => rfl
    | some o =>
      obtain ⟨hb, w'⟩ := cutH_some w
      rcases st.new x (by rw [w']; simp) with q | q
      · rw [upd_ne hb] at q
        exact absurd h1 q
      · rw [h2] at q
        cases q
end
section
variable {X : Cx} {G : Gh} {e : Expr}
theorem pk_err {F H : Hp} {hs : HS} {ρ : Rho} {σ : St} {a : Addr} {vs : List V} {c : Nat} {d : D} {hs2 : HS} {α β : Type} {rel : Hp → β → α → Prop} {rel2 : Hp → β → α → Prop} {Q Q2 : β → Hp → Prop} (R : Rel G F H hs ρ σ) (na : F a = none) (n : noL d = true)
    (p : post G σ F H rel Q (.err c d hs : Out α)) : post (G.view (upd F a (.lst vs)) H) σ (upd F a (.lst vs)) H rel2 Q2 (.err c d hs2 : Out α) := by
  intro F' H' dx v st _ hx _ dq
  obtain ⟨s1, s2⟩ := look_back R na st
  have fa : F' a = some (.lst vs) := st.ff a _ upd_same
  refine p (cutH F' a) H' dx v s1 s2 hx (fun z => ?_) (dq_cut fa _ _ n dq)
  obtain ⟨_, r, _, h2, _⟩ := s2 dx z
  rw [hx] at h2
  cases h2
theorem e_pk (i : Nat) {g : Rho → M D} (h : ∀ F H : Hp, PE X e (tE (G.view F H) g)) : PE X e (tE G (gPk i g)) := by
  refine peI (t := fun σ H Q => ∃ F1 H1, tE (G.view F1 H1) g σ H Q) ⟨fun pins s σ H Q I ⟨F1, H1, q⟩ => (h F1 H1).run pins s σ H Q I q⟩ ?_
  rintro σ H Q ⟨F, hs, ρ, R, p⟩
  unfold gPk at p
  cases e : ρ[i]? with
  | none => rw [e] at p; exact p.elim
  | some sl =>
    cases sl with
    | own ds =>
      rw [e] at p
      simp only at p
      obtain ⟨a, vs, es, h1, h2, h3, h4, h5⟩ := R.slots i _ e
      have R2 := ((R.freeze e es h1).1).view ⟨[], 0⟩
      refine ⟨upd F a (.lst vs), H, upd F a (.lst vs), ⟨[], 0⟩, viewR i ds ρ, R2, ?_⟩
      cases z : g (viewR i ds ρ) ⟨[], 0⟩ with
      | ok d h' =>
        rw [z] at p
        unfold pkO at p
        by_cases n : noL d = true
        · simp only [if_pos n] at p
          intro F' H' v st _ r
          obtain ⟨s1, s2⟩ := look_back R h2 st
          have fa : F' a = some (.lst vs) := st.ff a _ upd_same
          have nt : isTok d = false := by
            cases d with
            | dict k =>
              rcases r with r | ⟨_, _, q, _⟩
              · cases r
              · cases q
            | _ => rfl
          exact p (cutH F' a) H' v s1 s2 (.inl (dq_cut fa _ _ n (r.dp nt)))
        · simp only [if_neg n] at p
          exact p.elim
      | err c d h' =>
        rw [z] at p
        unfold pkO at p
        by_cases n : noL d = true
        · simp only [if_pos n] at p
          exact pk_err R h2 n p
        · simp only [if_neg n] at p
          exact p.elim
      | stuck => rw [z] at p; exact p.elim
    | _ => rw [e] at p; exact p.elim
theorem t_pk (i : Nat) {u : Rho → M Bool} (h : ∀ F H : Hp, PT X e (tT (G.view F H) u)) : PT X e (tT G (tPk i u)) := by
  refine ptI (t := fun σ H Q => ∃ F1 H1, tT (G.view F1 H1) u σ H Q) ⟨fun pins s σ H Q I ⟨F1, H1, q⟩ => (h F1 H1).run pins s σ H Q I q⟩ ?_
  rintro σ H Q ⟨F, hs, ρ, R, p⟩
  unfold tPk at p
  cases e : ρ[i]? with
  | none => rw [e] at p; exact p.elim
  | some sl =>
    cases sl with
    | own ds =>
      rw [e] at p
      simp only at p
      obtain ⟨a, vs, es, h1, h2, h3, h4, h5⟩ := R.slots i _ e
      have R2 := ((R.freeze e es h1).1).view ⟨[], 0⟩
      refine ⟨upd F a (.lst vs), H, upd F a (.lst vs), ⟨[], 0⟩, viewR i ds ρ, R2, ?_⟩
      cases z : u (viewR i ds ρ) ⟨[], 0⟩ with
      | ok b h' =>
        rw [z] at p
        intro F' H' v st _ r
        obtain ⟨s1, s2⟩ := look_back R h2 st
        exact p (cutH F' a) H' v s1 s2 r
      | err c d h' =>
        rw [z] at p
        unfold pkB at p
        by_cases n : noL d = true
        · simp only [if_pos n] at p
          exact pk_err R h2 n p
        · simp only [if_neg n] at p
          exact p.elim
      | stuck => rw [z] at p; exact p.elim
    | _ => rw [e] at p; exact p.elim
end
/-! reckoning -/
theorem x_gPk {i : Nat} {g : Rho → M D} {ρ : Rho} {ds : List D} {d : D} (e : ρ[i]? = some (.own ds)) (eg : g (viewR i ds ρ) = ret d) (n : noL d = true) : gPk i g ρ = ret d := by
  funext hs
  unfold gPk
  rw [e]
  simp only
  rw [eg]
  show pkO hs (.ok d _) = _
  unfold pkO
  simp only [if_pos n]
  rfl
theorem x_tPk {i : Nat} {u : Rho → M Bool} {ρ : Rho} {ds : List D} {b : Bool} (e : ρ[i]? = some (.own ds)) (eg : u (viewR i ds ρ) = ret b) : tPk i u ρ = ret b := by
  funext hs
  unfold tPk
  rw [e]
  simp only
  rw [eg]
  rfl
@[simp] theorem unT_dat {d : D} (h : isTok d = false) : unT (.dat d) = .dat d := by
  unfold unT
  simp [h]
@[simp] theorem unT_tok : unT (.dat tok) = .no := rfl
@[simp] theorem unT_own (ds : List D) : unT (.own ds) = .no := rfl
@[simp] theorem unT_no : unT .no = .no := rfl
end L2.AR
set_option Elab.async false
set_option linter.all false
set_option maxRecDepth 100000
set_option maxHeartbeats 4000000
/-! Fw25: x is True, sorted of any data that are alike, a list or a tuple taken apart, list(range(..)). -/
namespace L2.AR
open PySem PySem.Spec PyProof.Rows
/-! ### is, of truth values -/
def fIsB : D → D → Option D
  | .bool a, .bool b => some (.bool (decide (a = b)))
  | _, _ => none
def fNotB : D → D → Option D
  | .bool a, .bool b => some (.bool (!decide (a = b)))
  | _, _ => none
section
variable {K : PySem.W.Frag}
theorem isB_ok : R2ok K (fun x y H Q => ∃ a b, x = .bl a ∧ y = .bl b ∧ Q (.bl (decide (a = b))) H) fIsB := by
  intro F H v w x y z Q s hv hw e q
  unfold fIsB at e
  split at e
  · cases e
    cases hv
    cases hw
    exact ⟨_, _, rfl, rfl, q _ _ _ (PStep.refl s) (.bl _)⟩
  · cases e
theorem notB_ok : R2ok K (fun x y H Q => ∃ a b, x = .bl a ∧ y = .bl b ∧ Q (.bl (!decide (a = b))) H) fNotB := by
  intro F H v w x y z Q s hv hw e q
  unfold fNotB at e
  split at e
  · cases e
    cases hv
    cases hw
    exact ⟨_, _, rfl, rfl, q _ _ _ (PStep.refl s) (.bl _)⟩
  · cases e
end
abbrev fIs := fst2 fIsN fIsB
abbrev fNot := fst2 fNotN fNotB
/-! ### sorted, of data that are alike -/
def leD (x y : D) : Bool := !PySem.W.dataLt y x
def tupN : D → Bool
  | .tuple (_ :: _) => true
  | _ => false
def tupNo : D → Bool
  | .tuple _ => false
  | .none => false
  | _ => true
/-- what may be sorted -/
def srtOk (ds : List D) : Bool := (ds.all fun x => ds.all fun y => PySem.W.alike x y) && (ds.all tupN || ds.all tupNo) && (ds.all fun x => decide (x.depth ≤ 40)) && decide (ds.length ≤ 1000000)
def fSortD : List D → Option D
  | [.list ds] => if srtOk ds = true then some (.list (ds.mergeSort leD)) else none
  | _ => none
/-- sorted(xs), xs a list of data that are alike: a new list -/
def rSortedD (K : PySem.W.Frag) : List V → Hp → VK → Prop := fun vs H Q => ∃ (a : Addr) (xs : List V) (ds : List D), vs = [V.ref a] ∧ SqL K H a xs ∧ DqAll K H xs ds ∧ srtOk ds = true ∧
  ∀ ys p, Paired (fun y d => (y, d) ∈ xs.zip ds) ys (ds.mergeSort leD) → H p = none → Q (.ref p) (upd H p (.lst ys))
section
variable {X : Cx}
theorem reads_at {pins : List (Addr × Obj)} {σ : St} {H : Hp} {s : Shared} (I : Inv X pins σ H s) : ∀ {vs : List V} {ds : List D} {us : List Value}, DqAll X.K H vs ds → Vals vs us → PySem.W.EachIs (fun u d => ∃ as, Reads s.heap u d as) us ds
  | _, _, _, .nil, .nil => .nil
  | _, _, _, .cons r h, .cons q t => .cons (Dp.reads I _ _ _ (dq_dp _ _ r) q) (reads_at I h t)
theorem zip_at {L : List (V × D)} {K : PySem.W.Frag} {H : Hp} : ∀ {vs : List V} {ds : List D} {us : List Value}, DqAll K H vs ds → Vals vs us → (∀ z ∈ vs.zip ds, z ∈ L) → PySem.W.EachIs (fun u d => ∃ v, RelV v u ∧ (v, d) ∈ L) us ds
  | _, _, _, .nil, .nil, _ => .nil
  | _, _, _, .cons r h, .cons q t, m => .cons ⟨_, q, m _ (by simp)⟩ (zip_at h t fun z mz => m z (by simp [mz]))
theorem zip_back {L : List (V × D)} : ∀ {us : List Value} {ds : List D}, PySem.W.EachIs (fun u d => ∃ v, RelV v u ∧ (v, d) ∈ L) us ds → ∃ ys, Vals ys us ∧ Paired (fun y d => (y, d) ∈ L) ys ds
  | _, _, .nil => ⟨[], .nil, .nil⟩
  | _, _, .cons ⟨v, r, m⟩ t => by
    obtain ⟨ys, h1, h2⟩ := zip_back t
    exact ⟨v :: ys, .cons r h1, .cons m h2⟩
theorem vals_len : ∀ {ys : List V} {us : List Value}, Vals ys us → ys.length = us.length
  | _, _, .nil => rfl
  | _, _, .cons _ t => congrArg (· + 1) (vals_len t)
theorem cr_sortedD (hu : X.A.units + 64 < cLine) : CallR X (.builtin "sorted") (rSortedD X.K) := by
  intro pins s σ H vs us Q I r h
  obtain ⟨a, xs, ds, rfl, hs, hd, ok, q⟩ := h
  unfold srtOk at ok
  simp only [Bool.and_eq_true, decide_eq_true_eq] at ok
  obtain ⟨⟨⟨k1, k2⟩, k3⟩, k4⟩ := ok
  obtain ⟨its, rv, hl, hz⟩ := I.list hs
  obtain ⟨u, rfl, ru⟩ := vals1 r
  obtain rfl : u = Value.ref a := ru
  have al : PySem.W.AllAlike (ds.map fun d => d) := by
    rw [List.map_id']
    intro x hx y hy
    exact List.all_eq_true.mp (List.all_eq_true.mp k1 x hx) y hy
  have so : PySem.W.Sortable (ds.map fun d => d) := by
    rw [List.map_id']
    rw [Bool.or_eq_true] at k2
    rcases k2 with k2 | k2
    · refine .inl fun d m => ?_
      have := List.all_eq_true.mp k2 d m
      cases d with
      | tuple zs =>
        cases zs with
        | nil => cases this
        | cons z zs => exact ⟨z, zs, rfl⟩
      | _ => cases this
    · refine .inr fun d m => ?_
      have := List.all_eq_true.mp k2 d m
      cases d with
      | none => cases this
      | tuple zs => cases this
      | _ => exact ⟨(fun z => by cases z), fun _ z => by cases z⟩
  refine PySem.W.sorted_data (enc := fun d : D => d) (R := fun u d => ∃ v, RelV v u ∧ (v, d) ∈ xs.zip ds) hl.isList (zip_at hd rv fun z m => m) (reads_at I hd rv) al so (by rw [sizeLine_eq]; omega) (fun d m => ?_) fun out ho eo => ?_
  · have := List.all_eq_true.mp k3 d m
    have := of_decide_eq_true this
    omega
  · obtain ⟨ys, h1, h2⟩ := zip_back eo
    obtain ⟨n, hn⟩ := sortedAll_at s.heap its out.toArray
    refine ⟨.ref _, upd H (s.heap.objs.size + 1) (.lst ys), I.laid (t' := s.toks) (fun b o e => sortedAll_old e) (Nat.le_succ _) ⟨?_, out, n, h1, hn⟩, rfl, q ys _ h2 (I.hok.fresh (Nat.le_succ _))⟩
    rw [vals_len h1, ho, sizeLine_eq]
    omega
end
section
variable {K : PySem.W.Frag}
theorem dq_zip {F : Hp} : ∀ {vs : List V} {ds : List D}, DqAll K F vs ds → ∀ z ∈ vs.zip ds, Dq K F z.1 z.2
  | _, _, .nil, z, m => by cases m
  | _, _, .cons r h, z, m => by
    rcases List.mem_cons.mp m with rfl | m
    · exact r
    · exact dq_zip h z m
theorem dq_pair {F : Hp} {L : List (V × D)} (hL : ∀ z ∈ L, Dq K F z.1 z.2) : ∀ {ys : List V} {ds : List D}, Paired (fun y d => (y, d) ∈ L) ys ds → DqAll K F ys ds
  | _, _, .nil => .nil
  | _, _, .cons m t => .cons (hL _ m) (dq_pair hL t)
theorem sortD_ok : RAok K (rSortedD K) fSortD := by
  intro F H vs ds z Q s h e q
  unfold fSortD at e
  split at e
  · rename_i xs
    obtain ⟨v, rfl, r⟩ := one_val h
    by_cases ok : srtOk xs = true
    · rw [if_pos ok] at e
      cases e
      cases r with
      | lst h1 h2 =>
        rename_i a ws
        refine ⟨a, ws, xs, rfl, SqL.of (s _ _ h1), dpAll_same s _ _ h2, ok, fun ys p pr np => ?_⟩
        have hy := dq_pair (dq_zip h2) pr
        exact q _ _ _ (PStep.alloc s np (o := .lst ys)) (.lst upd_same (dpAll_same (PStep.alloc s np (o := .lst ys)).ff _ _ hy))
    · rw [if_neg ok] at e
      cases e
  · cases e
end
/-! ### a list or a tuple, taken apart -/
def tgL (ts : List Tgt) : Tgt := fun d ρ =>
  match d with
  | .tuple ds => tgAll ts ds ρ
  | .list ds => tgAll ts ds ρ
  | _ => none
def gBoth (K : PySem.W.Frag) (n : Nat) (t : TGs) : TG := fun v σ H Q => gTup K n t v σ H Q ∨ gLst K n t v σ H Q
section
variable {X : Cx} {G : Gh} {pos : Pos}
theorem pg_both {es : List Expr} {k : Nat} {t : TGs} {n : Nat} (hc : X.calm = true) (h : PGs X es t)
    (hn : (assignEach es X.env).length = n := by rfl) (hst : (assignEach es X.env).findIdx? (·.1) = none := by rfl) : PG X (.Tuple es k pos) (gBoth X.K n t) :=
  ⟨fun pins s σ H v u Q I r q => q.elim (fun q => (pg_tup hc h hn hst).run pins s σ H v u Q I r q) fun q => (pg_lst hc h hn hst).run pins s σ H v u Q I r q⟩
theorem tgAll_len : ∀ (ts : List Tgt) (ds : List D) (ρ ρ' : Rho), tgAll ts ds ρ = some ρ' → ds.length = ts.length
  | [], [], _, _, _ => rfl
  | [], _ :: _, _, _, z => by cases z
  | _ :: _, [], _, _, z => by cases z
  | t :: ts, d :: ds, ρ, ρ', z => by
    have z' : (t d ρ).bind (tgAll ts ds) = some ρ' := z
    cases w : t d ρ with
    | none => rw [w] at z'; cases z'
    | some ρ1 =>
      rw [w] at z'
      exact congrArg (· + 1) (tgAll_len ts ds ρ1 ρ' z')
theorem gBoth_ok {vs : List Nat} {gs : TGs} {ts : List Tgt} {n : Nat} (h : GsOk G vs gs ts) (hn : ts.length = n := by rfl) : GOk G vs (gBoth G.K n gs) (tgL ts) := by
  intro F H hs ρ ρ' σ v d Q R r e q
  cases d with
  | tuple ds => exact .inl (gTup_ok h hn F H hs ρ ρ' σ v (.tuple ds) Q R r e q)
  | list ds =>
    cases r.dp rfl with
    | lst h1 h2 => exact .inr ⟨_, _, rfl, SqL.of (R.sub _ _ h1), by rw [dpAll_len h2, tgAll_len _ _ _ _ e, hn], h F H hs ρ ρ' σ _ ds Q R h2 e q⟩
  | _ => cases e
@[simp] theorem x_tgLt (ts : List Tgt) (ds : List D) (ρ : Rho) : tgL ts (.tuple ds) ρ = tgAll ts ds ρ := rfl
@[simp] theorem x_tgLl (ts : List Tgt) (ds : List D) (ρ : Rho) : tgL ts (.list ds) ρ = tgAll ts ds ρ := rfl
/-! ### list(range(..)) -/
def fLrg : List D → Option D
  | [.int j] => if 0 ≤ j ∧ j ≤ 100000 then some (.list (upTo 0 j.toNat)) else none
  | [.int i, .int j] => if 0 ≤ i ∧ 0 ≤ j ∧ i ≤ 100000 ∧ j ≤ 100000 then some (.list (upTo i (j - i).toNat)) else none
  | _ => none
theorem rgV_dq {K : PySem.W.Frag} {F : Hp} (a b : Int) : DqAll K F (rgV a b) (upTo a (b - a).toNat) := by
  unfold rgV upTo
  have key : ∀ l : List Nat, DqAll K F (l.map fun i => V.int (a + (i : Nat))) (l.map fun (k : Nat) => PyData.int (a + k)) := by
    intro l
    induction l with
    | nil => exact .nil
    | cons x l ih => exact .cons (.int _) ih
  exact key _
theorem E_lrg1 {a : Expr} {ga : Rho → M D} {p p2 q : Pos} (hc : X.calm = true) (hg : Gl X "list") (hm : X.mg "list" = none) (hg2 : Gl X "range") (hm2 : X.mg "range" = none) (ha : PE X a (tE G ga))
    (na : starEach [a] X.env = (false, eval a X.env) :: starEach [] X.env := by rfl)
    (nb : starEach [.Call (.Name "range" p2) [a] [] q] X.env = (false, eval (.Call (.Name "range" p2) [a] [] q) X.env) :: starEach [] X.env := by rfl) :
    PE X (.Call (.Name "list" p) [.Call (.Name "range" p2) [a] [] q] [] pos) (tE G (cA fLrg (aC ga aN))) := by
  refine peI (pe_listRg hc hg hm (prg_1 hg2 hm2 ha na) nb) ?_
  rintro σ H Q ⟨F, hs, ρ, R, p⟩
  have p' : post G σ F H (relE G) Q (bnd (ga ρ) (fun d => opA fLrg [d]) hs) := by
    have e : cA fLrg (aC ga aN) ρ = bnd (ga ρ) fun d => opA fLrg [d] := by
      funext h
      show bnd (bnd (ga ρ) _) _ h = _
      rw [bnd_assoc]
      rfl
    rw [e] at p
    exact p
  refine (rd_bind (rel := relE G) R p').mono ?_
  rintro v H1 ⟨F1, hs1, d, R1, s1, r1, p1⟩
  cases d with
  | int j =>
    cases r1.dp rfl
    have p2 : post G σ F1 H1 (relE G) Q (lift (fLrg [.int j]) hs1) := p1
    have e : fLrg [.int j] = if 0 ≤ j ∧ j ≤ 100000 then some (.list (upTo 0 j.toNat)) else none := rfl
    rw [e] at p2
    by_cases hb : 0 ≤ j ∧ j ≤ 100000
    · rw [if_pos hb] at p2
      refine ⟨j, rfl, RgOk.of_le (by omega) (by omega) (by omega) (by omega), fun q nq => ?_⟩
      have dq : DqAll G.K (upd F1 q (.lst (rgV 0 j))) (rgV 0 j) (upTo 0 j.toNat) := by
        have := rgV_dq (K := G.K) (F := upd F1 q (.lst (rgV 0 j))) 0 j
        rwa [Int.sub_zero] at this
      exact post_ret' R1 p2 (PStep.alloc R1.sub nq) (.inl (.lst upd_same dq))
    · rw [if_neg hb] at p2
      exact p2.elim
  | dict k =>
    have p2 : post G σ F1 H1 (relE G) Q (opA fLrg [.dict k] hs1) := p1
    exact p2.elim
  | _ => exact p1.elim
end
end L2.AR
set_option Elab.async false
set_option linter.all false
set_option maxRecDepth 100000
set_option maxHeartbeats 4000000
/-! Fw26: {e for x in ..}, e a whole number: a set comprehension of whole numbers (the library has one of truth values). -/
namespace L2.AR
open PySem PySem.Spec PyProof.Rows PySem.Calls
/-- y goes into the set at D, and then Nx -/
def addS (w : World) (D : Addr) (y : V) (H : Hp) (Nx : Hp → Prop) : Prop := ∃ (k : Int) (S : Int → Bool) (n : Nat), y = .int k ∧ H D = some (SetO w D S n) ∧ n + 1 < scanBound ∧ Nx (upd H D (SetO w D (fun j => S j || decide (j = k)) (if S k = true then n else n + 1)))
def tSI (w : World) (wi : TI) (g : TG) (tt : TT) (te : TE) (vs : List Nat) : TE := fun σ H Q => wi σ H fun J H1 => ∀ D, H1 D = none → ∃ W : Nat → Nat → Hp → Prop, (∃ m, W 0 m (upd H1 D (SetO w D (fun _ => false) 0))) ∧
  ∀ i m H, W i m H → (J.stop i H ∧ Q (.ref D) H) ∨ (J.go i H ∧ ∃ Nx : Hp → Prop, (∀ H', Nx H' → ∃ m', m' < m ∧ W (i + 1) m' H') ∧
    ∀ x H', J.yld i H x H' → g x (L2.wipe σ vs) H' fun σ2 H2 => L2.wipe σ2 vs = L2.wipe σ vs ∧ tt σ2 H2 fun b H3 => if b = true then te σ2 H3 fun y H4 => addS w D y H4 Nx else Nx H3)
/-- what a block's parts say, wherever the block's frame lies -/
abbrev InBlk (X : Cx) (scope : Scope) (T : Cx → Prop) : Prop := ∀ (s : Shared) (H : Hp) (C : Addr) (cl : List (Str × Addr)) (fp : List Addr), T (X.blk s H scope (compEnvC scope cl C X.env) fp)
section
variable {X : Cx}
open PpSet in
theorem pe_sI {elt tg iter : Expr} {ifs : List Expr} {scope : Scope} {own : List (Str × Nat)} {pos : Pos} {wi : TI} {g : TG} {tt : TT} {te : TE} (calm : X.calm = true) (nd : X.N.Nodup) (walk : PI X tg iter wi) (blk : BlkOk X.N X.env.scope scope own)
    (aim : InBlk X scope fun Y => PG Y tg g) (test : InBlk X scope fun Y => PTs Y ifs tt) (val : InBlk X scope fun Y => PE Y elt te) (fold : ∀ x, foldedSetIterable iter X.env x = pure x := by intro _; rfl) :
    PE X (.SetComp elt [⟨tg, iter, ifs, 0⟩] scope pos) (tSI X.w wi g tt te (own.map (·.2))) := by
  refine ⟨fun pins s σ H Q I say => ?_⟩
  rw [eval_SetComp]
  have known : ∀ y ∈ scope.names, y.2 = .free → ∃ c, X.env.cells.lookup y.1 = some c := fun y m e => (blk.free y m e).elim (fun z => I.ok.has _ (.inl z)) fun z => I.ok.has _ (.inr z)
  apply wpAny_comprehension_free rfl fold (closure_ok known) blk.kind (fun y m e => by rw [blk.uniq y m, e])
  apply thn (walk.run pins s σ H _ I say)
  intro xv s1 hx
  apply thn hx
  rintro itv s2 ⟨it, fp, tn, J, H2, rfl, I2, T, at2, far2, way⟩
  apply newSet_ok
  apply newEnv_comp
  generalize eD : s2.heap.objs.size = D
  have freeD : H2 D = none := I2.hok.fresh (Nat.le_of_eq eD)
  obtain ⟨W, ⟨m0, first⟩, turns⟩ := way D freeD
  let emptyO : HO := SetO X.w D (fun _ => false) 0
  generalize e3 : ({ s2 with heap := s2.heap.push { cls := .type "set", dict := none, data := .set #[] 0 (.fresh 0 0 (!X.w.params.followText "set-order")) } } : Shared) = s3
  have heap3 : s3.heap = s2.heap.push { cls := .type "set", dict := none, data := .set #[] 0 (.fresh 0 0 (!X.w.params.followText "set-order")) } := by subst e3; rfl
  have I3 : Inv X pins σ (upd H2 D emptyO) s3 := by
    subst e3
    exact I2.laid (t' := s2.toks) (fun b o e => Heap.get?_push_of_some _ e) (Nat.le_of_eq eD) (by subst eD; exact setO_new (setR_fresh X.w))
  have low : ∀ b ∈ fp, b < s2.heap.objs.size := fun b m => (T.obj _ _ at2 b m).elim fun o z => Heap.lt_size z.1
  have far3 : ∀ b ∈ fp, FpOk X pins (upd H2 D emptyO) b ∧ b < s3.heap.objs.size := fun b m => by
    have l := low b m
    have nb : b ≠ D := by rw [← eD]; exact Nat.ne_of_lt l
    exact ⟨⟨(upd_ne nb).trans (far2 b m).1, (far2 b m).2⟩, by rw [heap3, Heap.size_push]; exact Nat.lt_succ_of_lt l⟩
  have at3 : tn 0 s3.heap := T.keep _ _ _ at2 fun b _ o e => heap3 ▸ Heap.get?_push_of_some _ e
  have I4 := block_start I3 blk nd far3
  have pg := aim s3 (upd H2 D emptyO) s3.heap.objs.size (cellsFrom (s3.heap.objs.size + 1) scope.names (cloFrom X.env.cells scope.names [])) fp
  have pt := test s3 (upd H2 D emptyO) s3.heap.objs.size (cellsFrom (s3.heap.objs.size + 1) scope.names (cloFrom X.env.cells scope.names [])) fp
  have pe := val s3 (upd H2 D emptyO) s3.heap.objs.size (cellsFrom (s3.heap.objs.size + 1) scope.names (cloFrom X.env.cells scope.names [])) fp
  let fr := compEnvC scope (cellsFrom (s3.heap.objs.size + 1) scope.names (cloFrom X.env.cells scope.names [])) s3.heap.objs.size X.env
  let begun : Shared := { s3 with heap := pushCells (s3.heap.push { cls := .type "dict", data := .dict #[] }) scope.names }
  change codeAny (model X.prog X.w) X.A (.compStart _ 0 (.ref it) (.ref D) fr) (compPost (model X.prog X.w) X.A X.xe none (EP X pins σ Q) (.ref D) s3.heap.objs.size) begun
  generalize ef : compEnvC scope (cellsFrom (s3.heap.objs.size + 1) scope.names (cloFrom X.env.cells scope.names [])) s3.heap.objs.size X.env = ce at I4 pg pt pe
  have frame : ce.locals = s3.heap.objs.size := by rw [← ef]; rfl
  have hid3 : ∀ b ∈ fp, (upd H2 D emptyO) b = none := fun b m => (far3 b m).1.1
  generalize eH : upd H2 D emptyO = H3 at I3 I4 pg pt pe hid3 far3
  have first : W 0 m0 H3 := by rw [← eH]; exact first
  generalize e4 : ({ s3 with heap := pushCells (s3.heap.push { cls := .type "dict", data := .dict #[] }) scope.names } : Shared) = s4 at I4
  have at4 : tn 0 s4.heap := T.keep _ _ _ at3 fun b _ o e => by rw [← e4]; exact pushCells_keeps _ _ _ _ (Heap.get?_push_of_some _ e)
  let Y := X.blk s3 H3 scope ce fp
  have still : ∀ {σ' : St} {H' : Hp} {s' : Shared}, Inv Y [] σ' H' s' → (∀ b ∈ fp, H' b = none) → ∀ b ∈ fp, FpOk Y [] H' b := fun {σ' H' s'} J' hid b m =>
    ⟨hid b m, (J'.ok.exf b m).1, J'.ok.exfs b m, .inl m, fun x c e => (J'.ok.exf b m).2 x c e, fun p z => absurd z (by show p ∉ ([] : List (Addr × Obj)) ++ []; simp)⟩
  have loop : codeAny (model X.prog X.w) X.A (.compLoop (.SetComp elt [⟨tg, iter, ifs, 0⟩] scope pos) 0 (.ref it) (.ref D) ce) (compPost (model X.prog X.w) X.A X.xe none (EP X pins σ Q) (.ref D) s3.heap.objs.size) s4 := by
    let In : Nat → Shared → Prop := fun n s' => ∃ i H', Inv Y [] (L2.wipe σ (own.map (·.2))) H' s' ∧ tn i s'.heap ∧ (∀ b ∈ fp, H' b = none) ∧ W i n H'
    apply compLoopS_any In _ m0 ⟨0, H3, I4, at4, hid3, first⟩
    rintro n s5 ⟨i, H5, I5, at5, hid5, here⟩
    have stay5 := still I5 hid5
    rcases turns i n H5 here with ⟨stop, fin⟩ | ⟨go, Nx, less, turn⟩
    · -- no turn more: back in the def's frame
      apply thnF (T.done Y rfl rfl rfl calm i [] s5 _ H5 (fun _ _ => False) I5 stay5 at5 stop)
      rintro r s6 ⟨rfl, I6⟩
      have I7 : Inv X pins σ H5 s6 := I3.call' (ch := fp) I6.os I6.base I6.hok I6.bare fun b m => (far3 b m).1.2.elim fun z1 z2 => ⟨z2.2.1, z1, z2.2.2.1, z2.2.2.2⟩
      have freeC : H5 s3.heap.objs.size = none := frame ▸ (show H5 ce.locals = none from I6.free)
      obtain ⟨mm, names, _⟩ := I6.loc
      have names : s6.heap.Ns s3.heap.objs.size mm := frame ▸ (show s6.heap.Ns ce.locals mm from names)
      obtain ⟨f0, f1, f2, f3, f4, f5⟩ := I3.fpOk (Nat.le_refl _) freeC
      exact ⟨mm, names, fun h2 sb => ⟨.ref D, H5, I7.turned (t' := s6.toks) (fun b o nb e => (sb.2 b nb).trans e) f0 f1 f3 f4 f5, rfl, fin⟩⟩
    · -- one turn more
      apply thnF (T.item Y rfl rfl rfl calm i [] s5 _ H5 (fun _ _ => False) I5 stay5 at5 go)
      rintro r s6 ⟨u, rfl, h6⟩
      apply thnF h6
      rintro _ s7 ⟨x, H7, I7, r7, y7, at7, hid7⟩
      have P7 := I7.pinned (still I7 hid7) (T.obj _ _ at7)
      apply thnF (pg.run _ s7 _ H7 x u _ P7 r7 (turn x H7 y7))
      rintro _ s8 ⟨σ8, H8, I8, same8, q8⟩
      apply thnF (pt.run _ s8 σ8 H8 _ I8 q8)
      rintro b s9 ⟨H9, I9, q9⟩
      have next : ∀ {s' : Shared} {H' : Hp}, Inv Y ([] ++ pinsAt fp s7.heap) σ8 H' s' → Nx H' → ∃ m, m < n ∧ In m s' := fun {s' H'} J' nx => by
        obtain ⟨m', lt, w'⟩ := less H' nx
        have held : ∀ b ∈ fp, ∀ o, s7.heap.get? b = some o → s'.heap.get? b = some o ∧ H' b = none := fun b m o e => (J'.pin (b, o) (List.mem_append_right _ (List.mem_append_right _ (mem_pinsAt m e)))).elim fun z1 z2 => ⟨z1, z2.1⟩
        refine ⟨m', lt, i + 1, H', (J'.unpinned (pins := [])).weak (by rw [← same8, L2.wipe_length]) (fun j v e => (L2.wipe_some (by rw [same8]; exact e)).1), T.keep _ _ _ at7 fun b m o e => (held b m o e).1, fun b m => ?_, w'⟩
        obtain ⟨o, e, _⟩ := T.obj _ _ at7 b m
        exact (held b m o e).2
      cases b with
      | false => exact next I9 (by simpa using q9)
      | true =>
        have q9 : te σ8 H9 fun y H4 => addS X.w D y H4 Nx := by simpa using q9
        show wpAny _ _ _ _ _ _
        apply thnF (pe.run _ s9 σ8 H9 _ I9 q9)
        rintro z s10 ⟨yv, H10, I10, r10, k, S, c, rfl, hD, room, nx⟩
        refine wpAny_mono (mt_sadd (X := Y) _ s10 σ8 H10 (.ref D) [.int k] (.ref D) [z] (fun _ H' => Nx H') I10 rfl (.cons r10 .nil) ⟨D, k, S, c, rfl, rfl, hD, room, nx⟩) ?_ fun _ _ e => e.elim
        rintro _ s11 ⟨_, H11, I11, _, nx11⟩
        exact next I11 nx11
  have whole := codeAny_compStart_set loop (T.self X.A 0 _ _ _ at4 loop)
  rw [← e4, ← ef] at whole
  exact whole
end
end L2.AR
set_option Elab.async false
set_option linter.all false
set_option maxRecDepth 100000
set_option maxHeartbeats 4000000
/-! Fw27: set(xs), xs a list of whole numbers; sorted of such a set. -/
namespace L2.AR
open PySem PySem.Spec PyProof.Rows PySem.Calls
section
variable {P : Program} {w : World} {A : Around} {E : Value → Shared → Prop} {s : Shared}
set_option maxHeartbeats 3200000 in
theorem set_of_list {l : Addr} {its : Array Value} (ns : List Int) {Q : Value → Shared → Prop} (free : A.handled = none) (at_l : s.heap.IsList l its) (nums : IntsAre its.toList ns) (few : ns.length + 1 < scanBound)
    (say : ∀ (h' : Heap) (tk c : Nat), SetR w h' s.heap.objs.size (fun j => decide (j ∈ ns)) c → (∀ b o, s.heap.get? b = some o → h'.get? b = some o) → Q (.ref s.heap.objs.size) { s with heap := h', toks := tk }) : wpAny (model P w) A (call (.type "set") [.ref l]) Q E s := by
  have size : its.size = ns.length := by have z := nums.length; rwa [Array.length_toList] at z
  have ⟨c, tl, hmro⟩ := F.called_set.mro
  have hmade := F.called_set.made; have hsub := F.called_set.sub
  apply wpAny_call; apply codeAny_of_tree
  change wpAny _ _ (callAny (.type "set") _) _ _ _
  apply wpAny_pure; refine ⟨Code.quiet_builtin _ (by decide +kernel), codeAny_builtin F.entry_type_call ?_⟩
  rw [Around.under_plain (weight_type_call_type "set" [.ref l] []) rfl]
  have h1 := F.called_set.notType; have h2 := F.called_set.canCreate; have hct := F.typeCall_set_1 (.ref l)
  repeat (any_goals (first | assumption | wp_step))
  generalize en : s.heap.push { cls := .type "set", dict := none, data := .set #[] 0 (.fresh 0 0 (!w.params.followText "set-order")) } = hn
  refine codeAny_mono (code_set_led1 (.ref l) (E := E) (Q₁ := fun o t => o = .ref s.heap.objs.size ∧ t = { s with heap := hn }) ⟨rfl, by rw [en]⟩) fun r t hr => ?_
  cases r with
  | error e => exact hr
  | ok fl => cases fl with
    | ret obj =>
      obtain ⟨rfl, rfl⟩ := hr
      have lies : hn.get? s.heap.objs.size = some { cls := .type "set", dict := none, data := .set #[] 0 (.fresh 0 0 (!w.params.followText "set-order")) } := by rw [← en]; exact Heap.get?_push_size _ rfl
      have hT : Shared.TypeIs { s with heap := hn } (.ref s.heap.objs.size) "set" := ⟨_, lies, rfl⟩
      have hli := F.called_set.init.lookup; have hbi := F.called_set.init.bind (.ref s.heap.objs.size)
      repeat (any_goals (first | assumption | wp_step))
      refine codeAny_mono (codeAny_call_builtin (R := wants (fun o t => o = .none ∧ ∃ h' tk c, t = { s with heap := h', toks := tk } ∧ SetR w h' s.heap.objs.size (fun j => decide (j ∈ ns)) c ∧ ∀ b u, s.heap.get? b = some u → h'.get? b = some u) E) F.called_set.init.plain F.entry_set_init (check_set_init_1 hT ?_)) fun o t ho => ?_
      · obtain ⟨⟨lc, ld, ldt, lsl⟩, hol, rfl, nl, rfl⟩ := at_l
        have grow : ∀ {b : Addr} {u : Obj}, s.heap.get? b = some u → hn.get? b = some u := fun {b u} e => by rw [← en]; exact Heap.get?_push_of_some _ e
        have on : hn.IsList l its := ⟨_, grow hol, rfl, nl, rfl⟩
        have hol' := grow hol
        have hsls := F.sub_list_set; have hslf := F.sub_list_frozenset
        have hne : (Value.type "list" == Value.type "dict") = false := by decide
        have big : hn.objs.size = s.heap.objs.size + 1 := by rw [← en]; exact Heap.size_push ..
        have lo : l < s.heap.objs.size := Heap.lt_size hol
        have calm3 : A.in1.in1.in1.handled = none := by simp [free]
        unfold Builtin.«set.__init__» noKeywords Builtin.Frozenset.updateFrom
        generalize hPI : pyIter = PI
        wp_walk
        subst hPI
        apply wpAny_pyIter_list on; apply wpAny_bind; apply wpAny_runValue
        have each : ∀ (i : Nat) (v : Value), its[i]? = some v → ∃ k t, ns[i]? = some k ∧ v = .int k t := fun i v e => by
          have lt : i < ns.length := size ▸ (Array.getElem?_eq_some_iff.mp e).1
          obtain ⟨t, et⟩ := PyProof.Rows.IntsAre.int_at nums i v (by rw [Array.getElem?_toList]; exact e)
          exact ⟨ns[i], t, List.getElem?_eq_getElem lt, by rw [et, List.getD_eq_getElem?_getD, List.getElem?_eq_getElem lt] <;> rfl⟩
        have apart : l ≠ hn.objs.size := by rw [big]; exact Nat.ne_of_lt (Nat.lt_succ_of_lt lo)
        have away : s.heap.objs.size ∉ [hn.objs.size, l] := fun z => (List.mem_cons.mp z).elim (fun z => absurd z (by rw [big]; exact Nat.ne_of_lt (Nat.lt_succ_self _))) fun z => absurd (List.mem_singleton.mp z) (Nat.ne_of_gt lo)
        apply set_update_ints ((Walks.list calm3 hn.objs.size l apart its).toS) s.heap.objs.size away ns size few each (its.size - 0) 0 _ (by omega) (Nat.zero_le _) ⟨⟨_, Heap.get?_push_size _ rfl, rfl, rfl⟩, on.push _⟩ ⟨0, Nat.le_refl 0, setR_new_at (Heap.get?_push_of_some _ lies)⟩
        rintro ⟨h', g2, d', tk', os'⟩ c' mv le fin
        obtain rfl : g2 = s.gens := mv.gens
        obtain rfl : d' = s.drawn := mv.drawn
        obtain rfl : os' = s.os := mv.os
        show wpAny _ _ _ _ _ _
        apply wpAny_pure
        show wpAny _ _ (PySem.ret Value.none) _ _ _
        exact wpAny_pure ⟨rfl, h', tk', c', rfl, fin, fun b u e => mv.heap b u (fun z => (List.mem_cons.mp z).elim (fun z => absurd z (Nat.ne_of_lt (Heap.lt_size e))) fun z => absurd (List.mem_singleton.mp z) (by rw [big]; exact Nat.ne_of_lt (Nat.lt_succ_of_lt (Heap.lt_size e)))) (Heap.get?_push_of_some _ (grow e))⟩
      · cases o with
        | error e => exact ho
        | ok fl => cases fl with
          | ret o =>
            obtain ⟨rfl, h', tk, c, rfl, fin, old⟩ := ho
            repeat (any_goals (first | assumption | wp_step))
            exact say _ _ _ fin old
          | _ => exact ho.elim
    | _ => exact hr.elim
end
end L2.AR
set_option Elab.async false
set_option linter.all false
set_option maxRecDepth 100000
set_option maxHeartbeats 4000000
/-! Fw28: len(set(x)), sorted(set(x)), sorted({e for ..}), whole numbers. -/
namespace L2.AR
open PySem PySem.Spec PyProof.Rows
/-- each number once -/
def dedI (l : List Int) : List Int := l.foldl (fun r k => if k ∈ r then r else r ++ [k]) []
theorem dedI_snoc (l : List Int) (k : Int) : dedI (l ++ [k]) = if k ∈ dedI l then dedI l else dedI l ++ [k] := by
  unfold dedI
  rw [List.foldl_append]
  rfl
theorem snoc_cases {α : Type} {P : List α → Prop} (h0 : P []) (h1 : ∀ l x, P l → P (l ++ [x])) (l : List α) : P l := by
  have key : ∀ (r : List α), P r.reverse := by
    intro r
    induction r with
    | nil => exact h0
    | cons x r ih => rw [List.reverse_cons]; exact h1 _ _ ih
  have := key l.reverse
  rwa [List.reverse_reverse] at this
theorem dedI_ok (l : List Int) : (dedI l).Nodup ∧ ∀ k, k ∈ dedI l ↔ k ∈ l := by
  refine snoc_cases (P := fun l => (dedI l).Nodup ∧ ∀ k, k ∈ dedI l ↔ k ∈ l) ⟨.nil, fun k => .rfl⟩ (fun l x ih => ?_) l
  obtain ⟨nd, m⟩ := ih
  rw [dedI_snoc]
  by_cases c : x ∈ dedI l
  · rw [if_pos c]
    refine ⟨nd, fun k => ?_⟩
    rw [List.mem_append, List.mem_singleton, m k]
    constructor
    · exact .inl
    · rintro (z | rfl)
      · exact z
      · exact (m _).mp c
  · rw [if_neg c]
    refine ⟨List.nodup_append.mpr ⟨nd, by simp, fun a ha b hb e => ?_⟩, fun k => by rw [List.mem_append, List.mem_append, m k]⟩
    have : b = x := by simpa using hb
    subst this
    exact c (e ▸ ha)
theorem dedI_len (l : List Int) : (dedI l).length ≤ l.length := by
  refine snoc_cases (P := fun l => (dedI l).length ≤ l.length) (Nat.le_refl _) (fun l x ih => ?_) l
  rw [dedI_snoc]
  split <;> simp <;> omega
theorem setR_count {w : World} {h : Heap} {a : Addr} {ns : List Int} {c : Nat} (R : SetR w h a (fun j => decide (j ∈ ns)) c) : c = (dedI ns).length := by
  obtain ⟨o, es, ep, t, ho, hx, hd, g, nd, hm, hb, hf, hn, _⟩ := R
  have p : (es.toList.map keyOf).Perm (dedI ns) := (List.perm_ext_iff_of_nodup nd (dedI_ok ns).1).mpr fun k => by
    rw [← hm k, (dedI_ok ns).2 k]
    exact decide_eq_true_iff
  have := p.length_eq
  rw [List.length_map, Array.length_toList] at this
  omega
/-! ### set(x) -/
def rSetI (K : PySem.W.Frag) (w : World) : List V → Hp → VK → Prop := fun vs H Q => ∃ (l : Addr) (ns : List Int), vs = [V.ref l] ∧ (SqL K H l (ns.map V.int) ∨ SqT K H l (ns.map V.int)) ∧ ns.length ≤ 4000 ∧
  ∀ p, H p = none → Q (.ref p) (upd H p (SetO w p (fun j => decide (j ∈ ns)) (dedI ns).length))
def rLenS (w : World) : List V → Hp → VK → Prop := fun vs H Q => ∃ (a : Addr) (S : Int → Bool) (n : Nat), vs = [V.ref a] ∧ H a = some (SetO w a S n) ∧ n ≤ 4000 ∧ Q (.int n) H
section
variable {X : Cx}
theorem cr_setI (hc : X.calm = true) : CallR X (.type "set") (rSetI X.K X.w) := by
  intro pins s σ H vs us Q I r h
  obtain ⟨l, ns, rfl, hs, few, q⟩ := h
  rw [Vals.ref1 r]
  have room : ns.length + 1 < scanBound := by unfold scanBound; omega
  have fin : ∀ (h' : Heap) (tk c : Nat), SetR X.w h' s.heap.objs.size (fun j => decide (j ∈ ns)) c → (∀ b o, s.heap.get? b = some o → h'.get? b = some o) → EP X pins σ Q (.ref s.heap.objs.size) { s with heap := h', toks := tk } := fun h' tk c R k => by
    obtain rfl := setR_count R
    exact ⟨.ref s.heap.objs.size, upd H s.heap.objs.size (SetO X.w s.heap.objs.size (fun j => decide (j ∈ ns)) (dedI ns).length), I.laid (t' := tk) k (Nat.le_refl _) (setO_new R), rfl, q _ (I.hok.fresh (Nat.le_refl _))⟩
  rcases hs with hs | hs
  · obtain ⟨its, rv, hl, _⟩ := I.list hs
    exact set_of_list ns (I.ok.hd hc) hl.isList (by simpa using rv.ints) room fin
  · obtain ⟨its, rv, hT, _⟩ := I.tuple hs
    exact call_set_tupI ns (I.ok.hd hc) hT (by simpa using rv.ints) room fun h' tk c R _ k => fin h' tk c R k
theorem cr_lenS : CallR X (.builtin "len") (rLenS X.w) := by
  intro pins s σ H vs us Q I r h
  obtain ⟨a, S, n, rfl, ha, few, q⟩ := h
  rw [Vals.ref1 r]
  obtain ⟨o, es, ep, t, ho, hx, hd, g, nd, hm, hb, hf, hn, _⟩ := setO_get I ha
  refine call_len_set ho hx hd hf (by rw [hn]; omega) ⟨.int n, H, I.tok _, ⟨_, by rw [hn]⟩, q⟩
end
def numsOf : D → Option (List Int)
  | .list ds => intsOf ds
  | .tuple ds => intsOf ds
  | _ => none
def fLenSet : List D → Option D
  | [d] => (numsOf d).bind fun ns => if ns.length ≤ 4000 then some (.int (dedI ns).length) else none
  | _ => none
def fSortSet : List D → Option D
  | [d] => (numsOf d).bind fun ns => if ns.length < 64 then some (.list ((sortI (dedI ns)).map .int)) else none
  | _ => none
theorem strictI {a b : List Int} (ha : a.Pairwise (· < ·)) (hb : b.Pairwise (· ≤ ·)) (nb : b.Nodup) (m : ∀ x, x ∈ a ↔ x ∈ b) : a = b := by
  have na : a.Nodup := ha.imp fun {x y} l => by omega
  exact srt_unique ((List.perm_ext_iff_of_nodup na nb).mpr m) (ha.imp fun {x y} l => by omega) hb
section
variable {X : Cx} {G : Gh} {pos : Pos}
/-- one argument, reckoned: a list or a tuple of whole numbers -/
theorem nums_arg {f : List D → Option D} {k : List Int → Option D} (hf : ∀ d, f [d] = (numsOf d).bind k) {g : Rho → M D} {σ : St} {H : Hp} {Q : VK} (h : tE G (cA f (aC g aN)) σ H Q) :
    tE G g σ H fun x H1 => ∃ F hs ρ l ns z, Rel G F H1 hs ρ σ ∧ x = V.ref l ∧ (SqL G.K H1 l (ns.map V.int) ∨ SqT G.K H1 l (ns.map V.int)) ∧ k ns = some z ∧ post G σ F H1 (relE G) Q (ret z hs) := by
  obtain ⟨F, hs, ρ, R, p⟩ := h
  have p' : post G σ F H (relE G) Q (bnd (g ρ) (fun d => opA f [d]) hs) := by
    have e : cA f (aC g aN) ρ = bnd (g ρ) fun d => opA f [d] := by
      show bnd (bnd (g ρ) _) _ = _
      rw [bnd_assoc]
      rfl
    rw [e] at p
    exact p
  refine (rd_bind (rel := relE G) R p').mono ?_
  rintro v H1 ⟨F1, hs1, d, R1, s1, r1, p1⟩
  by_cases ht : isTok d = true
  · have : opA f [d] = stk := by
      unfold opA
      simp [ht]
    rw [this] at p1
    exact p1.elim
  · have e1 : opA f [d] = lift (f [d]) := by
      unfold opA
      simp [ht]
    rw [e1, hf d] at p1
    cases w : numsOf d with
    | none => rw [w] at p1; exact p1.elim
    | some ns =>
      rw [w] at p1
      have p1 : post G σ F1 H1 (relE G) Q (lift (k ns) hs1) := p1
      cases w2 : k ns with
      | none => rw [w2] at p1; exact p1.elim
      | some z =>
        rw [w2] at p1
        have dq := r1.dp (by simpa using ht)
        cases d with
        | list ds =>
          cases dq with
          | lst h1 h2 => exact ⟨F1, hs1, ρ, _, ns, z, R1, rfl, .inl (SqL.of (R1.sub _ _ (by rw [← intsOf_vals h2 w]; exact h1))), w2, p1⟩
        | tuple ds =>
          cases dq with
          | tup h1 h2 => exact ⟨F1, hs1, ρ, _, ns, z, R1, rfl, .inr (sqt_same R1.sub (by rw [← intsOf_vals h2 w]; exact h1.sqt)), w2, p1⟩
        | _ => cases w
theorem E_lenSet {e : Expr} {g : Rho → M D} {x y : Str} {p p2 q : Pos} (hK : G.K = X.K) (hc : X.calm = true) (hg : Gl X x) (hm : X.mg x = none) (hv : bootBuiltins x = some (.builtin "len")) (hg2 : Gl X y) (hm2 : X.mg y = none) (hv2 : bootBuiltins y = some (.type "set")) (ha : PE X e (tE G g))
    (n1 : x ≠ "__name__" := by decide) (d1 : (x == ("__debug__" : Str)) = false := by decide) (n2 : y ≠ "__name__" := by decide) (d2 : (y == ("__debug__" : Str)) = false := by decide)
    (he : starEach [e] X.env = (false, eval e X.env) :: starEach [] X.env := by rfl)
    (hb : starEach [.Call (.Name y p2) [e] [] q] X.env = (false, eval (.Call (.Name y p2) [e] [] q) X.env) :: starEach [] X.env := by rfl) :
    PE X (.Call (.Name x p) [.Call (.Name y p2) [e] [] q] [] pos) (tE G (cA fLenSet (aC g aN))) := by
  refine peI (pe_callB cr_lenS hg hm hv (pa_cons (pe_callTy (cr_setI hc) hg2 hm2 hv2 (pa_cons ha pa_nil he) n2 d2 he) pa_nil hb) n1 d1 hb) fun σ H Q h => ?_
  refine (nums_arg (k := fun ns => if ns.length ≤ 4000 then some (.int (dedI ns).length) else none) (fun d => rfl) h).mono ?_
  rintro v H1 ⟨F, hs, ρ, l, ns, z, R, rfl, sq, ek, pp⟩
  split at ek
  · rename_i few
    cases ek
    refine ⟨l, ns, rfl, by rw [← hK]; exact sq, few, fun p np => ⟨p, _, _, rfl, upd_same, Nat.le_trans (dedI_len ns) few, ?_⟩⟩
    exact post_ret' R pp (PStep.garb R.sub np) (.inl (.int _))
  · cases ek
theorem E_sortSet {e : Expr} {g : Rho → M D} {x y : Str} {p p2 q : Pos} (hK : G.K = X.K) (hc : X.calm = true) (hg : Gl X x) (hm : X.mg x = none) (hv : bootBuiltins x = some (.builtin "sorted")) (hg2 : Gl X y) (hm2 : X.mg y = none) (hv2 : bootBuiltins y = some (.type "set")) (ha : PE X e (tE G g))
    (n1 : x ≠ "__name__" := by decide) (d1 : (x == ("__debug__" : Str)) = false := by decide) (n2 : y ≠ "__name__" := by decide) (d2 : (y == ("__debug__" : Str)) = false := by decide)
    (he : starEach [e] X.env = (false, eval e X.env) :: starEach [] X.env := by rfl)
    (hb : starEach [.Call (.Name y p2) [e] [] q] X.env = (false, eval (.Call (.Name y p2) [e] [] q) X.env) :: starEach [] X.env := by rfl) :
    PE X (.Call (.Name x p) [.Call (.Name y p2) [e] [] q] [] pos) (tE G (cA fSortSet (aC g aN))) := by
  refine peI (pe_callB (cr_sortedSet hc) hg hm hv (pa_cons (pe_callTy (cr_setI hc) hg2 hm2 hv2 (pa_cons ha pa_nil he) n2 d2 he) pa_nil hb) n1 d1 hb) fun σ H Q h => ?_
  refine (nums_arg (k := fun ns => if ns.length < 64 then some (.list ((sortI (dedI ns)).map .int)) else none) (fun d => rfl) h).mono ?_
  rintro v H1 ⟨F, hs, ρ, l, ns, z, R, rfl, sq, ek, pp⟩
  split at ek
  · rename_i few
    cases ek
    have le := dedI_len ns
    refine ⟨l, ns, rfl, by rw [← hK]; exact sq, by omega, fun p np => ⟨p, _, _, rfl, upd_same, by omega, fun ms p' sr mem _ np' => ?_⟩⟩
    have em : ms = sortI (dedI ns) := strictI sr (sortI_srt _) ((sortI_perm _).nodup_iff.mpr (dedI_ok ns).1) fun k => by
      rw [mem k, (sortI_perm _).mem_iff, (dedI_ok ns).2 k]
      exact decide_eq_true_iff
    subst em
    have s1 := PStep.garb R.sub np (o := SetO X.w p (fun j => decide (j ∈ ns)) (dedI ns).length)
    exact post_ret' R pp (s1.trans (PStep.alloc s1.fh np')) (.inl (.lst upd_same (ints_dq _)))
  · cases ek
end
end L2.AR
set_option Elab.async false
set_option linter.all false
set_option maxRecDepth 100000
set_option maxHeartbeats 4000000
/-! Fw29: sorted({e for x in seq if ..}), e a whole number; x = [.. for ..], to be changed later. -/
namespace L2.AR
open PySem PySem.Spec PyProof.Rows
/-- the numbers that a comprehension tells, one by one -/
def compS (t : Tgt) (c : Rho → M Bool) (g : Rho → M D) (ρ : Rho) : List D → List Int → M (List Int)
  | [], acc => ret acc
  | d :: ds, acc => match t d ρ with
    | none => stk
    | some ρ1 => bnd (nerr (c ρ1)) fun b => if b = true then bnd (nerr (g ρ1)) fun y => (match y with
      | .int k => if acc.length < 1000 then compS t c g ρ ds (acc ++ [k]) else stk
      | _ => stk) else compS t c g ρ ds acc
def srtS (ns : List Int) : M D := if ns.length < 64 then ret (.list ((sortI (dedI ns)).map .int)) else stk
def gSortC (vs : List Nat) (gi : Rho → M D) (t : Tgt) (c : Rho → M Bool) (g : Rho → M D) (ρ : Rho) : M D := bnd (gi ρ) fun d => orStk (fun ds => bnd (compS t c g (wipeR ρ vs) ds []) srtS) (itemsOf d)
section
variable {G : Gh} {F H : Hp} {hs : HS} {ρ : Rho} {σ : St}
/-- an object that nothing tracks is written over -/
theorem Rel.poke (R : Rel G F H hs ρ σ) {a : Addr} {o o' : HO} (ha : H a = some o) (no : ∀ vs, o ≠ .lst vs) (nk : ∀ kvs, o ≠ .dK kvs) (nx : ∀ l, o ≠ .xd l) (fa : F a = none) (h0 : G.H0 a = none) (hh : G.ha ≠ some a) : Rel G F (upd H a o') hs ρ σ := by
  have ne : ∀ {b : Addr} {u : HO}, F b = some u → b ≠ a := fun z => ne_of_none z fa
  refine ⟨fun b u z => by rw [upd_ne (ne z)]; exact R.sub b u z, fun b z => ?_, fun b u z n => ?_, R.f0, R.new0, R.len, fun j s z => ?_, R.apart⟩
  · obtain ⟨q1, q, q2, q3, q4⟩ := R.hand b z
    have hb : b ≠ a := fun w => hh (by rw [z, w])
    exact ⟨q1, q, q2, by rw [upd_ne hb]; exact q3, q4⟩
  · rw [upd_ne (ne_of_none z h0)]
    exact R.base b u z n
  · have q := R.slots j s z
    cases s with
    | no => trivial
    | dat x => exact q
    | own xs =>
      obtain ⟨c, us, ec, g1, g2, g3, g4, g5⟩ := q
      have hc : c ≠ a := fun w => by
        rw [w, ha] at g1
        exact no _ (Option.some.inj g1)
      exact ⟨c, us, ec, by rw [upd_ne hc]; exact g1, g2, g3, g4, g5⟩
    | owd xs =>
      obtain ⟨c, us, ec, g1, g2, g3, g4, g5⟩ := q
      have hc : c ≠ a := fun w => by
        rw [w, ha] at g1
        exact nk _ (Option.some.inj g1)
      exact ⟨c, us, ec, by rw [upd_ne hc]; exact g1, g2, g3, g4, g5⟩
    | exc x y =>
      obtain ⟨g1, g2, dx, u, g0, g3, g4, g5⟩ := q
      have hc : dx ≠ a := fun w => by
        rw [w, ha] at g3
        exact nx _ (Option.some.inj g3)
      exact ⟨g1, g2, dx, u, g0, by rw [upd_ne hc]; exact g3, g4, g5⟩
theorem setO_ext {w : World} {a : Addr} {S S' : Int → Bool} {n n' : Nat} (e : ∀ k, S k = S' k) (en : n = n') : SetO w a S n = SetO w a S' n' := by
  have : S = S' := funext e
  rw [this, en]
theorem compS_inv {w : World} {J : It} {ds : List D} {gt : TG} {t : Tgt} {vs : List Nat} {c : Rho → M Bool} {g : Rho → M D} {k : List Int → M D} {Q : VK} {Dd : Addr} (ht : GOk G vs gt t) (R : Rel G F H hs ρ σ) (S : Src G.K J ds F) (nD : H Dd = none)
    (p : post G σ F H (relE G) Q (bnd (compS t c g (wipeR ρ vs) ds []) k hs)) :
    ∃ W : Nat → Nat → Hp → Prop, (∃ m, W 0 m (upd H Dd (SetO w Dd (fun _ => false) 0))) ∧ ∀ i m H, W i m H →
      (J.stop i H ∧ ∃ F' hs' acc, Rel G F' H hs' ρ σ ∧ H Dd = some (SetO w Dd (fun j => decide (j ∈ acc)) (dedI acc).length) ∧ post G σ F' H (relE G) Q (k acc hs')) ∨ (J.go i H ∧ ∃ Nx : Hp → Prop, (∀ H', Nx H' → ∃ m', m' < m ∧ W (i + 1) m' H') ∧
        ∀ x H', J.yld i H x H' → gt x (L2.wipe σ vs) H' fun σ2 H2 => L2.wipe σ2 vs = L2.wipe σ vs ∧ tT G.mute c σ2 H2 fun b H3 => if b = true then tE G.mute g σ2 H3 fun y H4 => addS w Dd y H4 Nx else Nx H3) := by
  have fD : F Dd = none := R.sub.free nD
  have hD : G.ha ≠ some Dd := fun e => by
    obtain ⟨_, _, _, q, _⟩ := R.hand Dd e
    rw [nD] at q
    cases q
  have zD : G.H0 Dd = none := by
    cases q : G.H0 Dd with
    | none => rfl
    | some o =>
      have := R.base Dd o q hD
      rw [nD] at this
      cases this
  let Ob : List Int → HO := fun acc => SetO w Dd (fun j => decide (j ∈ acc)) (dedI acc).length
  let Iv : Nat → Hp → Prop := fun i H' => ∃ F' hs' acc, Rel G F' H' hs' (wipeR ρ vs) (L2.wipe σ vs) ∧ H' Dd = some (Ob acc) ∧ F' Dd = none ∧ Step G.ha F H F' H' ∧ Src G.K J ds F' ∧ post G σ F H (relE G) Q (bnd (compS t c g (wipeR ρ vs) (ds.drop i) acc) k hs')
  -- what a step keeps
  have keepD : ∀ {F' H' F2 H2 : Hp} {acc : List Int}, Step G.ha F' H' F2 H2 → H' Dd = some (Ob acc) → F' Dd = none → H2 Dd = some (Ob acc) ∧ F2 Dd = none := fun {F' H' F2 H2 acc} st e f => by
    refine ⟨st.keep Dd _ e hD, ?_⟩
    cases q : F2 Dd with
    | none => rfl
    | some o =>
      rcases st.new Dd (by rw [q]; simp) with z | z
      · exact absurd f z
      · rw [e] at z
        cases z
  have e0 : SetO w Dd (fun _ => false) 0 = Ob [] := setO_ext (fun j => by simp) rfl
  have st0 : PStep F H F (upd H Dd (Ob [])) := PStep.garb R.sub nD
  refine ⟨fun i m H' => m = ds.length - i ∧ i ≤ ds.length ∧ Iv i H', ⟨ds.length, by simp, Nat.zero_le _, F, hs, [], (R.wipe vs).pstep st0, by rw [e0]; exact upd_same, fD, ?_, S, by simpa using p⟩, ?_⟩
  · rw [e0]
    exact st0.step
  · rintro i m H' ⟨rfl, hi, F', hs', acc, RX, eD, fD', st, S', p'⟩
    by_cases hlt : i < ds.length
    · have e : ds[i]? = some ds[i] := List.getElem?_eq_getElem hlt
      obtain ⟨gg, y⟩ := S'.go F' H' i ds[i] (Same.refl F') RX.sub e
      refine .inr ⟨gg, Iv (i + 1), fun H2 q => ⟨ds.length - (i + 1), by omega, rfl, hlt, q⟩, fun x H2 yy => ?_⟩
      obtain ⟨rfl, dx⟩ := y x H2 yy
      rw [List.drop_eq_getElem_cons hlt] at p'
      simp only [compS] at p'
      cases z : t ds[i] (wipeR ρ vs) with
      | none => rw [z] at p'; exact p'.elim
      | some ρ1 =>
        rw [z] at p'
        simp only [bnd_assoc] at p'
        refine ht F' H2 hs' _ ρ1 _ x ds[i] _ RX (.inl dx) z fun σ1 R1 w1 => ⟨by rw [w1, wipe_wipe], ?_⟩
        refine (rd_nerr (rel := relB) R1 (post_nerr p')).mono ?_
        rintro b H3 ⟨F3, hs3, b', R3, s3, rfl, p3⟩
        have RX3 := RX.step s3 R3.hand
        have st3 := st.trans s3 fun x e => (R3.hand x e).1
        obtain ⟨eD3, fD3⟩ := keepD s3 eD fD'
        cases b with
        | false =>
          simp only [Bool.false_eq_true, if_false] at p3
          exact iteF ⟨F3, hs3, acc, RX3, eD3, fD3, st3, S'.after s3.ff, p3⟩
        | true =>
          simp only [if_true, bnd_assoc] at p3
          refine iteT ((rd_nerr (rel := relE G) R3 (post_nerr p3)).mono ?_)
          rintro v H4 ⟨F4, hs4, d, R4, s4, r4, p4⟩
          have RX4 := RX3.step s4 R4.hand
          have st4 := st3.trans s4 fun x e => (R4.hand x e).1
          obtain ⟨eD4, fD4⟩ := keepD s4 eD3 fD3
          cases d with
          | int n =>
            by_cases few : acc.length < 1000
            · simp only [if_pos few] at p4
              cases r4.dp rfl
              have le := dedI_len acc
              have eS : SetO w Dd (fun j => decide (j ∈ acc) || decide (j = n)) (if decide (n ∈ acc) = true then (dedI acc).length else (dedI acc).length + 1) = Ob (acc ++ [n]) := by
                refine setO_ext (fun j => ?_) ?_
                · rw [← Bool.decide_or]
                  congr 1
                  simp
                · rw [dedI_snoc]
                  by_cases m : n ∈ acc
                  · rw [if_pos (decide_eq_true m), if_pos ((dedI_ok acc).2 n |>.mpr m)]
                  · rw [if_neg (by simpa using m), if_neg (fun q => m ((dedI_ok acc).2 n |>.mp q))]
                    simp
              refine ⟨n, _, _, rfl, eD4, by unfold scanBound; omega, ?_⟩
              rw [eS]
              refine ⟨F4, hs4, acc ++ [n], RX4.poke eD4 (fun _ z => by cases z) (fun _ z => by cases z) (fun _ z => by cases z) fD4 zD hD, upd_same, fD4, ?_, (S'.after s3.ff).after s4.ff, p4⟩
              exact ⟨st4.ff, fun b o q => by rw [upd_ne (ne_of_none q fD4)]; exact st4.fh b o q, fun b o q n => by rw [upd_ne (ne_of_none q nD)]; exact st4.keep b o q n, st4.new⟩
            · simp only [if_neg few] at p4
              exact p4.elim
          | _ => exact p4.elim
    · have e : i = ds.length := by omega
      subst e
      rw [List.drop_eq_nil_of_le (Nat.le_refl _)] at p'
      refine .inl ⟨S'.stop F' H' (Same.refl F') RX.sub, F', hs', acc, R.step st RX.hand, eD, ?_⟩
      exact post.after st (o := k acc hs') p'
end
section
variable {X : Cx} {G : Gh} {pos : Pos}
theorem setC_seq {w : World} {gi : Rho → M D} {gt : TG} {t : Tgt} {vs : List Nat} {c : Rho → M Bool} {g : Rho → M D} {σ : St} {H : Hp} {Q : VK} (ht : GOk G vs gt t) (h : tE G (gSortC vs gi t c g) σ H Q) :
    tSI w (iSeq G.K (tE G gi)) gt (tT G.mute c) (tE G.mute g) vs σ H fun x H1 => rSortedSet w [x] H1 Q := by
  obtain ⟨F, hs, ρ, R, p⟩ := h
  refine iSeq_of (k := fun _ _ _ _ => True) R ?_
  unfold gSortC bnd at p
  cases z : gi ρ hs with
  | ok d h' =>
    rw [z] at p
    simp only at p
    cases e : itemsOf d with
    | none => rw [e] at p; exact p.elim
    | some ds =>
      rw [e] at p
      refine ⟨ds, e, fun F' H' J st hh S Dd nD => ?_⟩
      obtain ⟨W, first, turns⟩ := compS_inv (w := w) ht (R.step st hh) S nD (p.after st)
      refine ⟨W, first, fun i m H2 q => (turns i m H2 q).imp ?_ id⟩
      rintro ⟨stop, F2, hs2, acc, R2, eD, pp⟩
      refine ⟨stop, ?_⟩
      unfold srtS at pp
      by_cases few : acc.length < 64
      · rw [if_pos few] at pp
        have le := dedI_len acc
        refine ⟨Dd, _, _, rfl, eD, by omega, fun ms p' sr mem _ np' => ?_⟩
        have em : ms = sortI (dedI acc) := strictI sr (sortI_srt _) ((sortI_perm _).nodup_iff.mpr (dedI_ok acc).1) fun k => by
          rw [mem k, (sortI_perm _).mem_iff, (dedI_ok acc).2 k]
          exact decide_eq_true_iff
        subst em
        exact post_ret' R2 pp (PStep.alloc R2.sub np') (.inl (.lst upd_same (ints_dq _)))
      · rw [if_neg few] at pp
        exact pp.elim
  | err c d h' => rw [z] at p; exact p
  | stuck => rw [z] at p; exact p.elim
theorem E_sortC {e : Expr} {gi : Rho → M D} {gt : TG} {t : Tgt} {vs : List Nat} {c : Rho → M Bool} {g : Rho → M D} {x : Str} {p : Pos} (hc : X.calm = true) (hg : Gl X x) (hm : X.mg x = none) (hv : bootBuiltins x = some (.builtin "sorted")) (ht : GOk G vs gt t)
    (h : PE X e (tSI X.w (iSeq G.K (tE G gi)) gt (tT G.mute c) (tE G.mute g) vs)) (n1 : x ≠ "__name__" := by decide) (d1 : (x == ("__debug__" : Str)) = false := by decide)
    (he : starEach [e] X.env = (false, eval e X.env) :: starEach [] X.env := by rfl) : PE X (.Call (.Name x p) [e] [] pos) (tE G (gSortC vs gi t c g)) :=
  peI (pe_callB (cr_sortedSet hc) hg hm hv (pa_cons h pa_nil he) n1 d1 he) fun σ H Q q => setC_seq ht q
end
/-- reckoning: each turn known -/
theorem compS_map {i : Nat} {g : Rho → M D} {ρ : Rho} {f : D → Int} : ∀ (ds : List D) (acc : List Int), (∀ d ∈ ds, g (ρ.set i (.dat d)) = ret (.int (f d))) → acc.length + ds.length ≤ 1000 → compS (tgN i) tYs g ρ ds acc = ret (acc ++ ds.map f)
  | [], acc, _, _ => by simp [compS]
  | d :: ds, acc, h, l => by
    have e := h d (by simp)
    simp only [compS, x_tgN]
    rw [x_tYs, nerr_ret, bnd_ret]
    simp only [if_true]
    rw [e, nerr_ret, bnd_ret]
    simp only
    rw [if_pos (by simp at l; omega), compS_map ds _ (fun x m => h x (by simp [m])) (by simp at l ⊢; omega)]
    simp
end L2.AR
set_option Elab.async false
set_option linter.all false
set_option maxRecDepth 100000
set_option maxHeartbeats 4000000
/-! Fw30: x = [.. for ..], x to be changed later. -/
namespace L2.AR
open PySem PySem.Spec PyProof.Rows
def toOwn (i : Nat) (d : D) : MS := fun ρ h => match d with
  | .list ds => .ok .nx (ρ.set i (.own ds)) h
  | _ => .stuck
@[simp] theorem toOwn_is (i : Nat) (ds : List D) (ρ : Rho) : toOwn i (.list ds) ρ = okS .nx (ρ.set i (.own ds)) := rfl
def outP {α : Type} (P : α → HS → Prop) : Out α → Prop
  | .ok a h => P a h
  | _ => False
theorem outP_nerr {α β : Type} {P : β → HS → Prop} {x : M α} {k : α → M β} {hs : HS} (q : outP P (bnd (nerr x) k hs)) : match nerr x hs with | .ok a h' => (fun a h' => outP P (k a h')) a h' | _ => False := by
  unfold bnd at q
  cases z : nerr x hs <;> rw [z] at q <;> exact q
section
variable {G : Gh} {F H : Hp} {hs : HS} {ρ : Rho} {σ : St}
/-- a list that nothing tracks becomes this frame's own -/
theorem Rel.take (R : Rel G F H hs ρ σ) {a : Addr} {vs : List V} {ds : List D} (ha : H a = some (.lst vs)) (fa : F a = none) (h0 : G.H0 a = none) (hh : G.ha ≠ some a) (dq : DqAll G.K F vs ds) (ap : ∀ (j : Nat) (x : Sl), ρ[j]? = some x → isOwn x = true → σ[j]? ≠ some (some (V.ref a))) (i : Nat) :
    Rel G F H hs (ρ.set i (.own ds)) (σ.set i (some (.ref a))) := by
  refine ⟨R.sub, R.hand, R.base, R.f0, R.new0, by simpa using R.len, fun j s z => ?_, fun j k x y c hjk z1 z2 o1 o2 z3 => ?_⟩
  · rw [List.getElem?_set] at z ⊢
    by_cases hij : i = j
    · subst hij
      rw [if_pos rfl] at z ⊢
      split at z
      · rename_i lt
        cases z
        rw [if_pos (by rw [R.len]; exact lt)]
        exact ⟨a, vs, rfl, ha, fa, h0, hh, dq⟩
      · cases z
    · rw [if_neg hij] at z ⊢
      exact R.slots j s z
  · rw [List.getElem?_set] at z1 z2 z3 ⊢
    by_cases hj : i = j
    · subst hj
      have hk : ¬ i = k := hjk
      rw [if_pos rfl] at z3
      rw [if_neg hk] at z2 ⊢
      split at z3
      · cases z3
        exact ap k y z2 o2
      · cases z3
    · rw [if_neg hj] at z1 z3
      by_cases hk : i = k
      · subst hk
        rw [if_pos rfl]
        split
        · intro w
          cases w
          exact ap j x z1 o1 z3
        · intro w
          cases w
      · rw [if_neg hk] at z2 ⊢
        exact R.apart j k x y c hjk z1 z2 o1 o2 z3
theorem comp_invO {J : It} {ds : List D} {gt : TG} {t : Tgt} {vs : List Nat} {c : Rho → M Bool} {g : Rho → M D} {P : D → HS → Prop} {Q : VK} {Dd : Addr} {i : Nat} (ht : GOk G vs gt t) (R : Rel G F H hs ρ σ) (S : Src G.K J ds F) (nD : H Dd = none)
    (p : outP P (comp1 t c g (wipeR ρ vs) ds [] hs))
    (fin : ∀ acc F' H' hs', P (.list acc) hs' → Step G.ha F H F' H' → Rel G F' H' hs' (ρ.set i (.own acc)) (σ.set i (some (.ref Dd))) → Q (.ref Dd) H') :
    ∃ W : Nat → Nat → Hp → Prop, (∃ m, W 0 m (upd H Dd (.lst []))) ∧ ∀ i m H, W i m H →
      (J.stop i H ∧ Q (.ref Dd) H) ∨ (J.go i H ∧ ∃ Nx : Hp → Prop, (∀ H', Nx H' → ∃ m', m' < m ∧ W (i + 1) m' H') ∧ ∀ x H', J.yld i H x H' → gt x (L2.wipe σ vs) H' fun σ2 H2 => L2.wipe σ2 vs = L2.wipe σ vs ∧ tT G.mute c σ2 H2 fun b H3 =>
        if b = true then tE G.mute g σ2 H3 fun y H4 => ∃ acc, H4 Dd = some (.lst acc) ∧ acc.length < sizeLine ∧ Nx (upd H4 Dd (.lst (acc ++ [y]))) else Nx H3) := by
  let Iv : Nat → Hp → Prop := fun i H' => ∃ F' hs' acc, Rel G F' H' hs' (wipeR ρ vs ++ [.own acc]) (L2.wipe σ vs ++ [some (.ref Dd)]) ∧ Step G.ha F H F' H' ∧ Src G.K J ds F' ∧ outP P (comp1 t c g (wipeR ρ vs) (ds.drop i) acc hs')
  have st0 : PStep F H F (upd H Dd (.lst [])) := PStep.garb R.sub nD
  refine ⟨fun i m H' => m = ds.length - i ∧ i ≤ ds.length ∧ Iv i H', ⟨ds.length, by simp, Nat.zero_le _, F, hs, [], (R.wipe vs).push nD, st0.step, S, by simpa using p⟩, ?_⟩
  rintro i m H' ⟨rfl, hi, F', hs', acc, RX, st, S', p'⟩
  have slot : (wipeR ρ vs ++ [Sl.own acc])[(wipeR ρ vs).length]? = some (.own acc) := by simp
  have len2 : (L2.wipe σ vs).length = (wipeR ρ vs).length := (RX.pop).len
  have slotV : (L2.wipe σ vs ++ [some (V.ref Dd)])[(wipeR ρ vs).length]? = some (some (.ref Dd)) := by rw [← len2]; simp
  by_cases hlt : i < ds.length
  · have e : ds[i]? = some ds[i] := List.getElem?_eq_getElem hlt
    obtain ⟨gg, y⟩ := S'.go F' H' i ds[i] (Same.refl F') RX.sub e
    refine .inr ⟨gg, Iv (i + 1), fun H2 q => ⟨ds.length - (i + 1), by omega, rfl, hlt, q⟩, fun x H2 yy => ?_⟩
    obtain ⟨rfl, dx⟩ := y x H2 yy
    rw [List.drop_eq_getElem_cons hlt] at p'
    simp only [comp1] at p'
    cases z : t ds[i] (wipeR ρ vs) with
    | none => rw [z] at p'; exact p'.elim
    | some ρ1 =>
      rw [z] at p'
      simp only at p'
      refine ht F' H2 hs' _ ρ1 _ x ds[i] _ RX.pop (.inl dx) z fun σ1 R1 w1 => ⟨by rw [w1, wipe_wipe], ?_⟩
      refine (rd_nerr (rel := relB) R1 (outP_nerr p')).mono ?_
      rintro b H3 ⟨F3, hs3, b', R3, s3, rfl, p3⟩
      have RX3 := RX.step s3 R3.hand
      have st3 := st.trans s3 fun x e => (R3.hand x e).1
      cases b with
      | false =>
        simp only [Bool.false_eq_true, if_false] at p3
        exact iteF ⟨F3, hs3, acc, RX3, st3, S'.after s3.ff, p3⟩
      | true =>
        simp only [if_true] at p3
        refine iteT ((rd_nerr (rel := relE G) R3 (outP_nerr p3)).mono ?_)
        rintro v H4 ⟨F4, hs4, d, R4, s4, r4, p4⟩
        have RX4 := RX3.step s4 R4.hand
        have st4 := st3.trans s4 fun x e => (R4.hand x e).1
        by_cases cnd : isTok d = false ∧ acc.length < 1000000
        · rw [if_pos cnd] at p4
          obtain ⟨a', ws, ea, g1, g2, g3, g4, g5⟩ := RX4.slots _ _ slot
          rw [slotV] at ea
          cases ea
          refine ⟨ws, g1, by rw [dpAll_len g5]; exact line_of (Nat.le_of_lt cnd.2), F4, hs4, acc ++ [d], ?_, ?_, (S'.after s3.ff).after s4.ff, p4⟩
          · have q := RX4.app slot slotV g1 (r4.dp cnd.1)
            rw [List.set_append_right _ _ (Nat.le_refl _), Nat.sub_self] at q
            exact q
          · exact ⟨st4.ff, fun b o q => by rw [upd_ne (ne_of_none q g2)]; exact st4.fh b o q, fun b o q n => by rw [upd_ne (ne_of_none q nD)]; exact st4.keep b o q n, st4.new⟩
        · rw [if_neg cnd] at p4
          exact p4.elim
  · have e : i = ds.length := by omega
    subst e
    rw [List.drop_eq_nil_of_le (Nat.le_refl _)] at p'
    refine .inl ⟨S'.stop F' H' (Same.refl F') RX.sub, ?_⟩
    obtain ⟨a', ws, ea, g1, g2, g3, g4, g5⟩ := RX.slots _ _ slot
    rw [slotV] at ea
    cases ea
    refine fin acc F' H' hs' p' st ((R.step st RX.hand).take g1 g2 g3 g4 g5 (fun j x e o w => ?_) _)
    obtain ⟨b, ob, eb, hb, _⟩ := (R.slots j x e).at o
    rw [w] at eb
    cases eb
    rw [nD] at hb
    cases hb
end
section
variable {X : Cx} {G : Gh} {pos : Pos}
theorem nerr_noerr {α : Type} {x : M α} {h0 : HS} {c' : Nat} {d' : D} {h1 : HS} : nerr x h0 ≠ .err c' d' h1 := by
  intro e
  unfold nerr at e
  cases z : x h0 <;> rw [z] at e <;> cases e
theorem comp1_noerr {t : Tgt} {cn : Rho → M Bool} {g : Rho → M D} {ρ : Rho} : ∀ (ds : List D) (acc : List D) (h0 : HS) (c' : Nat) (d' : D) (h1 : HS), comp1 t cn g ρ ds acc h0 ≠ .err c' d' h1 := by
  intro ds
  induction ds with
  | nil => intro acc h0 c' d' h1 e; cases e
  | cons x ds ih =>
    intro acc h0 c' d' h1 e
    simp only [comp1] at e
    cases z1 : t x ρ with
    | none => rw [z1] at e; cases e
    | some ρ1 =>
      rw [z1] at e
      simp only at e
      unfold bnd at e
      cases z2 : nerr (cn ρ1) h0 with
      | err _ _ _ => exact nerr_noerr z2
      | stuck => rw [z2] at e; cases e
      | ok b h2 =>
        rw [z2] at e
        simp only at e
        cases b with
        | false => exact ih _ _ _ _ _ e
        | true =>
          simp only [if_true] at e
          cases z4 : nerr (g ρ1) h2 with
          | err _ _ _ => exact nerr_noerr z4
          | stuck => rw [z4] at e; cases e
          | ok d3 h3 =>
            rw [z4] at e
            simp only at e
            split at e
            · exact ih _ _ _ _ _ e
            · cases e
theorem p_ownC (i : Nat) {st : Stmt} {gi : Rho → M D} {gt : TG} {t : Tgt} {vs : List Nat} {c : Rho → M Bool} {g : Rho → M D} (ht : GOk G vs gt t) (h : PS X st (tAsg (tLc (iSeq G.K (tE G gi)) gt (tT G.mute c) (tE G.mute g) vs) (gName i))) :
    PS X st (tS G (sExp (gComp vs gi t c g) (toOwn i))) := by
  refine psI h ?_
  rintro E σ H ⟨F, hs, ρ, R, p⟩
  refine iSeq_of (k := fun _ _ _ _ => True) R ?_
  unfold sExp gComp bnd at p
  cases z : gi ρ hs with
  | ok d h' =>
    rw [z] at p
    simp only at p
    cases w : itemsOf d with
    | none => rw [w] at p; exact p.elim
    | some ds =>
      rw [w] at p
      refine ⟨ds, w, fun F' H' J st hh S Dd nD => comp_invO (c := c) (g := g) (Q := fun x H1 => gName i x σ H1 E.nx) (P := fun d h2 => postS G F E (toOwn i d ρ h2)) (i := i) ht (R.step st hh) S nD ?_ fun acc F2 H2 hs2 q st2 R2 => ?_⟩
      · simp only [orStk_some] at p
        cases y : comp1 t c g (wipeR ρ vs) ds [] h' with
        | ok d h2 => rw [y] at p; exact p
        | err c2 d h2 => exact absurd y (comp1_noerr _ _ _ _ _ _)
        | stuck => rw [y] at p; exact p.elim
      · have q : postS G F E (.ok .nx (ρ.set i (.own acc)) hs2) := q
        exact q F2 H2 _ (st.ff.trans st2.ff) R2
  | err c d h' =>
    rw [z] at p
    exact fun F' H' dx v s h hx hn dp => p F' H' σ dx v s.ff (R.step s h) hx hn dp
  | stuck => rw [z] at p; exact p.elim
end
end L2.AR
set_option Elab.async false
set_option linter.all false
set_option maxRecDepth 100000
set_option maxHeartbeats 4000000
/-! Fw31: x.count(k) of whole numbers, x[::-1]. -/
namespace L2.AR
open PySem PySem.Spec PyProof.Rows
def isSeq : D → Bool
  | .list _ => true
  | .tuple _ => true
  | _ => false
/-- a sequence first, then the rest -/
def gSq (g : Rho → M D) (k : D → Rho → M D) : Rho → M D := fun ρ => bnd (g ρ) fun d => if isSeq d = true then k d ρ else stk
def fCnt (x y : D) : Option D := match numsOf x, y with
  | some ns, .int k => some (.int (ns.count k : Nat))
  | _, _ => none
def revD : D → M D
  | .list ds => ret (.list ds.reverse)
  | .tuple ds => ret (.tuple ds.reverse)
  | _ => stk
section
variable {X : Cx} {G : Gh} {pos : Pos}
theorem eqk_int (A : Around) (s : Shared) {k : Int} {t : Tok} {its : List Value} {ns : List Int} (hi : IntsAre its ns) : ∀ y ∈ its, SeqAt.EqAt A s y (.int k t) (eqk k y) := fun y hy => (eqk_gives hi y hy).at _ _
/-- t.count(k), t a tuple of whole numbers -/
theorem tup_count {pins : List (Addr × Obj)} {σ : St} {H : Hp} {s : Shared} {a : Addr} {ns : List Int} {k : Int} {tk : Tok} {Q : VK} (I : Inv X pins σ H s) (hs : SqT X.K H a (ns.map V.int)) (q : Q (.int (ns.count k : Nat)) H) :
    wpAny (model X.prog X.w) X.A (call (.builtin "tuple.count") [.ref a, .int k tk]) (EP X pins σ Q) X.xe s := by
  obtain ⟨its, rv, ⟨⟨c, dd, dt, sl⟩, ho, hc, n, hd⟩, _⟩ := I.tuple hs
  simp only at hc hd
  subst hc hd
  have hi := ints_of_vals rv
  have ty : s.TypeIs (.ref a) "tuple" := ⟨_, ho, rfl⟩
  apply call_meets PySem.F.slot_tuple_count ty PySem.F.entry_tuple_count (PySem.F.args_tuple_count_2 _ _) (SeqAt.tuple_countAt a its.toArray n dd sl (.int k tk) (eqk k))
  refine ⟨ho, fun y hy => eqk_int _ _ hi y (by simpa using hy), ?_⟩
  refine ⟨.int (ns.count k : Nat), H, I.tok _, ⟨s.toks, ?_⟩, q⟩
  have ec : its.toArray.toList.countP (eqk k) = ns.count k := eqk_count hi
  rw [ec]
theorem no_dict {pins : List (Addr × Obj)} {σ : St} {F H : Hp} {s : Shared} {a : Addr} {xs : List V} (I : Inv X pins σ H s) (sb : Same F H) (h : SqS F a xs) : ∃ ob, s.heap.get? a = some ob ∧ ob.dict = none := by
  obtain ⟨o, e, n⟩ := h
  exact ⟨o, (I.hok a _ (sb _ _ e)).1, n⟩
theorem E_cnt {o e : Expr} {go ge : Rho → M D} {apos cpos : Pos} (hK : G.K = X.K) (ho : PE X o (tE G go)) (he : PE X e (tE G ge))
    (hbase : attributeBase o "count" X.env (eval o X.env) = eval o X.env := by rfl)
    (hfew : ((backTo cpos (starEach [e] X.env)).all (fun x => !x.1) && (backToKw cpos (keywordEach [] X.env)).all (fun x => x.1.isSome) && decide ([e].length + ([] : List Keyword).length + (if ([] : List Keyword).isEmpty then 0 else 1) < 30)) = true := by rfl)
    (hline : (apos.endLine == cpos.line) = true := by rfl) (hs : starEach [e] X.env = (false, eval e X.env) :: starEach [] X.env := by rfl) :
    PE X (.Call (.Attribute o "count" apos) [e] [] cpos) (tE G (gSq go fun d ρ => bnd (ge ρ) fun y => op2 fCnt d y)) := by
  refine ⟨fun pins s σ H Q I h => ?_⟩
  obtain ⟨F, hs0, ρ, R, p⟩ := h
  apply wpAny_Call_method_late hbase hfew hline rfl
  apply thn (ho.run pins s σ H _ I (rd_bind (rel := relE G) R p))
  rintro v s1 ⟨x, H1, I1, r1, F1, hs1, d, R1, st1, rd1, p1⟩
  by_cases sq : isSeq d = true
  · rw [if_pos sq] at p1
    have nt : isTok d = false := by cases d <;> first | rfl | cases sq
    have dq := rd1.dp nt
    have arg := (pa_cons (X := X) he pa_nil hs).run cpos pins s1 σ H1 (fun ws H2 => ∃ y F2 hs2 k, ws = [y] ∧ Rel G F2 H2 hs2 ρ σ ∧ Step G.ha F1 H1 F2 H2 ∧ Rp G.K F2 G.ha y k ∧ post G σ F2 H2 (relE G) Q (op2 fCnt d k hs2)) I1
      ((rd_bind (rel := relE G) R1 p1).mono fun y H2 ⟨F2, hs2, k, R2, st2, rd2, p2⟩ => ⟨y, F2, hs2, k, rfl, R2, st2, rd2, p2⟩)
    have plain : (backTo cpos (starEach [] X.env)).any (·.1) = false := rfl
    have ends : ∀ {id : String}, (∀ (us : List Value) (s2 : Shared), (∃ ws H2, Inv X pins σ H2 s2 ∧ Vals ws us ∧ ∃ y F2 hs2 k, ws = [y] ∧ Rel G F2 H2 hs2 ρ σ ∧ Step G.ha F1 H1 F2 H2 ∧ Rp G.K F2 G.ha y k ∧ post G σ F2 H2 (relE G) Q (op2 fCnt d k hs2)) →
        wpAny (model X.prog X.w) X.A (call (.builtin id) (v :: us)) (EP X pins σ Q) X.xe s2) → wpAny (model X.prog X.w) X.A (callWith cpos (.builtin id) [v] (backTo cpos (starEach [e] X.env)) (backToKw cpos (keywordEach [] X.env))) (EP X pins σ Q) X.xe s1 := fun {id} run => by
      rw [hs] at arg ⊢
      apply Calls.callWith_builtin (by show (false || (backTo cpos (starEach [] X.env)).any (·.1)) = false; rw [plain] <;> rfl)
      apply Calls.evalArgs_plain
      exact thn arg fun us s2 q => run us s2 q
    have told : ∀ {F2 H2 : Hp} {hs2 : HS} {y : V} {k : D}, Rel G F2 H2 hs2 ρ σ → Rp G.K F2 G.ha y k → post G σ F2 H2 (relE G) Q (op2 fCnt d k hs2) → ∃ ns n, numsOf d = some ns ∧ y = .int n ∧ Q (.int (ns.count n : Nat)) H2 := fun {F2 H2 hs2 y k} R2 rk p2 => by
      unfold op2 at p2
      split at p2
      · exact p2.elim
      · rename_i nk
        simp only [Bool.or_eq_true, not_or, Bool.not_eq_true] at nk
        cases w : numsOf d with
        | none =>
          have : fCnt d k = none := by unfold fCnt; rw [w]
          rw [this] at p2
          exact p2.elim
        | some ns =>
          cases k with
          | int n =>
            cases rk.dp rfl
            have : fCnt d (.int n) = some (.int (ns.count n : Nat)) := by unfold fCnt; rw [w]
            rw [this] at p2
            exact ⟨ns, n, rfl, rfl, post_ret R2 p2 (.inl (.int _))⟩
          | _ =>
            have : ∀ z, (∀ n, z ≠ PyData.int n) → fCnt d z = none := fun z hz => by
              unfold fCnt
              rw [w]
              cases z with
              | int n => exact absurd rfl (hz n)
              | _ => rfl
            rw [this _ (fun n z => by cases z)] at p2
            exact p2.elim
    cases d with
    | list ds =>
      cases dq with
      | @lst a xs _ h1 h2 =>
        have sl : SqL X.K H1 a xs := SqL.of (R1.sub _ _ h1)
        obtain ⟨t1, t2⟩ := tyV_is (T := "list") I1 r1 (.inl ⟨rfl, xs, sl⟩)
        refine ⟨"list", "list.count", PySem.F.plainAttrs_list, PySem.F.slot_list_count, PySem.F.type_list_count, t1, t2, ends fun us s2 ⟨ws, H2, I2, rv, y, F2, hs2, k, ew, R2, st2, rk, p2⟩ => ?_⟩
        subst ew
        obtain ⟨ns, n, w, rfl, q⟩ := told R2 rk p2
        have e1 : xs = ns.map V.int := intsOf_vals h2 w
        exact mt_lcount pins s2 σ H2 (.ref a) [.int n] v us Q I2 r1 rv ⟨a, ns, n, rfl, rfl, SqL.of (by rw [← e1]; exact st2.fh _ _ (st2.ff _ _ h1)), q⟩
    | tuple ds =>
      cases dq with
      | @tup a xs _ h1 h2 =>
        cases r1
        have old := no_dict I1 R1.sub h1
        obtain ⟨its, rvs, ⟨o, oe, oc, od⟩, _⟩ := I1.tuple ((h1.same R1.sub).sqt (K := X.K))
        refine ⟨"tuple", "tuple.count", PySem.F.plainAttrs_tuple, PySem.F.slot_tuple_count, PySem.F.type_tuple_count, (show s1.TypeIs (.ref a) "tuple" from ⟨o, oe, oc⟩), (fun b e => by cases e; exact old), ends fun us s2 ⟨ws, H2, I2, rv, y, F2, hs2, k, ew, R2, st2, rk, p2⟩ => ?_⟩
        subst ew
        obtain ⟨ns, n, w, rfl, q⟩ := told R2 rk p2
        have e1 : xs = ns.map V.int := intsOf_vals h2 w
        obtain ⟨u, rfl, tk, rfl⟩ := rv.one
        exact tup_count I2 (by rw [← e1]; exact ((h1.same st2.ff).same st2.fh).sqt) q
    | _ => cases sq
  · rw [if_neg sq] at p1
    exact p1.elim
end
end L2.AR
set_option Elab.async false
set_option linter.all false
set_option maxRecDepth 100000
set_option maxHeartbeats 4000000
/-! Fw32: x[::-1] of a list or a tuple. -/
namespace L2.AR
open PySem PySem.Spec PyProof.Rows
section
variable {prog : Program} {w : World} {A : Around} {E : Value → Shared → Prop} {s : Shared}
theorem back_places (n : Nat) : Builtin.Slice.sliceAdjust none none (-1) (n : Int) = ((n : Int) - 1, -1) ∧ Builtin.Slice.slicePlaces ((n : Int) - 1) (-1) (-1) = n := by
  refine ⟨rfl, ?_⟩
  unfold Builtin.Slice.slicePlaces
  have c : ¬ ((-1 : Int) > 0) := by decide
  rw [if_neg c, show (-(-1 : Int)) = 1 from rfl, Int.ediv_one]
  split <;> omega
theorem back_applied {sl : Addr} {vs : Value} {n : Nat} {Q : Int × Int × Nat → Shared → Prop} (at_ : s.heap.IsSliceOf sl .none .none vs) (st : IsPart vs (some (-1))) (q : Q ((n : Int) - 1, -1, n) s) :
    wpAny (model prog w) A (Builtin.Slice.sliceApplied (.ref sl) (pure (n : Int))) Q E s := by
  obtain ⟨o, ho, hc, hd⟩ := id at_
  unfold Builtin.Slice.sliceApplied Builtin.Slice.sliceFields
  apply wpAny_bind
  apply wpAny_bind
  apply wpAny_field ho hd (x := .none) rfl
  apply wpAny_bind
  apply wpAny_field ho hd (x := .none) rfl
  apply wpAny_bind
  apply wpAny_field ho hd (x := vs) rfl
  apply wpAny_pure
  apply wpAny_bind
  apply HT.slicePart_ st
  show wpAny _ _ (if ((-1 : Int) == 0) = true then _ else _) _ _ s
  rw [if_neg (by decide)]
  apply wpAny_bind
  apply HT.slicePart_ IsPart.none
  apply wpAny_bind
  apply HT.slicePart_ IsPart.none
  apply wpAny_bind
  apply wpAny_pure
  have e := back_places n
  show wpAny _ _ (match Builtin.Slice.sliceAdjust none none (-1) (n : Int) with | (lo, hi) => pure (lo, (-1 : Int), Builtin.Slice.slicePlaces lo hi (-1))) _ _ s
  rw [e.1]
  show wpAny _ _ (pure ((n : Int) - 1, (-1 : Int), Builtin.Slice.slicePlaces ((n : Int) - 1) (-1) (-1))) _ _ s
  rw [e.2]
  exact wpAny_pure q
theorem back_pick (xs : Array Value) : ((List.range xs.size).filterMap fun (m : Nat) => xs[(((xs.size : Int) - 1) + (m : Int) * (-1)).toNat]?).toArray = xs.toList.reverse.toArray := by
  have e : ∀ (l : List Nat), (∀ m ∈ l, m < xs.size) → l.filterMap (fun (m : Nat) => xs[(((xs.size : Int) - 1) + (m : Int) * (-1)).toNat]?) = l.filterMap fun m => xs.toList.reverse[m]? := by
    intro l
    induction l with
    | nil => intro _; rfl
    | cons x l ih =>
      intro h
      have hx := h x (by simp)
      have : (((xs.size : Int) - 1) + (x : Int) * (-1)).toNat = xs.size - 1 - x := by omega
      rw [List.filterMap_cons, List.filterMap_cons, ih fun m hm => h m (by simp [hm]), this, List.getElem?_reverse (by simpa using hx), Array.length_toList, Array.getElem?_toList]
  rw [e _ fun m hm => List.mem_range.mp hm]
  congr 1
  have k : ∀ (ys : List Value), (List.range ys.length).filterMap (fun m => ys[m]?) = ys := by
    intro ys
    have := PySem.W.krv_all ys.toArray
    simpa using this
  have := k xs.toList.reverse
  rwa [List.length_reverse, Array.length_toList] at this
theorem getItem_back {t sl : Addr} {its : Array Value} {vs : Value} {Q : Value → Shared → Prop} (ht : IsTup s.heap t its) (at_ : s.heap.IsSliceOf sl .none .none vs) (st : IsPart vs (some (-1))) (few : its.size ≤ sizeLine)
    (q : Q (.ref s.heap.objs.size) { s with heap := s.heap.push { cls := .type "tuple", data := .seq its.toList.reverse.toArray } }) : wpAny (model prog w) A (getItem (.ref t) (.ref sl)) Q E s := by
  have fits : sizeOk (.seq its.toList.reverse.toArray) := by
    show its.toList.reverse.toArray.size ≤ sizeLine
    rw [List.size_toArray, List.length_reverse, Array.length_toList]
    exact few
  obtain ⟨o, ho, hc, hd⟩ := id at_
  have ty : s.TypeIs (.ref sl) "slice" := ⟨o, ho, hc⟩
  unfold getItem
  try with_reducible apply wpAny_holding
  first | apply wpAny_bind; apply wpAny_pure | skip
  apply wpAny_bind
  apply wpAny_sequenceKey ht.typeIs (by decide)
  apply wpAny_bind
  apply wpAny_callSpecial?_slot (name := Str.ofString "__getitem__") ht.typeIs PyProof.Rows.slot_tuple_getitem
  apply wpAny_call_entry PyProof.Rows.slot_tuple_getitem ht.typeIs entry_tuple_getitem _ (args_tuple_getitem _ _)
  show wpAny _ _ (Builtin.Tuple.tupleItemsOf (.ref t) >>= _) _ _ s
  apply wpAny_bind
  apply tupleItemsOf_ ht
  apply wpAny_bind
  apply wpAny_typeOf ty
  rw [if_pos (by decide)]
  apply wpAny_bind
  apply back_applied at_ st
  have no : ¬ ((((its.size : Int) - 1) == 0 && (-1 : Int) == 1 && its.size == its.size) = true) := by simp
  show wpAny _ _ (if (((its.size : Int) - 1) == 0 && (-1 : Int) == 1 && its.size == its.size) = true then _ else _) _ _ s
  rw [if_neg no, back_pick]
  first
    | exact wpAny_bind (m := Builtin.Tuple.tupleExact _) (wpAny_newObj_type (wpAny_pure ⟨_, rfl, wpAny_pure q⟩) fits)
    | exact wpAny_bind (m := Builtin.Tuple.tupleExact _) (wpAny_newObj_type (wpAny_bind (wpAny_pure (wpAny_pure ⟨_, rfl, wpAny_pure q⟩))) fits)
    | exact wpAny_bind (wpAny_bind (m := Builtin.Tuple.tupleExact _) (wpAny_newObj_type (wpAny_pure (wpAny_pure ⟨_, rfl, wpAny_pure q⟩)) fits))
    | exact wpAny_bind (wpAny_bind (m := Builtin.Tuple.tupleExact _) (wpAny_newObj_type (wpAny_pure ⟨_, rfl, wpAny_pure q⟩) fits))
end
section
variable {X : Cx} {G : Gh}
/-- -1, as written in a slice -/
abbrev minusOne (k : Nat) (p1 p2 : Pos) : Expr := .UnaryOp .USub (.Constant (.int 1) k p1) p2
theorem pe_backT {e : Expr} {te : TE} {k : Nat} {p1 p2 p3 pos : Pos} (he : PE X e te) : PE X (.Subscript e (.Slice none none (some (minusOne k p1 p2)) p3) pos) (fun σ H Q => te σ H fun x H1 => ∃ a xs, x = V.ref a ∧ SqT X.K H1 a xs ∧ NewT H1 xs.reverse Q) := by
  refine ⟨fun pins s σ H Q I h => ?_⟩
  apply Subscript_
  apply thn (he.run pins s σ H _ I h)
  rintro v s1 ⟨x, H1, I1, r1, a, xs, rfl, hx, q⟩
  cases r1
  have third : PO X (some (minusOne k p1 p2)) (tPart (tUn (rU fun i => .int (-i)) (tC (.int 1)))) := po_some (pe_un un_neg pe_int)
  apply wpAny_Slice
  apply thn (po_none.run pins s1 σ H1 (fun o H2 => o = none ∧ H2 = H1) I1 ⟨rfl, rfl⟩)
  rintro vl s2 ⟨_, H2, I2, pl, rfl, rfl⟩
  apply thn (po_none.run pins s2 σ H2 (fun o H3 => o = none ∧ H3 = H2) I2 ⟨rfl, rfl⟩)
  rintro vu s3 ⟨_, H3, I3, pu, rfl, rfl⟩
  apply thn (third.run pins s3 σ H3 (fun o H4 => o = some (-1) ∧ H4 = H3) I3 ⟨1, rfl, -1, rfl, rfl, rfl⟩)
  rintro vs s4 ⟨_, H4, I4, ps, rfl, rfl⟩
  cases pl
  cases pu
  have I5 : Inv X pins σ H4 { s4 with heap := s4.heap.push { cls := .type "slice", data := .fields #[.none, .none, vs] } } := I4.kept (t' := s4.toks) fun b ob w => Heap.get?_push_of_some _ w
  obtain ⟨its, r, ht, hz⟩ := I5.tuple hx
  show wpAny (model X.prog X.w) X.A (subscriptTail e (.Slice none none (some (minusOne k p1 p2)) p3) (.ref a) (.ref s4.heap.objs.size)) (EP X pins σ Q) X.xe { s4 with heap := s4.heap.push { cls := .type "slice", data := .fields #[.none, .none, vs] } }
  refine tail_any (ops := [.ref a, .ref s4.heap.objs.size]) (show Shared.TypeIs _ (.ref a) "tuple" from let ⟨o, w1, w2, _⟩ := ht; ⟨o, w1, w2⟩) (PyProof.Rows.slot_tuple_getitem.lookup) ?_ (by with_unfolding_all rfl)
  apply getItem_back ht (Heap.IsSliceOf.new _ .none .none vs) ps (by rw [List.size_toArray, ← r.length]; exact hz)
  exact new_tup (tk := s4.toks) I5 r.reverse (by rw [List.length_reverse]; exact hz) rfl (fun _ _ w => w) q
def gBack (g : Rho → M D) : Rho → M D := fun ρ => bnd (g ρ) revD
@[simp] theorem x_gBack (g : Rho → M D) (ρ : Rho) : gBack g ρ = bnd (g ρ) revD := rfl
def gCnt (go ge : Rho → M D) : Rho → M D := gSq go fun d ρ => bnd (ge ρ) fun y => op2 fCnt d y
@[simp] theorem x_gCnt (go ge : Rho → M D) (ρ : Rho) : gCnt go ge ρ = bnd (go ρ) fun d => if isSeq d = true then bnd (ge ρ) fun y => op2 fCnt d y else stk := rfl
theorem E_back {e : Expr} {g : Rho → M D} {k : Nat} {p1 p2 p3 pos : Pos} (hK : G.K = X.K) (he : PE X e (tE G g)) : PE X (.Subscript e (.Slice none none (some (minusOne k p1 p2)) p3) pos) (tE G (gBack g)) := by
  have rev_dq : ∀ {F : Hp} {vs : List V} {ds : List D}, DqAll G.K F vs ds → DqAll G.K F vs.reverse ds.reverse := by
    intro F vs ds h
    induction ds generalizing vs with
    | nil => cases h; exact .nil
    | cons d ds ih =>
      cases h with
      | cons h1 h2 =>
        rw [List.reverse_cons, List.reverse_cons]
        exact dpAll_append (ih h2) (.cons h1 .nil)
  let tl : TE := tRevL X.K (tE G g)
  let tt : TE := fun σ H Q => tE G g σ H fun x H1 => ∃ a xs, x = V.ref a ∧ SqT X.K H1 a xs ∧ NewT H1 xs.reverse Q
  have both : PE X (.Subscript e (.Slice none none (some (minusOne k p1 p2)) p3) pos) (fun σ H Q => tl σ H Q ∨ tt σ H Q) := ⟨fun pins s σ H Q I q => q.elim (fun q => (pe_revL he).run pins s σ H Q I q) fun q => (pe_backT he).run pins s σ H Q I q⟩
  refine peI both ?_
  rintro σ H Q ⟨F, hs, ρ, R, p⟩
  dsimp only [gBack, bnd] at p
  cases z : g ρ hs with
  | ok d h' =>
    rw [z] at p
    cases d with
    | list ds =>
      refine .inl ⟨F, hs, ρ, R, ?_⟩
      rw [z]
      intro F' H' v st hh rv
      cases rv.dp rfl with
      | @lst a xs _ h1 h2 =>
        refine ⟨a, xs, rfl, SqL.of (st.fh _ _ h1), fun q nq => ?_⟩
        have R' := R.step st hh
        exact post_ret' R' (post.after st (o := ret (PyData.list ds.reverse) h') p) (PStep.alloc R'.sub nq) (.inl (.lst upd_same (dpAll_same (PStep.alloc R'.sub nq (o := .lst xs.reverse)).ff _ _ (rev_dq h2))))
    | tuple ds =>
      refine .inr ⟨F, hs, ρ, R, ?_⟩
      rw [z]
      intro F' H' v st hh rv
      cases rv.dp rfl with
      | @tup a xs _ h1 h2 =>
        refine ⟨a, xs, rfl, (h1.same st.fh).sqt, fun q o nq no => ?_⟩
        have R' := R.step st hh
        exact post_ret' R' (post.after st (o := ret (PyData.tuple ds.reverse) h') p) (PStep.alloc R'.sub nq) (.inl (.tup ⟨o, upd_same, no⟩ (dpAll_same (PStep.alloc R'.sub nq (o := .frz o (.tup xs.reverse))).ff _ _ (rev_dq h2))))
    | _ => exact p.elim
  | err c d h' =>
    refine .inl ⟨F, hs, ρ, R, ?_⟩
    rw [z] at p ⊢
    exact p
  | stuck => rw [z] at p; exact p.elim
@[simp] theorem revD_list (ds : List D) : revD (.list ds) = ret (.list ds.reverse) := rfl
@[simp] theorem revD_tuple (ds : List D) : revD (.tuple ds) = ret (.tuple ds.reverse) := rfl
end
end L2.AR
set_option Elab.async false
set_option linter.all false
set_option maxRecDepth 100000
set_option maxHeartbeats 4000000
/-! Fw33: x = [... for ... in own list], the own list still growing later. -/
namespace L2.AR
open PySem PySem.Spec PyProof.Rows
section
variable {prog : Program} {w : World} {X : Cx} {G : Gh}
def noL1 : D → Bool
  | .list ds => noLs ds
  | d => noL d
def pkC (hs : HS) : Out D → Out D
  | .ok d _ => if noL1 d = true then .ok d hs else .stuck
  | .err c d _ => if noL d = true then .err c d hs else .stuck
  | .stuck => .stuck
/-- a comprehension in which the own list in slot i is read -/
def gPkC (i : Nat) (g : Rho → M D) : Rho → M D := fun ρ hs =>
  match ρ[i]? with
  | some (.own ds) => pkC hs (g (viewR i ds ρ) ⟨[], 0⟩)
  | _ => .stuck
theorem comp_seqN {gi : Rho → M D} {gt : TG} {t : Tgt} {vs : List Nat} {c : Rho → M Bool} {g : Rho → M D} {σ : St} {H : Hp} {Q : VK} {a : Addr} {o : HO} (ht : GOk G vs gt t) (ha : H a = some o) (hn : G.ha ≠ some a) (h : tE G (gComp vs gi t c g) σ H fun v H' => v ≠ V.ref a → Q v H') :
    tLc (iSeq G.K (tE G gi)) gt (tT G.mute c) (tE G.mute g) vs σ H Q := by
  obtain ⟨F, hs, ρ, R, p⟩ := h
  refine iSeq_of (k := fun _ _ _ _ => True) R ?_
  unfold gComp bnd at p
  cases z : gi ρ hs with
  | ok d h' =>
    rw [z] at p
    simp only at p
    cases w : itemsOf d with
    | none => rw [w] at p; exact p.elim
    | some ds =>
      rw [w] at p
      refine ⟨ds, w, fun F' H' J st hh S Dd nD => ?_⟩
      obtain ⟨W, w0, more⟩ := comp_inv ht (R.step st hh) S nD (p.after st)
      have ne : V.ref Dd ≠ V.ref a := by
        intro e
        cases e
        rw [st.keep _ _ ha hn] at nD
        cases nD
      exact ⟨W, w0, fun i m H2 hw => (more i m H2 hw).imp (fun ⟨x, y⟩ => ⟨x, y ne⟩) id⟩
  | err c d h' =>
    rw [z] at p
    exact p
  | stuck => rw [z] at p; exact p.elim
theorem p_setPkC (j i : Nat) {st : Stmt} {gi : Rho → M D} {gt : TG} {t : Tgt} {vs : List Nat} {c : Rho → M Bool} {g : Rho → M D} (ht : ∀ F H : Hp, GOk (G.view F H) vs gt t)
    (h : ∀ F H : Hp, PS X st (tAsg (tLc (iSeq G.K (tE (G.view F H) gi)) gt (tT (G.view F H).mute c) (tE (G.view F H).mute g) vs) (gName j))) :
    PS X st (tS G (sSet j (gPkC i (gComp vs gi t c g)))) := by
  refine psI (t := fun E σ H => ∃ F1 H1 : Hp, (tAsg (tLc (iSeq G.K (tE (G.view F1 H1) gi)) gt (tT (G.view F1 H1).mute c) (tE (G.view F1 H1).mute g) vs) (gName j)) E σ H) ⟨fun pins s σ H E I ⟨F1, H1, q⟩ => (h F1 H1).run pins s σ H E I q⟩ ?_
  intro E σ H q
  obtain ⟨F, hs, ρ, R, p⟩ := exp_then (rel := relE G) q
  unfold gPkC at p
  cases e : ρ[i]? with
  | none => rw [e] at p; exact p.elim
  | some sl =>
    cases sl with
    | own ds =>
      rw [e] at p
      simp only at p
      obtain ⟨a, vs', es, h1, h2, h3, h4, h5⟩ := R.slots i _ e
      have R2 := ((R.freeze e es h1).1).view ⟨[], 0⟩
      refine ⟨upd F a (.lst vs'), H, ?_⟩
      show tLc _ _ _ _ _ _ _ _
      refine comp_seqN (G := G.view (upd F a (.lst vs')) H) (ht _ _) h1 (by simp) ⟨upd F a (.lst vs'), ⟨[], 0⟩, viewR i ds ρ, R2, ?_⟩
      cases z : gComp vs gi t c g (viewR i ds ρ) ⟨[], 0⟩ with
      | ok d h' =>
        rw [z] at p
        unfold pkC at p
        by_cases n : noL1 d = true
        · simp only [if_pos n] at p
          intro F' H' v st _ r nv
          obtain ⟨s1, s2⟩ := look_back R h2 st
          have fa : F' a = some (.lst vs') := st.ff a _ upd_same
          have fin : Rp G.K (cutH F' a) G.ha v d → gName j v σ H' E.nx := fun hr => by
            obtain ⟨F2, hs2, ρ2, d2, R3, r3, p3⟩ := p (cutH F' a) H' v s1 s2 hr
            exact p3 F2 H' _ (Same.refl F2) (R3.put j r3)
          cases d with
          | list es =>
            cases r.dp rfl with
            | @lst b us _ k1 k2 =>
              have nb : b ≠ a := fun z => nv (by rw [z])
              exact fin (.inl (.lst (by rw [cutH_ne nb]; exact k1) (dqs_cut fa _ _ n k2)))
          | dict k =>
            rcases r with r | ⟨_, _, q, _⟩
            · cases r
            · cases q
          | _ => exact fin (.inl (dq_cut fa _ _ n (r.dp rfl)))
        · simp only [if_neg n] at p
          exact p.elim
      | err c d h' =>
        rw [z] at p
        unfold pkC at p
        by_cases n : noL d = true
        · simp only [if_pos n] at p
          exact pk_err R h2 n p
        · simp only [if_neg n] at p
          exact p.elim
      | stuck => rw [z] at p; exact p.elim
    | _ => rw [e] at p; exact p.elim
end
theorem x_gPkC {i : Nat} {g : Rho → M D} {ρ : Rho} {ds : List D} {d : D} (e : ρ[i]? = some (.own ds)) (eg : g (viewR i ds ρ) = ret d) (n : noL1 d = true) : gPkC i g ρ = ret d := by
  funext hs
  unfold gPkC
  rw [e]
  show pkC hs (g (viewR i ds ρ) ⟨[], 0⟩) = _
  rw [eg]
  show (if noL1 d = true then Out.ok d hs else Out.stuck) = _
  rw [if_pos n]
  rfl
end L2.AR
set_option Elab.async false
set_option linter.all false
set_option maxRecDepth 100000
set_option maxHeartbeats 4000000
/-! Fw34: sorted(t), t a tuple or a list of data that are alike. -/
namespace PySem.W
open PySem PySem.Calls PyProof.Rows
section
variable {prog : Program} {w : World} {A : Around} {E : Value → Shared → Prop} {s : Shared}
theorem gather_tup {tp : Addr} {us : List Value} {Q : List Value → Shared → Prop} (it : IsTup s.heap tp us.toArray) (few : us.length ≤ sizeLine)
    (q : Q us { s with heap := (s.heap.push (seqObj "list" #[] 0)).update s.heap.objs.size (Obj.mapSeq (· ++ us.toArray)) }) : wpAny (model prog w) A (collect (.ref tp)) Q E s := by
  obtain ⟨ob, at_, cl, ep, da⟩ := id it
  have at2 : (s.heap.push (seqObj "list" #[] 0)).get? tp = some ob := Heap.get?_push_of_some _ at_
  have fresh : (s.heap.push (seqObj "list" #[] 0)).get? s.heap.objs.size = some (seqObj "list" #[] 0) := Heap.get?_push_size _ rfl
  unfold collect
  apply wpAny_bind
  apply wpAny_runValue
  apply codeAny_builtin entry_proto_collect'
  show wpAny _ _ (do again (.builtin "list.__iadd__" ⟨[← newList [], .ref tp], []⟩)) _ _ s
  apply wpAny_bind
  refine wpAny_newList (wpAny_pure ?_)
  refine ⟨Code.quiet_builtin _ (by decide +kernel), codeAny_builtin entry_list_iadd' ?_⟩
  show wpAny _ _ (Builtin.List.listExtendWith (.ref s.heap.objs.size) (.ref tp) (.ref s.heap.objs.size)) _ _ { s with heap := s.heap.push (seqObj "list" #[] 0) }
  unfold Builtin.List.listExtendWith
  have ty : Shared.TypeIs { s with heap := s.heap.push (seqObj "list" #[] 0) } (.ref tp) "tuple" := ⟨ob, at2, cl⟩
  apply wpAny_bind
  apply wpAny_typeOf ty
  have yes : (Value.type "tuple" == Value.type "tuple") = true := by rfl
  rw [if_pos (by rw [yes]; simp)]
  apply wpAny_bind
  apply listItems_at at2 da
  apply wpAny_bind
  apply listItems_at fresh rfl
  rw [if_neg (by simp)]
  apply wpAny_bind
  refine listUpdate_at fresh rfl ?_ (Nat.zero_le _) ?_
  rotate_left
  · show (#[] ++ us.toArray).size ≤ sizeLine + 1
    simp only [Array.size_append, List.size_toArray, List.length_nil]
    omega
  apply wpAny_pure
  show wpAny (model prog w) A (do
      let o ← load s.heap.objs.size
      match o.data with
      | .seq xs _ => pure xs.toList
      | _ => unsupported "internal:collect") Q E { s with heap := (s.heap.push (seqObj "list" #[] 0)).update s.heap.objs.size (Obj.mapSeq (· ++ us.toArray)) }
  apply wpAny_bind
  apply wpAny_load (get?_update_seq fresh _)
  show wpAny _ _ (pure ((#[] : Array Value) ++ us.toArray).toList) Q E _
  have same : ((#[] : Array Value) ++ us.toArray).toList = us := by simp
  rw [same]
  exact wpAny_pure q
theorem sorted_tup_of {tp : Addr} {us : List Value} {Q : Value → Shared → Prop} (it : IsTup s.heap tp us.toArray) (few : us.length ≤ sizeLine)
    (run : ∀ E' : Value → Shared → Prop, wpAny (model prog w) A.in1.in1 (Builtin.«list.sort» ⟨[.ref (s.heap.objs.size + 1)], []⟩) (fun f s' => f = .done (.ret .none) ∧ Q (.ref (s.heap.objs.size + 1)) s') E' { s with heap := copyHeap s.heap us }) :
    wpAny (model prog w) A (call (.builtin "sorted") [.ref tp]) Q E s := by
  apply call_function_entry_kw kind_sorted plain_sorted entry_sorted (args_sorted1 _)
  unfold Builtin.«sorted»
  apply wpAny_bind (m := checkCount "sorted" 1 1 _)
  apply wpAny_pure
  apply wpAny_bind
  apply gather_tup it few
  apply wpAny_bind
  refine wpAny_newList ?_ few
  have size1 : ((s.heap.push (seqObj "list" #[] 0)).update s.heap.objs.size (Obj.mapSeq (· ++ us.toArray))).objs.size = s.heap.objs.size + 1 := by
    rw [Heap.size_update, size_push']
  show wpAny _ _ _ _ _ { s with heap := copyHeap s.heap us }
  rw [size1]
  apply wpAny_bind
  apply wpAny_holding
  refine wpAny_call_entry_kw slot_list_sort ⟨_, copyHeap_at s.heap us, rfl⟩ entry_list_sort ?_ (args_list_sort _)
  show wpAny (model prog w) A.in1.in1 (Builtin.«list.sort» ⟨[.ref (s.heap.objs.size + 1)], []⟩) _ _ _
  refine wpAny_mono (run _) (fun f s' hf => ?_) fun _ _ z => z
  rcases hf with ⟨rfl, hq⟩
  exact ⟨_, rfl, wpAny_pure ⟨_, rfl, hq⟩⟩
theorem sorted_tup_data {β : Type} {R : Value → β → Prop} {enc : β → PyData} {us : List Value} {bs : List β} {tp : Addr} {Q : Value → Shared → Prop} (it : IsTup s.heap tp us.toArray) (each : EachIs R us bs) (reads : EachIs (fun v b => ∃ as, Reads s.heap v (enc b) as) us bs)
    (al : AllAlike (bs.map enc)) (so : Sortable (bs.map enc)) (few : bs.length ≤ sizeLine) (deep : ∀ b, b ∈ bs → A.units + 2 + (enc b).depth < cLine)
    (q : ∀ out, out.length = bs.length → EachIs R out (bs.mergeSort (dataLe false enc)) → Q (.ref (s.heap.objs.size + 1)) { s with heap := sortedAll s.heap us (List.toArray out) }) :
    wpAny (model prog w) A (call (.builtin "sorted") [.ref tp]) Q E s := by
  have moved : EachIs (fun v b => ∃ as, Reads (sortingHeap (copyHeap s.heap us) (s.heap.objs.size + 1) us) v (enc b) as) us bs := reads.mono fun _ _ ⟨as, r⟩ => ⟨as, PyProof.Rows.Reads.keeps (fun _ _ => sorting_copy_old) r⟩
  have keys := SortsAt.data (prog := prog) (w := w) (A := A.in1.in1) (s := { s with heap := sortingHeap (copyHeap s.heap us) (s.heap.objs.size + 1) us }) (each_map (R := fun v d => ∃ as, Reads (sortingHeap (copyHeap s.heap us) (s.heap.objs.size + 1) us) v d as) enc moved) al so (bound_map deep)
  have len : us.length ≤ sizeLine := by rw [each.length]; exact few
  refine sorted_tup_of it len fun _ => list_sort_vals (s := { s with heap := copyHeap s.heap us }) (copyHeap_at s.heap us) keys len ⟨rfl, ?_⟩
  refine q _ ?_ (sortVals_data false each moved al)
  rw [sortVals_length false rfl]
  exact each.length
end
end PySem.W
namespace L2.AR
open PySem PySem.Spec PyProof.Rows
def rSortedU (K : PySem.W.Frag) : List V → Hp → VK → Prop := fun vs H Q => ∃ (a : Addr) (xs : List V) (ds : List D), vs = [V.ref a] ∧ SqT K H a xs ∧ DqAll K H xs ds ∧ srtOk ds = true ∧
  ∀ ys p, Paired (fun y d => (y, d) ∈ xs.zip ds) ys (ds.mergeSort leD) → H p = none → Q (.ref p) (upd H p (.lst ys))
def rSortedB (K : PySem.W.Frag) : List V → Hp → VK → Prop := fun vs H Q => rSortedD K vs H Q ∨ rSortedU K vs H Q
def fSortB : List D → Option D
  | [.list ds] => if srtOk ds = true then some (.list (ds.mergeSort leD)) else none
  | [.tuple ds] => if srtOk ds = true then some (.list (ds.mergeSort leD)) else none
  | _ => none
section
variable {X : Cx}
theorem srt_parts {ds : List D} (ok : srtOk ds = true) : PySem.W.AllAlike (ds.map fun d => d) ∧ PySem.W.Sortable (ds.map fun d => d) ∧ (∀ d ∈ ds, d.depth ≤ 40) ∧ ds.length ≤ 1000000 := by
  unfold srtOk at ok
  simp only [Bool.and_eq_true, decide_eq_true_eq] at ok
  obtain ⟨⟨⟨k1, k2⟩, k3⟩, k4⟩ := ok
  rw [List.map_id']
  refine ⟨fun x hx y hy => List.all_eq_true.mp (List.all_eq_true.mp k1 x hx) y hy, ?_, fun d m => of_decide_eq_true (List.all_eq_true.mp k3 d m), k4⟩
  rw [Bool.or_eq_true] at k2
  rcases k2 with k2 | k2
  · refine .inl fun d m => ?_
    have := List.all_eq_true.mp k2 d m
    cases d with
    | tuple zs =>
      cases zs with
      | nil => cases this
      | cons z zs => exact ⟨z, zs, rfl⟩
    | _ => cases this
  · refine .inr fun d m => ?_
    have := List.all_eq_true.mp k2 d m
    cases d with
    | none => cases this
    | tuple zs => cases this
    | _ => exact ⟨(fun z => by cases z), fun _ z => by cases z⟩
theorem cr_sortedU (hu : X.A.units + 64 < cLine) : CallR X (.builtin "sorted") (rSortedU X.K) := by
  intro pins s σ H vs us Q I r h
  obtain ⟨a, xs, ds, rfl, hs, hd, ok, q⟩ := h
  obtain ⟨al, so, k3, k4⟩ := srt_parts ok
  obtain ⟨its, rv, ht, hz⟩ := I.tuple hs
  obtain ⟨u, rfl, ru⟩ := vals1 r
  obtain rfl : u = Value.ref a := ru
  refine PySem.W.sorted_tup_data (enc := fun d : D => d) (R := fun u d => ∃ v, RelV v u ∧ (v, d) ∈ xs.zip ds) ht (zip_at hd rv fun z m => m) (reads_at I hd rv) al so (by rw [sizeLine_eq]; omega) (fun d m => ?_) fun out ho eo => ?_
  · have := k3 d m
    omega
  · obtain ⟨ys, h1, h2⟩ := zip_back eo
    obtain ⟨n, hn⟩ := sortedAll_at s.heap its out.toArray
    refine ⟨.ref _, upd H (s.heap.objs.size + 1) (.lst ys), I.laid (t' := s.toks) (fun b o e => sortedAll_old e) (Nat.le_succ _) ⟨?_, out, n, h1, hn⟩, rfl, q ys _ h2 (I.hok.fresh (Nat.le_succ _))⟩
    rw [vals_len h1, ho, sizeLine_eq]
    omega
theorem cr_sortedB (hu : X.A.units + 64 < cLine) : CallR X (.builtin "sorted") (rSortedB X.K) := fun pins s σ H vs us Q I r h => h.elim (cr_sortedD hu pins s σ H vs us Q I r) (cr_sortedU hu pins s σ H vs us Q I r)
end
section
variable {K : PySem.W.Frag}
theorem sortB_ok : RAok K (rSortedB K) fSortB := by
  intro F H vs ds z Q s h e q
  unfold fSortB at e
  split at e
  · rename_i xs
    exact .inl (sortD_ok F H vs _ z Q s h e q)
  · rename_i xs
    obtain ⟨v, rfl, r⟩ := one_val h
    by_cases ok : srtOk xs = true
    · rw [if_pos ok] at e
      cases e
      cases r with
      | tup h1 h2 =>
        rename_i a ws
        refine .inr ⟨a, ws, xs, rfl, (h1.same s).sqt, dpAll_same s _ _ h2, ok, fun ys p pr np => ?_⟩
        have hy := dq_pair (dq_zip h2) pr
        exact q _ _ _ (PStep.alloc s np (o := .lst ys)) (.lst upd_same (dpAll_same (PStep.alloc s np (o := .lst ys)).ff _ _ hy))
    · rw [if_neg ok] at e
      cases e
  · cases e
end
end L2.AR
set_option Elab.async false
set_option linter.all false
set_option maxRecDepth 100000
set_option maxHeartbeats 8000000
namespace L2.AR.T
open PySem PySem.Spec PyProof.Rows

def topS (i : Nat) : Stmt := PySem.Challenge.pw_asinrealtime_k70_stretches_hit.main.body.getD i (.Pass ⟨0, 0, 0, 0⟩)
abbrev st_told_plainly : Stmt := topS 1
theorem sc_told_plainly : FnScope ["thing", "inner"] ["thing"] (defScope st_told_plainly) := ⟨rfl, rfl, rfl, by decide +kernel, rfl, by decide +kernel, by decide +kernel⟩
abbrev st_is_int : Stmt := topS 6
theorem sc_is_int : FnScope ["x"] ["x"] (defScope st_is_int) := ⟨rfl, rfl, rfl, by decide +kernel, rfl, by decide +kernel, by decide +kernel⟩
abbrev st_plain_form : Stmt := topS 7
theorem sc_plain_form : FnScope ["x"] ["x"] (defScope st_plain_form) := ⟨rfl, rfl, rfl, by decide +kernel, rfl, by decide +kernel, by decide +kernel⟩
abbrev st_told_stretches : Stmt := topS 10
theorem sc_told_stretches : FnScope ["stretches", "told", "at", "pair"] ["stretches"] (defScope st_told_stretches) := ⟨rfl, rfl, rfl, by decide +kernel, rfl, by decide +kernel, by decide +kernel⟩
abbrev st_greedy_hits : Stmt := topS 11
theorem sc_greedy_hits : FnScope ["told", "hits", "apart", "last", "first", "at"] ["told"] (defScope st_greedy_hits) := ⟨rfl, rfl, rfl, by decide +kernel, rfl, by decide +kernel, by decide +kernel⟩
abbrev st_hit_number : Stmt := topS 12
theorem sc_hit_number : FnScope ["stretches", "told"] ["stretches"] (defScope st_hit_number) := ⟨rfl, rfl, rfl, by decide +kernel, rfl, by decide +kernel, by decide +kernel⟩
abbrev st_fewest_hits : Stmt := topS 13
theorem sc_fewest_hits : FnScope ["stretches", "told"] ["stretches"] (defScope st_fewest_hits) := ⟨rfl, rfl, rfl, by decide +kernel, rfl, by decide +kernel, by decide +kernel⟩
abbrev st_is_hit : Stmt := topS 14
theorem sc_is_hit : FnScope ["pair", "hits", "hit"] ["pair", "hits"] (defScope st_is_hit) := ⟨rfl, rfl, rfl, by decide +kernel, rfl, by decide +kernel, by decide +kernel⟩
abbrev st_lots_by_length : Stmt := topS 15
theorem sc_lots_by_length : FnScope ["things", "lots", "mask", "lot", "entry", "at"] ["things"] (defScope st_lots_by_length) := ⟨rfl, rfl, rfl, by decide +kernel, rfl, by decide +kernel, by decide +kernel⟩
abbrev st_holds_one : Stmt := topS 16
theorem sc_holds_one : FnScope ["lot", "others", "other", "thing"] ["lot", "others"] (defScope st_holds_one) := ⟨rfl, rfl, rfl, by decide +kernel, rfl, by decide +kernel, by decide +kernel⟩
abbrev st_least_hits : Stmt := topS 17
theorem sc_least_hits : FnScope ["stretches", "told", "lasts", "kept", "lot", "pair"] ["stretches"] (defScope st_least_hits) := ⟨rfl, rfl, rfl, by decide +kernel, rfl, by decide +kernel, by decide +kernel⟩
abbrev st_are_unlike_integers : Stmt := topS 18
theorem sc_are_unlike_integers : FnScope ["x", "part"] ["x"] (defScope st_are_unlike_integers) := ⟨rfl, rfl, rfl, by decide +kernel, rfl, by decide +kernel, by decide +kernel⟩
abbrev st_shows_hits : Stmt := topS 19
theorem sc_shows_hits : FnScope ["stretches", "paper", "told", "pair", "rising", "hits", "apart", "at", "stretch"] ["stretches", "paper"] (defScope st_shows_hits) := ⟨rfl, rfl, rfl, by decide +kernel, rfl, by decide +kernel, by decide +kernel⟩
abbrev st__law_hand : Stmt := topS 21
theorem sc__law_hand : FnScope ["script", "row", "at", "left", "turn"] ["script"] (defScope st__law_hand) := ⟨rfl, rfl, rfl, by decide +kernel, rfl, by decide +kernel, by decide +kernel⟩
abbrev st__law_draw : Stmt := topS 22
theorem sc__law_draw : FnScope ["hand", "many", "at"] ["hand", "many"] (defScope st__law_draw) := ⟨rfl, rfl, rfl, by decide +kernel, rfl, by decide +kernel, by decide +kernel⟩
abbrev st__law_just : Stmt := topS 23
theorem sc__law_just : FnScope ["told", "due"] ["told", "due"] (defScope st__law_just) := ⟨rfl, rfl, rfl, by decide +kernel, rfl, by decide +kernel, by decide +kernel⟩
abbrev st__law_drawn : Stmt := topS 24
theorem sc__law_drawn : FnScope ["hand", "many", "base", "step", "told", "at", "first", "last"] ["hand"] (defScope st__law_drawn) := ⟨rfl, rfl, rfl, by decide +kernel, rfl, by decide +kernel, by decide +kernel⟩
abbrev st__law_is_hit : Stmt := topS 25
theorem sc__law_is_hit : FnScope ["pair", "hits", "hit"] ["pair", "hits"] (defScope st__law_is_hit) := ⟨rfl, rfl, rfl, by decide +kernel, rfl, by decide +kernel, by decide +kernel⟩
abbrev st__law_lots : Stmt := topS 26
theorem sc__law_lots : FnScope ["things", "lots", "thing", "lot"] ["things"] (defScope st__law_lots) := ⟨rfl, rfl, rfl, by decide +kernel, rfl, by decide +kernel, by decide +kernel⟩
abbrev st__law_least : Stmt := topS 27
theorem sc__law_least : FnScope ["told", "lasts", "found", "lot", "fewer", "pair", "one", "thing"] ["told"] (defScope st__law_least) := ⟨rfl, rfl, rfl, by decide +kernel, rfl, by decide +kernel, by decide +kernel⟩
abbrev st__law_are_apart : Stmt := topS 28
theorem sc__law_are_apart : FnScope ["told", "numbers", "at", "other", "one", "two"] ["told", "numbers"] (defScope st__law_are_apart) := ⟨rfl, rfl, rfl, by decide +kernel, rfl, by decide +kernel, by decide +kernel⟩
abbrev st__law_most_apart : Stmt := topS 29
theorem sc__law_most_apart : FnScope ["told", "best", "lot"] ["told"] (defScope st__law_most_apart) := ⟨rfl, rfl, rfl, by decide +kernel, rfl, by decide +kernel, by decide +kernel⟩
abbrev st__law_whole : Stmt := topS 30
theorem sc__law_whole : FnScope ["x"] ["x"] (defScope st__law_whole) := ⟨rfl, rfl, rfl, by decide +kernel, rfl, by decide +kernel, by decide +kernel⟩
abbrev st__law_is_right : Stmt := topS 31
theorem sc__law_is_right : FnScope ["told", "paper", "hits", "apart", "x", "pair", "at"] ["told", "paper"] (defScope st__law_is_right) := ⟨rfl, rfl, rfl, by decide +kernel, rfl, by decide +kernel, by decide +kernel⟩
abbrev st__law_heard : Stmt := topS 32
theorem sc__law_heard : FnScope ["which", "x", "paper", "heard", "error"] ["which", "x", "paper"] (defScope st__law_heard) := ⟨rfl, rfl, rfl, by decide +kernel, rfl, by decide +kernel, by decide +kernel⟩
abbrev st__law_said : Stmt := topS 33
theorem sc__law_said : FnScope ["told", "paper", "said"] ["told", "paper"] (defScope st__law_said) := ⟨rfl, rfl, rfl, by decide +kernel, rfl, by decide +kernel, by decide +kernel⟩
abbrev st__law_papers_right : Stmt := topS 34
theorem sc__law_papers_right : FnScope ["told", "hits", "apart", "hand", "many", "wrong", "at", "one", "other", "paper", "number"] ["told", "hits", "apart", "hand"] (defScope st__law_papers_right) := ⟨rfl, rfl, rfl, by decide +kernel, rfl, by decide +kernel, by decide +kernel⟩
abbrev st__law_lots_right : Stmt := topS 35
theorem sc__law_lots_right : FnScope ["told", "hand", "least", "apart", "handed", "paper", "pair"] ["told", "hand"] (defScope st__law_lots_right) := ⟨rfl, rfl, rfl, by decide +kernel, rfl, by decide +kernel, by decide +kernel⟩
abbrev st__law_refused : Stmt := topS 36
theorem sc__law_refused : FnScope ["told", "hand", "at", "wrong", "ten", "eleven", "lot", "which", "k"] ["told", "hand"] (defScope st__law_refused) := ⟨rfl, rfl, rfl, by decide +kernel, rfl, by decide +kernel, by decide +kernel⟩
abbrev st__law_far : Stmt := topS 37
theorem sc__law_far : FnScope ["hand", "told", "paper", "many", "step", "k"] ["hand"] (defScope st__law_far) := ⟨rfl, rfl, rfl, by decide +kernel, rfl, by decide +kernel, by decide +kernel⟩
abbrev st_law : Stmt := topS 38
theorem sc_law : FnScope ["script", "hand", "told", "empty"] ["script"] (defScope st_law) := ⟨rfl, rfl, rfl, by decide +kernel, rfl, by decide +kernel, by decide +kernel⟩
abbrev st_init_BadLot : Stmt := inClass (topS 3) 0
theorem sc_init_BadLot : FnScope ["self", "at"] ["self", "at"] (defScope st_init_BadLot) := ⟨rfl, rfl, rfl, by decide +kernel, rfl, by decide +kernel, by decide +kernel⟩
abbrev st_init_TooMany : Stmt := inClass (topS 4) 0
theorem sc_init_TooMany : FnScope ["self", "limit"] ["self", "limit"] (defScope st_init_TooMany) := ⟨rfl, rfl, rfl, by decide +kernel, rfl, by decide +kernel, by decide +kernel⟩

/-! ### what the defs say -/
/-- the j-th class is a base of the c-th, or itself -/
def isX (j c : Nat) : Bool := (j == 0 && (c == 0)) || (j == 1 && (c == 1)) || (j == 2 && (c == 0 || c == 1 || c == 2))
def fldOf (c : Nat) : Str := ["at", "limit"].getD c "at"
def clOf (ad : Nat → Addr) (c : Nat) : Addr := ad (33 + c)
def m__law_draw : List D → M D := mDraw
def mId : List D → M D
  | [d] => ret d
  | _ => stk
def m_told_plainly : List D → M D := mPlain 12
def s_is_int : MS :=
 (sRet (vAn (cI ["int"] (gVar 0)) (vNo (cI ["bool"] (gVar 0)))))
def m_is_int : List D → M D := runB 1 1 s_is_int
def s_plain_form : MS :=
 (sRet (cM m_told_plainly (aC (gVar 0) aN)))
def m_plain_form : List D → M D := runB 1 1 s_plain_form
def s_told_stretches : MS :=
 (sSeq (sSet 1 (cM m_plain_form (aC (gVar 0) aN)))
 (sSeq (sIf (tNo (tV (cI ["tuple"] (gVar 1))))
 (sRaise 0 fun ρ => bnd ((vNeg (cK (.int 1))) ρ) fun d => nerr (bnd (m_told_plainly [d]) fun z => if isTok z then stk else ret z))
 sSkip)
 (sSeq (sForR (aC (cA fLen (aC (gVar 1) aN)) aN) (tgN 2)
 (sSeq (sSet 3 (b2 fIx (gVar 1) (gVar 2)))
 (sSeq (sIf (tOr' (tNo (tV (cI ["tuple"] (gVar 3)))) (tOr' (tV (b2 fNe (cA fLen (aC (gVar 3) aN)) (cK (.int 2)))) (tOr' (tNo (tV (cM m_is_int (aC (b2 fIx (gVar 3) (cK (.int 0))) aN)))) (tNo (tV (cM m_is_int (aC (b2 fIx (gVar 3) (cK (.int 1))) aN)))))))
 (sRaise 0 fun ρ => bnd ((gVar 2) ρ) fun d => nerr (bnd (m_told_plainly [d]) fun z => if isTok z then stk else ret z))
 sSkip)
 (sIf (tV (b2 fGt (b2 fIx (gVar 3) (cK (.int 0))) (b2 fIx (gVar 3) (cK (.int 1)))))
 (sRaise 0 fun ρ => bnd ((gVar 2) ρ) fun d => nerr (bnd (m_told_plainly [d]) fun z => if isTok z then stk else ret z))
 sSkip))))
 (sRet (gVar 1)))))
def m_told_stretches : List D → M D := runB 4 1 s_told_stretches
def s_greedy_hits : MS :=
 (sSeq (sNew 1)
 (sSeq (sNew 2)
 (sSeq (sFor (cA fSortB (aC (gCompR [5] (aC (cA fLen (aC (gVar 0) aN)) aN) (tgN 5) tYs (cA mkTup (aC (b2 fIx (b2 fIx (gVar 0) (gVar 5)) (cK (.int 1))) (aC (b2 fIx (b2 fIx (gVar 0) (gVar 5)) (cK (.int 0))) (aC (gVar 5) aN))))) aN)) (tgT [(tgN 3), (tgN 4), (tgN 5)])
 (sIf (tPk 1 (tOr' (tV (b2 fEq (cA fLen (aC (gVar 1) aN)) (cK (.int 0)))) (tV (b2 fLt (b2 fIx (gVar 1) (b2 fSub (cA fLen (aC (gVar 1) aN)) (cK (.int 1)))) (gVar 4)))))
 (sSeq (sApp 1 (gVar 3))
 (sApp 2 (gVar 5)))
 sSkip))
 (sSeq (sFrz 1) (sSeq (sFrz 2) (sRet (cA mkTup (aC (cA fTuple (aC (gVar 1) aN)) (aC (cA fTuple (aC (cA fSortB (aC (gVar 2) aN)) aN)) aN)))))))))
def m_greedy_hits : List D → M D := runB 6 1 s_greedy_hits
def s_hit_number : MS :=
 (sSeq (sSet 1 (cM m_told_stretches (aC (gVar 0) aN)))
 (sRet (cA fLen (aC (b2 fIx (cM m_greedy_hits (aC (gVar 1) aN)) (cK (.int 0))) aN))))
def m_hit_number : List D → M D := runB 2 1 s_hit_number
def s_fewest_hits : MS :=
 (sSeq (sSet 1 (cM m_told_stretches (aC (gVar 0) aN)))
 (sRet (cM m_greedy_hits (aC (gVar 1) aN))))
def m_fewest_hits : List D → M D := runB 2 1 s_fewest_hits
def s_is_hit : MS :=
 (sRet (cA fAny (aC (gComp [2] (gVar 1) (tgN 2) tYs (ch3 fLe fLe (b2 fIx (gVar 0) (cK (.int 0))) (gVar 2) (b2 fIx (gVar 0) (cK (.int 1))))) aN)))
def m_is_hit : List D → M D := runB 3 2 s_is_hit
def s_lots_by_length : MS :=
 (sSeq (sNew 1)
 (sSeq (sForR (aC (b2 fShl (cK (.int 1)) (cA fLen (aC (gVar 0) aN))) aN) (tgN 2)
 (sSeq (sSet 3 (cA fTuple (aC (gCompR [5] (aC (cA fLen (aC (gVar 0) aN)) aN) (tgN 5) (tV (b2 fEq (b2 fAnd (b2 fShr (gVar 2) (gVar 5)) (cK (.int 1))) (cK (.int 1)))) (b2 fIx (gVar 0) (gVar 5))) aN)))
 (sApp 1 (cA mkTup (aC (cA fLen (aC (gVar 3) aN)) (aC (gVar 3) aN))))))
 (sSeq (sFrz 1) (sRet (gComp [4] (cA fSortB (aC (gVar 1) aN)) (tgN 4) tYs (b2 fIx (gVar 4) (cK (.int 1))))))))
def m_lots_by_length : List D → M D := runB 6 1 s_lots_by_length
def s_holds_one : MS :=
 (sRet (cA fAny (aC (gComp [2] (gVar 1) (tgN 2) tYs (cA fAll (aC (gComp [3] (gVar 2) (tgN 3) tYs (b2 (fIn false) (gVar 3) (gVar 0))) aN))) aN)))
def m_holds_one : List D → M D := runB 4 2 s_holds_one
def s_least_hits : MS :=
 (sSeq (sSet 1 (cM m_told_stretches (aC (gVar 0) aN)))
 (sSeq (sSet 2 (gSortC [5] (gVar 1) (tgN 5) tYs (b2 fIx (gVar 5) (cK (.int 1)))))
 (sSeq (sIf (tV (b2 fGt (b2 fShl (cK (.int 1)) (cA fLen (aC (gVar 2) aN))) (cK (.int 1024))))
 (sRaise 1 fun ρ => bnd ((cK (.int 1024)) ρ) fun d => nerr (bnd (mId [d]) fun z => if isTok z then stk else ret z))
 sSkip)
 (sSeq (sNew 3)
 (sSeq (sFor (cM m_lots_by_length (aC (gVar 2) aN)) (tgN 4)
 (sIf (tPk 3 (tAn (tNo (tV (cM m_holds_one (aC (gVar 4) (aC (gVar 3) aN))))) (tV (cA fAll (aC (gComp [5] (gVar 1) (tgN 5) tYs (cM m_is_hit (aC (gVar 5) (aC (gVar 4) aN)))) aN)))))
 (sApp 3 (gVar 4))
 sSkip))
 (sSeq (sFrz 3) (sRet (cA fTuple (aC (gVar 3) aN)))))))))
def m_least_hits : List D → M D := runB 6 1 s_least_hits
def s_are_unlike_integers : MS :=
 (sSeq (sIf (tOr' (tNo (tV (cI ["tuple"] (gVar 0)))) (tNo (tV (cA fAll (aC (gComp [1] (gVar 0) (tgN 1) tYs (cM m_is_int (aC (gVar 1) aN))) aN)))))
 (sRet (cK (.bool false)))
 sSkip)
 (sRet (b2 fEq (cA fLenSet (aC (gVar 0) aN)) (cA fLen (aC (gVar 0) aN)))))
def m_are_unlike_integers : List D → M D := runB 2 1 s_are_unlike_integers
def s_shows_hits : MS :=
 (sSeq (sSet 2 (cM m_told_stretches (aC (gVar 0) aN)))
 (sSeq (sSet 3 (cM m_plain_form (aC (gVar 1) aN)))
 (sSeq (sIf (tOr' (tNo (tV (cI ["tuple"] (gVar 3)))) (tV (b2 fNe (cA fLen (aC (gVar 3) aN)) (cK (.int 2)))))
 (sRet (cK (.bool false)))
 sSkip)
 (sSeq (sAsg (gVar 3) (tgL [(tgN 5), (tgN 6)]))
 (sSeq (sIf (tOr' (tNo (tV (cM m_are_unlike_integers (aC (gVar 5) aN)))) (tOr' (tNo (tV (cM m_are_unlike_integers (aC (gVar 6) aN)))) (tV (b2 fNe (cA fLen (aC (gVar 5) aN)) (cA fLen (aC (gVar 6) aN))))))
 (sRet (cK (.bool false)))
 sSkip)
 (sSeq (sIf (tNo (tV (cA fAll (aC (gComp [8] (gVar 2) (tgN 8) tYs (cM m_is_hit (aC (gVar 8) (aC (gVar 5) aN)))) aN))))
 (sRet (cK (.bool false)))
 sSkip)
 (sSeq (sIf (tNo (tV (cA fAll (aC (gComp [7] (gVar 6) (tgN 7) tYs (ch3 fLe fLt (cK (.int 0)) (gVar 7) (cA fLen (aC (gVar 2) aN)))) aN))))
 (sRet (cK (.bool false)))
 sSkip)
 (sSeq (sSet 4 (cA fSortB (aC (gComp [7] (gVar 6) (tgN 7) tYs (b2 fIx (gVar 2) (gVar 7))) aN)))
 (sRet (cA fAll (aC (gCompR [7] (aC (b2 fSub (cA fLen (aC (gVar 4) aN)) (cK (.int 1))) aN) (tgN 7) tYs (b2 fLt (b2 fIx (b2 fIx (gVar 4) (gVar 7)) (cK (.int 1))) (b2 fIx (b2 fIx (gVar 4) (b2 fAdd (gVar 7) (cK (.int 1)))) (cK (.int 0))))) aN)))))))))))
def m_shows_hits : List D → M D := runB 9 2 s_shows_hits
def s__law_just : MS :=
 (sRet (vAn (b2 fEq (gVar 0) (gVar 1)) (b2 fEq (cA fRepr (aC (gVar 0) aN)) (cA fRepr (aC (gVar 1) aN)))))
def m__law_just : List D → M D := runB 2 2 s__law_just
def s__law_drawn : MS :=
 (sSeq (sSet 1 (b2 fIx (cA mkTup (aC (cK (.int 3)) (aC (cK (.int 5)) (aC (cK (.int 7)) (aC (cK (.int 0)) (aC (cK (.int 1)) (aC (cK (.int 2)) (aC (cK (.int 6)) (aC (cK (.int 4)) aN))))))))) (cM m__law_draw (aC (gVar 0) (aC (cK (.int 8)) aN)))))
 (sSeq (sSet 2 (b2 fIx (cA mkTup (aC (cK (.int 0)) (aC (vNeg (cK (.int 5))) (aC (b2 fPow (cK (.int 10)) (cK (.int 12))) (aC (b2 fAdd (vNeg (b2 fPow (cK (.int 10)) (cK (.int 30)))) (cK (.int 100))) aN))))) (cM m__law_draw (aC (gVar 0) (aC (cK (.int 4)) aN)))))
 (sSeq (sSet 3 (b2 fIx (cA mkTup (aC (cK (.int 2)) (aC (cK (.int 1)) (aC (cK (.int 3)) aN)))) (cM m__law_draw (aC (gVar 0) (aC (cK (.int 3)) aN)))))
 (sSeq (sNew 4)
 (sSeq (sForR (aC (gVar 1) aN) (tgN 5)
 (sSeq (sSet 6 (b2 fAdd (gVar 2) (b2 fMul (gVar 3) (b2 fMod (cA fInt (aC (b2 fAdd (cM m__law_draw (aC (gVar 0) (aC (cK (.int 9)) aN))) (b2 fMul (cK (.int 2)) (gVar 5))) aN)) (cK (.int 9))))))
 (sSeq (sSet 7 (b2 fAdd (gVar 6) (b2 fIx (cA mkTup (aC (cK (.int 2)) (aC (cK (.int 0)) (aC (cK (.int 1)) (aC (cK (.int 5)) (aC (cK (.int 9)) (aC (cK (.int 3)) aN))))))) (cM m__law_draw (aC (gVar 0) (aC (cK (.int 6)) aN))))))
 (sSeq (sIf (tAn (tV (b2 fEq (cM m__law_draw (aC (gVar 0) (aC (cK (.int 5)) aN))) (cK (.int 4)))) (tV (b2 fGt (gVar 5) (cK (.int 0)))))
 (sAsg (gPk 4 (b2 fIx (gVar 4) (b2 fSub (gVar 5) (cK (.int 1))))) (tgT [(tgN 6), (tgN 7)]))
 sSkip)
 (sApp 4 (cA mkTup (aC (gVar 6) (aC (gVar 7) aN))))))))
 (sSeq (sFrz 4) (sRet (gVar 4))))))))
def m__law_drawn : List D → M D := runB 8 1 s__law_drawn
def s__law_is_hit : MS :=
 (sRet (cA fAny (aC (gComp [2] (gVar 1) (tgN 2) tYs (ch3 fLe fLe (b2 fIx (gVar 0) (cK (.int 0))) (gVar 2) (b2 fIx (gVar 0) (cK (.int 1))))) aN)))
def m__law_is_hit : List D → M D := runB 3 2 s__law_is_hit
def s__law_lots : MS :=
 (sSeq (sSet 1 (cA mkLst (aC (cA mkTup aN) aN)))
 (sSeq (sFor (gVar 0) (tgN 2)
 (sSet 1 (b2 fAdd (gVar 1) (gComp [3] (gVar 1) (tgN 3) tYs (b2 fAdd (gVar 3) (cA mkTup (aC (gVar 2) aN)))))))
 (sRet (gComp [3] (cA fSortB (aC (gComp [3] (gVar 1) (tgN 3) tYs (b2 fAdd (cA mkTup (aC (cA fLen (aC (gVar 3) aN)) aN)) (gVar 3))) aN)) (tgN 3) tYs (sl (gVar 3) (oSo (cK (.int 1))) oNo)))))
def m__law_lots : List D → M D := runB 4 1 s__law_lots
def s__law_least : MS :=
 (sSeq (sSet 1 (cA fSortSet (aC (gComp [5] (gVar 0) (tgN 5) tYs (b2 fIx (gVar 5) (cK (.int 1)))) aN)))
 (sSeq (sNew 2)
 (sSeq (sFor (cM m__law_lots (aC (gVar 1) aN)) (tgN 3)
 (sIf (tV (cA fAll (aC (gComp [5] (gVar 0) (tgN 5) tYs (cM m__law_is_hit (aC (gVar 5) (aC (gVar 3) aN)))) aN)))
 (sSeq (sSet 4 (gPkC 2 (gComp [6] (gVar 2) (tgN 6) (tV (cA fAll (aC (gComp [7] (gVar 6) (tgN 7) tYs (b2 (fIn false) (gVar 7) (gVar 3))) aN))) (gVar 6))))
 (sIf (tV (b2 fEq (cA fLen (aC (gVar 4) aN)) (cK (.int 0))))
 (sApp 2 (gVar 3))
 sSkip))
 sSkip))
 (sSeq (sFrz 2) (sRet (cA fTuple (aC (gVar 2) aN)))))))
def m__law_least : List D → M D := runB 8 1 s__law_least
def s__law_are_apart : MS :=
 (sSeq (sForR (aC (cA fLen (aC (gVar 1) aN)) aN) (tgN 2)
 (sFor (sl (gVar 1) (oSo (b2 fAdd (gVar 2) (cK (.int 1)))) oNo) (tgN 3)
 (sSeq (sPar 4 5 (aC (b2 fIx (gVar 0) (b2 fIx (gVar 1) (gVar 2))) (aC (b2 fIx (gVar 0) (gVar 3)) aN)))
 (sIf (tAn (tV (b2 fLe (b2 fIx (gVar 4) (cK (.int 0))) (b2 fIx (gVar 5) (cK (.int 1))))) (tV (b2 fLe (b2 fIx (gVar 5) (cK (.int 0))) (b2 fIx (gVar 4) (cK (.int 1))))))
 (sRet (cK (.bool false)))
 sSkip))))
 (sRet (cK (.bool true))))
def m__law_are_apart : List D → M D := runB 6 2 s__law_are_apart
def s__law_most_apart : MS :=
 (sSeq (sSet 1 (cA mkTup aN))
 (sSeq (sFor (cM m__law_lots (aC (cA fLrg (aC (cA fLen (aC (gVar 0) aN)) aN)) aN)) (tgN 2)
 (sIf (tAn (tV (b2 fGt (cA fLen (aC (gVar 2) aN)) (cA fLen (aC (gVar 1) aN)))) (tV (cM m__law_are_apart (aC (gVar 0) (aC (gVar 2) aN)))))
 (sSet 1 (gVar 2))
 sSkip))
 (sRet (gVar 1))))
def m__law_most_apart : List D → M D := runB 3 1 s__law_most_apart
def s__law_whole : MS :=
 (sRet (vAn (cI ["int"] (gVar 0)) (vNo (cI ["bool"] (gVar 0)))))
def m__law_whole : List D → M D := runB 1 1 s__law_whole
def s__law_is_right : MS :=
 (sSeq (sIf (tOr' (tNo (tV (cI ["tuple", "list"] (gVar 1)))) (tV (b2 fNe (cA fLen (aC (gVar 1) aN)) (cK (.int 2)))))
 (sRet (cK (.bool false)))
 sSkip)
 (sSeq (sAsg (gVar 1) (tgL [(tgN 2), (tgN 3)]))
 (sSeq (sIf (tOr' (tNo (tV (cI ["tuple", "list"] (gVar 2)))) (tOr' (tNo (tV (cI ["tuple", "list"] (gVar 3)))) (tV (b2 fNe (cA fLen (aC (gVar 2) aN)) (cA fLen (aC (gVar 3) aN))))))
 (sRet (cK (.bool false)))
 sSkip)
 (sSeq (sIf (tOr' (tNo (tV (cA fAll (aC (gComp [4] (gVar 2) (tgN 4) tYs (cM m__law_whole (aC (gVar 4) aN))) aN)))) (tNo (tV (cA fAll (aC (gComp [4] (gVar 3) (tgN 4) tYs (cM m__law_whole (aC (gVar 4) aN))) aN)))))
 (sRet (cK (.bool false)))
 sSkip)
 (sSeq (sIf (tOr' (tV (cA fAny (aC (gComp [4] (gVar 2) (tgN 4) tYs (b2 fGt (gCnt (gVar 2) (gVar 4)) (cK (.int 1)))) aN))) (tV (cA fAny (aC (gComp [4] (gVar 3) (tgN 4) tYs (b2 fGt (gCnt (gVar 3) (gVar 4)) (cK (.int 1)))) aN))))
 (sRet (cK (.bool false)))
 sSkip)
 (sSeq (sIf (tOr' (tNo (tV (cA fAll (aC (gComp [5] (gVar 0) (tgN 5) tYs (cM m__law_is_hit (aC (gVar 5) (aC (gVar 2) aN)))) aN)))) (tNo (tV (cA fAll (aC (gComp [6] (gVar 3) (tgN 6) tYs (ch3 fLe fLt (cK (.int 0)) (gVar 6) (cA fLen (aC (gVar 0) aN)))) aN)))))
 (sRet (cK (.bool false)))
 sSkip)
 (sRet (cM m__law_are_apart (aC (gVar 0) (aC (cA fList (aC (gVar 3) aN)) aN))))))))))
def m__law_is_right : List D → M D := runB 7 2 s__law_is_right
def s__law_heard : MS :=
 (sSeq (sSet 3 (cA mkTup (aC (cK (.str "nothing")) (aC (cK .none) aN))))
 (sSeq (sTry 2 (sIf (tV (b2 fEq (gVar 0) (cK (.int 0))))
 (sSet 3 (cA mkTup (aC (cK (.str "told")) (aC (cM m_hit_number (aC (gVar 1) aN)) aN))))
 (sIf (tV (b2 fEq (gVar 0) (cK (.int 1))))
 (sSet 3 (cA mkTup (aC (cK (.str "told")) (aC (cM m_fewest_hits (aC (gVar 1) aN)) aN))))
 (sIf (tV (b2 fEq (gVar 0) (cK (.int 2))))
 (sSet 3 (cA mkTup (aC (cK (.str "told")) (aC (cM m_least_hits (aC (gVar 1) aN)) aN))))
 (sSet 3 (cA mkTup (aC (cK (.str "told")) (aC (cM m_shows_hits (aC (gVar 1) (aC (gVar 2) aN))) aN)))))))
 [⟨isX 0, some 4, (sSet 3 (cA mkTup (aC (cK (.str "lot")) (aC (gExc [0] (fun _ x => ret x) 4) aN))))⟩,
 ⟨isX 1, some 4, (sSet 3 (cA mkTup (aC (cK (.str "many")) (aC (gExc [1] (fun _ x => ret x) 4) aN))))⟩,
 ⟨isX 2, none, (sSet 3 (cA mkTup (aC (cK (.str "else")) (aC (cK .none) aN))))⟩])
 (sRet (gVar 3))))
def m__law_heard : List D → M D := runB 5 3 s__law_heard
def s__law_said : MS :=
 (sSeq (sSet 2 (cM m_shows_hits (aC (gVar 0) (aC (gVar 1) aN))))
 (sRet (b2 fIx (cA mkTup (aC (b2 fIs (gVar 2) (cK (.bool false))) (aC (b2 fIs (gVar 2) (cK (.bool true))) aN))) (cA fInt (aC (cM m__law_is_right (aC (gVar 0) (aC (gVar 1) aN))) aN)))))
def m__law_said : List D → M D := runB 3 2 s__law_said
def s__law_papers_right : MS :=
 (sSeq (sSet 4 (cA fLen (aC (gVar 0) aN)))
 (sSeq (sSet 5 (cA mkLst (aC (cK .none) (aC (cA mkTup aN) (aC (cK (.int 5)) (aC (cK (.str "ab")) (aC (cA mkTup (aC (gVar 1) aN)) (aC (cA mkTup (aC (gVar 1) (aC (gVar 2) (aC (cA mkTup aN) aN)))) (aC (cA mkTup (aC (gVar 2) (aC (gVar 1) aN))) (aC (cA mkTup (aC (gVar 1) (aC (cK .none) aN))) (aC (cA mkTup (aC (cK (.int 7)) (aC (gVar 2) aN))) (aC (cA mkLst (aC (cA fList (aC (gVar 1) aN)) (aC (cA fList (aC (gVar 2) aN)) aN))) (aC (cA mkTup (aC (gBack (gVar 1)) (aC (gBack (gVar 2)) aN))) aN)))))))))))))
 (sSeq (sIf (tV (b2 fGt (cA fLen (aC (gVar 1) aN)) (cK (.int 0))))
 (sSeq (sSet 6 (cM m__law_draw (aC (gVar 3) (aC (cA fLen (aC (gVar 1) aN)) aN))))
 (sSeq (sAsg (cA mkTup (aC (b2 fAdd (sl (gVar 1) oNo (oSo (gVar 6))) (sl (gVar 1) (oSo (b2 fAdd (gVar 6) (cK (.int 1)))) oNo)) (aC (b2 fAdd (sl (gVar 2) oNo (oSo (gVar 6))) (sl (gVar 2) (oSo (b2 fAdd (gVar 6) (cK (.int 1)))) oNo)) aN))) (tgT [(tgN 7), (tgN 8)]))
 (sSeq (sSet 5 (b2 fAdd (gVar 5) (cA mkLst (aC (cA mkTup (aC (gVar 7) (aC (gVar 2) aN))) (aC (cA mkTup (aC (gVar 1) (aC (gVar 8) aN))) (aC (cA mkTup (aC (gVar 7) (aC (gVar 8) aN))) (aC (cA mkTup (aC (b2 fAdd (gVar 1) (sl (gVar 1) oNo (oSo (cK (.int 1))))) (aC (b2 fAdd (gVar 2) (sl (gVar 2) oNo (oSo (cK (.int 1))))) aN))) (aC (cA mkTup (aC (b2 fAdd (gVar 1) (sl (gVar 1) oNo (oSo (cK (.int 1))))) (aC (b2 fAdd (gVar 2) (cA mkTup (aC (gVar 4) aN))) aN))) aN))))))))
 (sSeq (sSet 5 (b2 fAdd (gVar 5) (cA mkLst (aC (cA mkTup (aC (b2 fAdd (gVar 7) (cA mkTup (aC (b2 fAdd (b2 fIx (gVar 1) (gVar 6)) (cK (.int 1))) aN))) (aC (gVar 2) aN))) (aC (cA mkTup (aC (b2 fAdd (gVar 7) (cA mkTup (aC (b2 fSub (b2 fIx (gVar 1) (gVar 6)) (cK (.int 1))) aN))) (aC (gVar 2) aN))) (aC (cA mkTup (aC (b2 fAdd (gVar 7) (cA mkTup (aC (b2 fAdd (b2 fIx (gVar 1) (gVar 6)) (b2 fPow (cK (.int 10)) (cK (.int 13)))) aN))) (aC (gVar 2) aN))) (aC (cA mkTup (aC (b2 fAdd (gVar 7) (cA mkTup (aC (cK (.bool true)) aN))) (aC (gVar 2) aN))) aN)))))))
 (sSeq (sSet 5 (b2 fAdd (gVar 5) (cA mkLst (aC (cA mkTup (aC (gVar 1) (aC (b2 fAdd (gVar 8) (cA mkTup (aC (gVar 4) aN))) aN))) (aC (cA mkTup (aC (gVar 1) (aC (b2 fAdd (gVar 8) (cA mkTup (aC (vNeg (cK (.int 1))) aN))) aN))) (aC (cA mkTup (aC (gVar 1) (aC (b2 fAdd (gVar 8) (cA mkTup (aC (cK .none) aN))) aN))) (aC (cA mkTup (aC (gVar 1) (aC (b2 fAdd (gVar 8) (cA mkTup (aC (cK (.bool false)) aN))) aN))) (aC (cA mkTup (aC (gVar 1) (aC (b2 fAdd (gVar 8) (cA mkTup (aC (cA mkTup (aC (cK (.int 0)) aN)) aN))) aN))) aN))))))))
 (sSeq (sSet 5 (b2 fAdd (gVar 5) (gCompR [10] (aC (gVar 4) aN) (tgN 10) tYs (cA mkTup (aC (gVar 1) (aC (b2 fAdd (gVar 8) (cA mkTup (aC (gVar 10) aN))) aN))))))
 (sSet 5 (b2 fAdd (gVar 5) (gCompR [10] (aC (gVar 4) aN) (tgN 10) tYs (cA mkTup (aC (b2 fAdd (gVar 1) (cA mkTup (aC (b2 fAdd (b2 fIx (gVar 1) (b2 fSub (cA fLen (aC (gVar 1) aN)) (cK (.int 1)))) (cK (.int 77))) aN))) (aC (b2 fAdd (gVar 2) (cA mkTup (aC (gVar 10) aN))) aN))))))))))))
 sSkip)
 (sRet (cA fAll (aC (gComp [9] (gVar 5) (tgN 9) tYs (cM m__law_said (aC (gVar 0) (aC (gVar 9) aN)))) aN))))))
def m__law_papers_right : List D → M D := runB 11 4 s__law_papers_right
def s__law_lots_right : MS :=
 (sSeq (sSet 2 (cM m__law_least (aC (gVar 0) aN)))
 (sSeq (sSet 3 (cM m__law_most_apart (aC (gVar 0) aN)))
 (sSeq (sExp (gComp [6] (gVar 0) (tgN 6) tYs (cA fList (aC (gVar 6) aN))) (toOwn 4))
 (sSeq (sIf (tPk 4 (tOr' (tV (b2 fNe (cA fLen (aC (b2 fIx (gVar 2) (cK (.int 0))) aN)) (cA fLen (aC (gVar 3) aN)))) (tNo (tV (cM m__law_just (aC (cM m_hit_number (aC (gVar 4) aN)) (aC (cA fLen (aC (gVar 3) aN)) aN)))))))
 (sRet (cK (.bool false)))
 sSkip)
 (sSeq (sIf (tOr' (tNo (tV (cM m__law_just (aC (cM m_least_hits (aC (cA fTuple (aC (gVar 0) aN)) aN)) (aC (gVar 2) aN))))) (tNo (tV (cM m__law_papers_right (aC (gVar 0) (aC (b2 fIx (gVar 2) (cK (.int 0))) (aC (gVar 3) (aC (gVar 1) aN))))))))
 (sRet (cK (.bool false)))
 sSkip)
 (sSeq (sSet 5 (cM m_fewest_hits (aC (gVar 0) aN)))
 (sSeq (sIf (tOr' (tNo (tV (cI ["tuple"] (gVar 5)))) (tOr' (tNo (tV (cM m__law_is_right (aC (gVar 0) (aC (gVar 5) aN))))) (tV (b2 fNe (cA fLen (aC (b2 fIx (gVar 5) (cK (.int 0))) aN)) (cA fLen (aC (gVar 3) aN))))))
 (sRet (cK (.bool false)))
 sSkip)
 (sSeq (sIf (tOr' (tNo (tV (cI ["tuple"] (b2 fIx (gVar 5) (cK (.int 0)))))) (tOr' (tNo (tV (cI ["tuple"] (b2 fIx (gVar 5) (cK (.int 1)))))) (tNo (tV (cM m__law_just (aC (cA mkTup (aC (cA fList (aC (b2 fIx (gVar 5) (cK (.int 0))) aN)) (aC (cA fList (aC (b2 fIx (gVar 5) (cK (.int 1))) aN)) aN))) (aC (cA mkTup (aC (cA fSortB (aC (b2 fIx (gVar 5) (cK (.int 0))) aN)) (aC (cA fSortB (aC (b2 fIx (gVar 5) (cK (.int 1))) aN)) aN))) aN)))))))
 (sRet (cK (.bool false)))
 sSkip)
 (sSeq (sIf (tPk 4 (tOr' (tNo (tV (cM m__law_said (aC (gVar 0) (aC (gVar 5) aN))))) (tNo (tV (cM m__law_just (aC (gVar 4) (aC (gComp [6] (gVar 0) (tgN 6) tYs (cA fList (aC (gVar 6) aN))) aN)))))))
 (sRet (cK (.bool false)))
 sSkip)
 (sSeq (sApp 4 (cA mkLst (aC (cK (.int 0)) (aC (cK (.int 0)) aN))))
 (sRet (cM m__law_just (aC (cM m_hit_number (aC (gVar 0) aN)) (aC (cA fLen (aC (gVar 3) aN)) aN))))))))))))))
def m__law_lots_right : List D → M D := runB 7 2 s__law_lots_right
def s__law_refused : MS :=
 (sSeq (sSet 2 (cM m__law_draw (aC (gVar 1) (aC (b2 fAdd (cA fLen (aC (gVar 0) aN)) (cK (.int 1))) aN))))
 (sSeq (sFor (cA mkTup (aC (cK .none) (aC (cK (.int 5)) (aC (cA mkTup (aC (cK (.int 3)) (aC (cK (.int 2)) aN))) (aC (cA mkTup (aC (cK (.int 0)) aN)) (aC (cA mkTup (aC (cK (.int 0)) (aC (cK (.int 1)) (aC (cK (.int 2)) aN)))) (aC (cA mkTup (aC (cK (.bool true)) (aC (cK (.int 1)) aN))) (aC (cA mkTup (aC (cK (.int 0)) (aC (cK .none) aN))) (aC (cK (.str "01")) (aC (cA mkTup (aC (cK (.str "0")) (aC (cK (.str "1")) aN))) (aC (cA mkLst (aC (cK (.int 1)) (aC (cK (.int 0)) aN))) aN))))))))))) (tgN 3)
 (sSeq (sSet 6 (b2 fAdd (b2 fAdd (b2 fAdd (sl (gVar 0) oNo (oSo (gVar 2))) (cA mkLst (aC (gVar 3) aN))) (sl (gVar 0) (oSo (gVar 2)) oNo)) (cA mkLst (aC (cK .none) aN))))
 (sForR (aC (cK (.int 4)) aN) (tgN 7)
 (sIf (tNo (tV (cM m__law_just (aC (cM m__law_heard (aC (gVar 7) (aC (gVar 6) (aC (cK .none) aN)))) (aC (cA mkTup (aC (cK (.str "lot")) (aC (gVar 2) aN))) aN)))))
 (sRet (cK (.bool false)))
 sSkip))))
 (sSeq (sFor (cA mkTup (aC (cK .none) (aC (cK (.int 7)) (aC (cK (.str "ab")) (aC (cK (.bool true)) aN))))) (tgN 3)
 (sForR (aC (cK (.int 4)) aN) (tgN 7)
 (sIf (tNo (tV (cM m__law_just (aC (cM m__law_heard (aC (gVar 7) (aC (gVar 3) (aC (cK .none) aN)))) (aC (cA mkTup (aC (cK (.str "lot")) (aC (vNeg (cK (.int 1))) aN))) aN)))))
 (sRet (cK (.bool false)))
 sSkip)))
 (sSeq (sSet 4 (b2 fAdd (gCompR [8] (aC (cK (.int 10)) aN) (tgN 8) tYs (cA mkTup (aC (b2 fMul (cK (.int 3)) (gVar 8)) (aC (b2 fAdd (b2 fMul (cK (.int 3)) (gVar 8)) (cK (.int 1))) aN)))) (cA mkLst (aC (cA mkTup (aC (cK (.int 0)) (aC (cK (.int 28)) aN))) (aC (cA mkTup (aC (cK (.int 5)) (aC (cK (.int 13)) aN))) aN)))))
 (sSeq (sSet 5 (b2 fAdd (cA fTuple (aC (gVar 4) aN)) (cA mkTup (aC (cA mkTup (aC (cK (.int 50)) (aC (cK (.int 60)) aN))) aN))))
 (sSeq (sIf (tAn (tV (b2 fEq (cM m__law_draw (aC (gVar 1) (aC (cK (.int 4)) aN))) (cK (.int 3)))) (tNo (tV (cM m__law_just (aC (cM m__law_heard (aC (cK (.int 2)) (aC (gVar 4) (aC (cK .none) aN)))) (aC (cA mkTup (aC (cK (.str "told")) (aC (cA mkTup (aC (cA fTuple (aC (gCompR [8] (aC (cK (.int 10)) aN) (tgN 8) tYs (b2 fAdd (b2 fMul (cK (.int 3)) (gVar 8)) (cK (.int 1)))) aN)) aN)) aN))) aN))))))
 (sRet (cK (.bool false)))
 sSkip)
 (sRet (cM m__law_just (aC (cA mkTup (aC (cM m__law_heard (aC (cK (.int 2)) (aC (gVar 5) (aC (cK .none) aN)))) (aC (cM m__law_heard (aC (cK (.int 0)) (aC (gVar 5) (aC (cK .none) aN)))) aN))) (aC (cA mkTup (aC (cA mkTup (aC (cK (.str "many")) (aC (cK (.int 1024)) aN))) (aC (cA mkTup (aC (cK (.str "told")) (aC (cK (.int 11)) aN))) aN))) aN))))))))))
def m__law_refused : List D → M D := runB 9 2 s__law_refused
def s__law_far : MS :=
 (sSeq (sAsg (cA mkTup (aC (b2 fAdd (cK (.int 20)) (cM m__law_draw (aC (gVar 0) (aC (cK (.int 30)) aN)))) (aC (b2 fIx (cA mkTup (aC (cK (.int 3)) (aC (cK (.int 4)) (aC (b2 fPow (cK (.int 10)) (cK (.int 20))) aN)))) (cM m__law_draw (aC (gVar 0) (aC (cK (.int 3)) aN)))) aN))) (tgT [(tgN 3), (tgN 4)]))
 (sSeq (sSet 1 (b2 fAdd (gCompR [5] (aC (gVar 3) aN) (tgN 5) tYs (cA mkTup (aC (b2 fMul (gVar 4) (gVar 5)) (aC (b2 fAdd (b2 fMul (gVar 4) (gVar 5)) (cK (.int 2))) aN)))) (gCompR [5] (aC (gVar 3) aN) (tgN 5) tYs (cA mkTup (aC (b2 fAdd (b2 fMul (gVar 4) (gVar 5)) (cK (.int 1))) (aC (b2 fAdd (b2 fMul (gVar 4) (gVar 5)) (cK (.int 3))) aN))))))
 (sSeq (sSet 2 (cM m_fewest_hits (aC (gBack (gVar 1)) aN)))
 (sRet (vAn (cM m__law_just (aC (cA mkTup (aC (cM m_hit_number (aC (gVar 1) aN)) (aC (cA fLen (aC (b2 fIx (gVar 2) (cK (.int 0))) aN)) (aC (cA fLen (aC (b2 fIx (gVar 2) (cK (.int 1))) aN)) aN)))) (aC (cA mkTup (aC (gVar 3) (aC (gVar 3) (aC (gVar 3) aN)))) aN))) (cM m__law_is_right (aC (gBack (gVar 1)) (aC (gVar 2) aN))))))))
def m__law_far : List D → M D := runB 6 1 s__law_far
def s_law : MS :=
 (sSeq (sSet 2 (cM m__law_drawn (aC (gVar 1) aN)))
 (sSeq (sIf (tOr' (tNo (tV (cM m__law_lots_right (aC (gVar 2) (aC (gVar 1) aN))))) (tOr' (tNo (tV (cM m__law_refused (aC (gVar 2) (aC (gVar 1) aN))))) (tNo (tV (cM m__law_far (aC (gVar 1) aN))))))
 (sRet (cK (.bool false)))
 sSkip)
 (sSeq (sSet 3 (cA mkTup (aC (cM m_hit_number (aC (cA mkTup aN) aN)) (aC (cM m_fewest_hits (aC (cA mkLst aN) aN)) (aC (cM m_least_hits (aC (cA mkTup aN) aN)) (aC (cM m_shows_hits (aC (cA mkTup aN) (aC (cA mkTup (aC (cA mkTup aN) (aC (cA mkTup aN) aN))) aN))) (aC (cM m_shows_hits (aC (cA mkLst aN) (aC (cA mkTup (aC (cA mkTup (aC (cK (.int 1)) aN)) (aC (cA mkTup (aC (cK (.int 0)) aN)) aN))) aN))) (aC (cM m_shows_hits (aC (cA mkTup aN) (aC (cA mkTup (aC (cA mkTup aN) (aC (cA mkTup (aC (cK (.int 0)) aN)) aN))) aN))) aN))))))))
 (sRet (cM m__law_just (aC (gVar 3) (aC (cA mkTup (aC (cK (.int 0)) (aC (cA mkTup (aC (cA mkTup aN) (aC (cA mkTup aN) aN))) (aC (cA mkTup (aC (cA mkTup aN) aN)) (aC (cK (.bool true)) (aC (cK (.bool false)) (aC (cK (.bool false)) aN))))))) aN)))))))

/-! ### what the top has left -/
structure Txt (K : PySem.W.Frag) (mg : Str → Option Value) (ad : Nat → Addr) (fd : Nat → FuncData) : Prop where
  F_told_plainly : Fun K "told_plainly" "told_plainly" st_told_plainly (ad 0) (fd 0)
  g_told_plainly : mg "told_plainly" = some (.ref (ad 0))
  b_told_plainly : Binds K (fd 0) ["thing"] []
  F_is_int : Fun K "is_int" "is_int" st_is_int (ad 1) (fd 1)
  g_is_int : mg "is_int" = some (.ref (ad 1))
  b_is_int : Binds K (fd 1) ["x"] []
  F_plain_form : Fun K "plain_form" "plain_form" st_plain_form (ad 2) (fd 2)
  g_plain_form : mg "plain_form" = some (.ref (ad 2))
  b_plain_form : Binds K (fd 2) ["x"] []
  F_told_stretches : Fun K "told_stretches" "told_stretches" st_told_stretches (ad 3) (fd 3)
  g_told_stretches : mg "told_stretches" = some (.ref (ad 3))
  b_told_stretches : Binds K (fd 3) ["stretches"] []
  F_greedy_hits : Fun K "greedy_hits" "greedy_hits" st_greedy_hits (ad 4) (fd 4)
  g_greedy_hits : mg "greedy_hits" = some (.ref (ad 4))
  b_greedy_hits : Binds K (fd 4) ["told"] []
  F_hit_number : Fun K "hit_number" "hit_number" st_hit_number (ad 5) (fd 5)
  g_hit_number : mg "hit_number" = some (.ref (ad 5))
  b_hit_number : Binds K (fd 5) ["stretches"] []
  F_fewest_hits : Fun K "fewest_hits" "fewest_hits" st_fewest_hits (ad 6) (fd 6)
  g_fewest_hits : mg "fewest_hits" = some (.ref (ad 6))
  b_fewest_hits : Binds K (fd 6) ["stretches"] []
  F_is_hit : Fun K "is_hit" "is_hit" st_is_hit (ad 7) (fd 7)
  g_is_hit : mg "is_hit" = some (.ref (ad 7))
  b_is_hit : Binds K (fd 7) ["pair", "hits"] []
  F_lots_by_length : Fun K "lots_by_length" "lots_by_length" st_lots_by_length (ad 8) (fd 8)
  g_lots_by_length : mg "lots_by_length" = some (.ref (ad 8))
  b_lots_by_length : Binds K (fd 8) ["things"] []
  F_holds_one : Fun K "holds_one" "holds_one" st_holds_one (ad 9) (fd 9)
  g_holds_one : mg "holds_one" = some (.ref (ad 9))
  b_holds_one : Binds K (fd 9) ["lot", "others"] []
  F_least_hits : Fun K "least_hits" "least_hits" st_least_hits (ad 10) (fd 10)
  g_least_hits : mg "least_hits" = some (.ref (ad 10))
  b_least_hits : Binds K (fd 10) ["stretches"] []
  F_are_unlike_integers : Fun K "are_unlike_integers" "are_unlike_integers" st_are_unlike_integers (ad 11) (fd 11)
  g_are_unlike_integers : mg "are_unlike_integers" = some (.ref (ad 11))
  b_are_unlike_integers : Binds K (fd 11) ["x"] []
  F_shows_hits : Fun K "shows_hits" "shows_hits" st_shows_hits (ad 12) (fd 12)
  g_shows_hits : mg "shows_hits" = some (.ref (ad 12))
  b_shows_hits : Binds K (fd 12) ["stretches", "paper"] []
  F__law_hand : Fun K "_law_hand" "_law_hand" st__law_hand (ad 13) (fd 13)
  g__law_hand : mg "_law_hand" = some (.ref (ad 13))
  b__law_hand : Binds K (fd 13) ["script"] []
  F__law_draw : Fun K "_law_draw" "_law_draw" st__law_draw (ad 14) (fd 14)
  g__law_draw : mg "_law_draw" = some (.ref (ad 14))
  b__law_draw : Binds K (fd 14) ["hand", "many"] []
  F__law_just : Fun K "_law_just" "_law_just" st__law_just (ad 15) (fd 15)
  g__law_just : mg "_law_just" = some (.ref (ad 15))
  b__law_just : Binds K (fd 15) ["told", "due"] []
  F__law_drawn : Fun K "_law_drawn" "_law_drawn" st__law_drawn (ad 16) (fd 16)
  g__law_drawn : mg "_law_drawn" = some (.ref (ad 16))
  b__law_drawn : Binds K (fd 16) ["hand"] []
  F__law_is_hit : Fun K "_law_is_hit" "_law_is_hit" st__law_is_hit (ad 17) (fd 17)
  g__law_is_hit : mg "_law_is_hit" = some (.ref (ad 17))
  b__law_is_hit : Binds K (fd 17) ["pair", "hits"] []
  F__law_lots : Fun K "_law_lots" "_law_lots" st__law_lots (ad 18) (fd 18)
  g__law_lots : mg "_law_lots" = some (.ref (ad 18))
  b__law_lots : Binds K (fd 18) ["things"] []
  F__law_least : Fun K "_law_least" "_law_least" st__law_least (ad 19) (fd 19)
  g__law_least : mg "_law_least" = some (.ref (ad 19))
  b__law_least : Binds K (fd 19) ["told"] []
  F__law_are_apart : Fun K "_law_are_apart" "_law_are_apart" st__law_are_apart (ad 20) (fd 20)
  g__law_are_apart : mg "_law_are_apart" = some (.ref (ad 20))
  b__law_are_apart : Binds K (fd 20) ["told", "numbers"] []
  F__law_most_apart : Fun K "_law_most_apart" "_law_most_apart" st__law_most_apart (ad 21) (fd 21)
  g__law_most_apart : mg "_law_most_apart" = some (.ref (ad 21))
  b__law_most_apart : Binds K (fd 21) ["told"] []
  F__law_whole : Fun K "_law_whole" "_law_whole" st__law_whole (ad 22) (fd 22)
  g__law_whole : mg "_law_whole" = some (.ref (ad 22))
  b__law_whole : Binds K (fd 22) ["x"] []
  F__law_is_right : Fun K "_law_is_right" "_law_is_right" st__law_is_right (ad 23) (fd 23)
  g__law_is_right : mg "_law_is_right" = some (.ref (ad 23))
  b__law_is_right : Binds K (fd 23) ["told", "paper"] []
  F__law_heard : Fun K "_law_heard" "_law_heard" st__law_heard (ad 24) (fd 24)
  g__law_heard : mg "_law_heard" = some (.ref (ad 24))
  b__law_heard : Binds K (fd 24) ["which", "x", "paper"] []
  F__law_said : Fun K "_law_said" "_law_said" st__law_said (ad 25) (fd 25)
  g__law_said : mg "_law_said" = some (.ref (ad 25))
  b__law_said : Binds K (fd 25) ["told", "paper"] []
  F__law_papers_right : Fun K "_law_papers_right" "_law_papers_right" st__law_papers_right (ad 26) (fd 26)
  g__law_papers_right : mg "_law_papers_right" = some (.ref (ad 26))
  b__law_papers_right : Binds K (fd 26) ["told", "hits", "apart", "hand"] []
  F__law_lots_right : Fun K "_law_lots_right" "_law_lots_right" st__law_lots_right (ad 27) (fd 27)
  g__law_lots_right : mg "_law_lots_right" = some (.ref (ad 27))
  b__law_lots_right : Binds K (fd 27) ["told", "hand"] []
  F__law_refused : Fun K "_law_refused" "_law_refused" st__law_refused (ad 28) (fd 28)
  g__law_refused : mg "_law_refused" = some (.ref (ad 28))
  b__law_refused : Binds K (fd 28) ["told", "hand"] []
  F__law_far : Fun K "_law_far" "_law_far" st__law_far (ad 29) (fd 29)
  g__law_far : mg "_law_far" = some (.ref (ad 29))
  b__law_far : Binds K (fd 29) ["hand"] []
  F_law : Fun K "law" "law" st_law (ad 30) (fd 30)
  g_law : mg "law" = some (.ref (ad 30))
  b_law : Binds K (fd 30) ["script"] []
  F_init_BadLot : Fun K "__init__" "BadLot.__init__" st_init_BadLot (ad 31) (fd 31)
  b_init_BadLot : Binds K (fd 31) ["self", "at"] []
  F_init_TooMany : Fun K "__init__" "TooMany.__init__" st_init_TooMany (ad 32) (fd 32)
  b_init_TooMany : Binds K (fd 32) ["self", "limit"] []
  n_all : mg "all" = none
  n_any : mg "any" = none
  n_bool : mg "bool" = none
  n_int : mg "int" = none
  n_isinstance : mg "isinstance" = none
  n_len : mg "len" = none
  n_list : mg "list" = none
  n_min : mg "min" = none
  n_range : mg "range" = none
  n_repr : mg "repr" = none
  n_set : mg "set" = none
  n_sorted : mg "sorted" = none
  n_tuple : mg "tuple" = none
  g_LOTS_LIMIT : ∃ tk, mg "LOTS_LIMIT" = some (.int 1024 tk)
  g_BadLot : mg "BadLot" = some (.ref (clOf ad 0))
  g_TooMany : mg "TooMany" = some (.ref (clOf ad 1))
  g_ClockError : mg "ClockError" = some (.ref (clOf ad 2))
  ox_BadLot : OexC K (clOf ad 0)
  ic_BadLot : PySem.W.findIn K (.ref (clOf ad 0)) "__init__" = some (some (.ref (ad 31)))
  ti_BadLot : PySem.W.typeIn K (.ref (ad 31)) = some (.type "function")
  no_BadLot : PySem.W.findIn K (.ref (clOf ad 0)) "at" = some none
  xf_BadLot : XfC K (clOf ad 0)
  ox_TooMany : OexC K (clOf ad 1)
  ic_TooMany : PySem.W.findIn K (.ref (clOf ad 1)) "__init__" = some (some (.ref (ad 32)))
  ti_TooMany : PySem.W.typeIn K (.ref (ad 32)) = some (.type "function")
  no_TooMany : PySem.W.findIn K (.ref (clOf ad 1)) "limit" = some none
  xf_TooMany : XfC K (clOf ad 1)
  ec : ∀ c, c < 2 → ExcC K (clOf ad c)
  exm : ∀ c j, c < 2 → j < 3 → PySem.W.exmOne K (.ref (clOf ad c)) (.ref (clOf ad j)) = some (isX j c)
  ko : ∀ c j, c < 2 → j < 3 → PySem.W.kitOne K (.ref (clOf ad c)) (.ref (clOf ad j)) = some (isX j c)
section
variable {P : Program} {w : World} {K : PySem.W.Frag} {mg : Str → Option Value} {base : Heap} {ad : Nat → Addr} {fd : Nat → FuncData}
theorem Txt.low__law_heard_0 (T : Txt K mg ad fd) : ∀ c ∈ ([0] : List Nat), c < 2 := by decide
theorem Txt.xf__law_heard_0 (T : Txt K mg ad fd) : ∀ c ∈ ([0] : List Nat), XfC K (clOf ad c) ∧ PySem.W.findIn K (.ref (clOf ad c)) "at" = some none ∧ fldOf c = "at" := by
  intro c m
  simp only [List.mem_cons, List.not_mem_nil, or_false] at m
  rcases m with rfl
  · exact ⟨T.xf_BadLot, T.no_BadLot, rfl⟩
theorem Txt.low__law_heard_1 (T : Txt K mg ad fd) : ∀ c ∈ ([1] : List Nat), c < 2 := by decide
theorem Txt.xf__law_heard_1 (T : Txt K mg ad fd) : ∀ c ∈ ([1] : List Nat), XfC K (clOf ad c) ∧ PySem.W.findIn K (.ref (clOf ad c)) "limit" = some none ∧ fldOf c = "limit" := by
  intro c m
  simp only [List.mem_cons, List.not_mem_nil, or_false] at m
  rcases m with rfl
  · exact ⟨T.xf_TooMany, T.no_TooMany, rfl⟩
theorem Txt.low__law_heard_2 (T : Txt K mg ad fd) : ∀ c ∈ ([0, 1] : List Nat), c < 2 := by decide
end
end L2.AR.T
set_option Elab.async false
set_option linter.all false
set_option maxRecDepth 100000
set_option maxHeartbeats 8000000
namespace L2.AR.T
open PySem PySem.Spec PyProof.Rows
section
variable {P : Program} {w : World} {K : PySem.W.Frag} {mg : Str → Option Value} {base : Heap} {ad : Nat → Addr} {fd : Nat → FuncData}
/-! ### each def keeps its promise -/
theorem ok_pl (T : Txt K mg ad fd) : ∀ n : Nat, FnG P w K mg base (L2.CX P w) n (ad 0) (fd 0) ["thing"] (spM K (clOf ad) fldOf (mPl n))
  | 0 => FnG.nothing
  | n + 1 => okM T.F_told_plainly sc_told_plainly rfl (fun cdv A outer sh H E ha F0 qt hr => (p_cons (p_if (T_val (e_isi2 rfl (pe_callB call_isiT (by rfl) T.n_isinstance (by decide +kernel) (pa_cons (e_var 0) (pa_cons (pe_tup (pa_cons (pe_bltn (v := .ty "list") (by rfl) T.n_list (by decide +kernel) rfl) (pa_cons (pe_bltn (v := .ty "tuple") (by rfl) T.n_tuple (by decide +kernel) rfl) pa_nil))) pa_nil)))))
 (p_one (p_ret (E_callTy call_tupF tuple_ok (by rfl) T.n_tuple (by decide +kernel) (A_cons (e_lc (gN_ok) (pe_lc (own := [("inner", 1)]) (g := (gName 1)) rfl sc_told_plainly.nd (i_seq (e_var 0)) (blkOk_by (N := ["thing", "inner"]) (sc := defScope st_told_plainly) (by decide +kernel)) (fun _ _ _ _ _ => pg_name (i := 1) sc_told_plainly.nd rfl (by first | exact Or.inl rfl | exact Or.inr rfl)) (fun _ _ _ _ _ => Q_yes) (fun _ _ _ _ _ => (E_call qt takes0 (ok_pl T n) hr (by rfl) T.g_told_plainly T.F_told_plainly.kp T.b_told_plainly (A_cons (e_var 1) A_nil))))) A_nil))))
 p_nil)
 (p_one (p_ret (e_var 0)))))
theorem ok_told_plainly (T : Txt K mg ad fd) : FnG P w K mg base (L2.CX P w) 12 (ad 0) (fd 0) ["thing"] (spM K (clOf ad) fldOf m_told_plainly) := (ok_pl T 12).less (plain_sub 12)
theorem ok_init_BadLot (T : Txt K mg ad fd) : FnG P w K mg base (L2.CX P w) 13 (ad 31) (fd 31) ["self", "at"] (spI K (clOf ad 0) (fldOf 0) m_told_plainly) :=
  okI (cl := clOf ad) (fld := fldOf) (g := (cM m_told_plainly (aC (gVar 1) aN))) T.F_init_BadLot sc_init_BadLot T.ox_BadLot T.no_BadLot (fun _ => rfl) (fun cdv A outer sh H E ha F0 qt hr => pss_one (ps_ost (pv 0) (E_call qt (takes_of rfl rfl rfl rfl) (ok_told_plainly T) (hr.mono (by decide)) (by rfl) T.g_told_plainly T.F_told_plainly.kp T.b_told_plainly (A_cons (e_var 1) A_nil))))
theorem ok_init_TooMany (T : Txt K mg ad fd) : FnG P w K mg base (L2.CX P w) 1 (ad 32) (fd 32) ["self", "limit"] (spI K (clOf ad 1) (fldOf 1) mId) :=
  okI (cl := clOf ad) (fld := fldOf) (g := (gVar 1)) T.F_init_TooMany sc_init_TooMany T.ox_TooMany T.no_TooMany (fun _ => rfl) (fun cdv A outer sh H E ha F0 qt hr => pss_one (ps_ost (pv 0) (e_var 1)))
theorem ok_is_int (T : Txt K mg ad fd) : FnG P w K mg base (L2.CX P w) 1 (ad 1) (fd 1) ["x"] (spM K (clOf ad) fldOf m_is_int) :=
  okM T.F_is_int sc_is_int rfl (fun cdv A outer sh H E ha F0 qt hr => (p_one (p_ret (E_and (e_isi (te := .Constant .none 0 ⟨0, 0, 0, 0⟩) rfl (pe_callB call_isi (by rfl) T.n_isinstance (by decide +kernel) (pa_cons (e_var 0) (pa_cons (pe_bltn (v := .ty "int") (by rfl) T.n_int (by decide +kernel) rfl) pa_nil)))) (E_one (E_not (e_isi (te := .Constant .none 0 ⟨0, 0, 0, 0⟩) rfl (pe_callB call_isi (by rfl) T.n_isinstance (by decide +kernel) (pa_cons (e_var 0) (pa_cons (pe_bltn (v := .ty "bool") (by rfl) T.n_bool (by decide +kernel) rfl) pa_nil))))))))))
theorem ok_plain_form (T : Txt K mg ad fd) : FnG P w K mg base (L2.CX P w) 13 (ad 2) (fd 2) ["x"] (spM K (clOf ad) fldOf m_plain_form) :=
  okM T.F_plain_form sc_plain_form rfl (fun cdv A outer sh H E ha F0 qt hr => (p_one (p_ret (E_call qt (takes_of rfl rfl rfl rfl) (ok_told_plainly T) (hr.mono (by decide)) (by rfl) T.g_told_plainly T.F_told_plainly.kp T.b_told_plainly (A_cons (e_var 0) A_nil)))))
theorem ok_told_stretches (T : Txt K mg ad fd) : FnG P w K mg base (L2.CX P w) 15 (ad 3) (fd 3) ["stretches"] (spM K (clOf ad) fldOf m_told_stretches) :=
  okM T.F_told_stretches sc_told_stretches rfl (fun cdv A outer sh H E ha F0 qt hr => (p_cons (p_set 1 sc_told_stretches.nd (E_call qt (takes_of rfl rfl rfl rfl) (ok_plain_form T) (hr.mono (by decide)) (by rfl) T.g_plain_form T.F_plain_form.kp T.b_plain_form (A_cons (e_var 0) A_nil)))
 (p_cons (p_if (T_not (T_val (e_isi (te := .Constant .none 0 ⟨0, 0, 0, 0⟩) rfl (pe_callB call_isi (by rfl) T.n_isinstance (by decide +kernel) (pa_cons (e_var 1) (pa_cons (pe_bltn (v := .ty "tuple") (by rfl) T.n_tuple (by decide +kernel) rfl) pa_nil))))))
 (p_one (p_raise 0 qt (takes_of rfl rfl rfl rfl) rfl rfl T.ox_BadLot T.ic_BadLot T.ti_BadLot (ok_init_BadLot T) (hr.mono (by decide)) T.b_init_BadLot (by rfl) T.g_BadLot (E_neg E_int)))
 p_nil)
 (p_cons (p_forR1 [2] (gN_ok) (aLenC aLenN) (ps_for PassesOwn.leaving rfl (pi_range1 (by rfl) T.n_range (A_cons (E_callB call_lenA len_ok (by rfl) T.n_len (by decide +kernel) (A_cons (e_var 1) A_nil)) A_nil)) (pg_name (i := 2) sc_told_stretches.nd rfl (by first | exact Or.inl rfl | exact Or.inr rfl)) (p_cons (p_set 3 sc_told_stretches.nd (E_ix rfl (e_var 1) (e_var 2)))
 (p_cons (p_if (PW.pt (W_or (T_not (T_val (e_isi (te := .Constant .none 0 ⟨0, 0, 0, 0⟩) rfl (pe_callB call_isi (by rfl) T.n_isinstance (by decide +kernel) (pa_cons (e_var 3) (pa_cons (pe_bltn (v := .ty "tuple") (by rfl) T.n_tuple (by decide +kernel) rfl) pa_nil)))))) (W_or (T_cmp (op_neA hr.units) ne_ok (E_callB call_lenA len_ok (by rfl) T.n_len (by decide +kernel) (A_cons (e_var 3) A_nil)) E_int) (W_or (T_not (T_val (E_call qt (takes_of rfl rfl rfl rfl) (ok_is_int T) (hr.mono (by decide)) (by rfl) T.g_is_int T.F_is_int.kp T.b_is_int (A_cons (E_ix rfl (e_var 3) E_int) A_nil)))) (W_or1 (T_not (T_val (E_call qt (takes_of rfl rfl rfl rfl) (ok_is_int T) (hr.mono (by decide)) (by rfl) T.g_is_int T.F_is_int.kp T.b_is_int (A_cons (E_ix rfl (e_var 3) E_int) A_nil)))))))))
 (p_one (p_raise 0 qt (takes_of rfl rfl rfl rfl) rfl rfl T.ox_BadLot T.ic_BadLot T.ti_BadLot (ok_init_BadLot T) (hr.mono (by decide)) T.b_init_BadLot (by rfl) T.g_BadLot (e_var 2)))
 p_nil)
 (p_one (p_if (T_cmp op_gt gt_ok (E_ix rfl (e_var 3) E_int) (E_ix rfl (e_var 3) E_int))
 (p_one (p_raise 0 qt (takes_of rfl rfl rfl rfl) rfl rfl T.ox_BadLot T.ic_BadLot T.ti_BadLot (ok_init_BadLot T) (hr.mono (by decide)) T.b_init_BadLot (by rfl) T.g_BadLot (e_var 2)))
 p_nil))))))
 (p_one (p_ret (e_var 1)))))))
theorem ok_greedy_hits (T : Txt K mg ad fd) : FnG P w K mg base (L2.CX P w) 1 (ad 4) (fd 4) ["told"] (spM K (clOf ad) fldOf m_greedy_hits) :=
  okM T.F_greedy_hits sc_greedy_hits rfl (fun cdv A outer sh H E ha F0 qt hr => (p_cons (p_new 1 sc_greedy_hits.nd)
 (p_cons (p_new 2 sc_greedy_hits.nd)
 (p_cons (p_for' [3, 4, 5] rfl (gTup_ok (gCons_ok (gN_ok) (gCons_ok (gN_ok) (gCons_ok (gN_ok) gNil_ok)))) (ps_for PassesOwn.leaving rfl (i_seq (E_callB (cr_sortedB hr.units) sortB_ok (by rfl) T.n_sorted (by decide +kernel) (A_cons (e_lcR1 (aLenC aLenN) (gN_ok) (pe_lc (own := [("at", 5)]) (g := (gName 5)) rfl sc_greedy_hits.nd (pi_range1 (by rfl) T.n_range (A_cons (E_callB call_lenA len_ok (by rfl) T.n_len (by decide +kernel) (A_cons (e_var 0) A_nil)) A_nil)) (blkOk_by (N := ["told", "hits", "apart", "last", "first", "at"]) (sc := defScope st_greedy_hits) (by decide +kernel)) (fun _ _ _ _ _ => pg_name (i := 5) sc_greedy_hits.nd rfl (by first | exact Or.inl rfl | exact Or.inr rfl)) (fun _ _ _ _ _ => Q_yes) (fun _ _ _ _ _ => (E_tup (A_cons (E_ix rfl (E_ix rfl (e_var 0) (e_var 5)) E_int) (A_cons (E_ix rfl (E_ix rfl (e_var 0) (e_var 5)) E_int) (A_cons (e_var 5) A_nil))))))) A_nil))) (pg_tup rfl (pgs_cons (pg_name (i := 3) sc_greedy_hits.nd rfl (by first | exact Or.inl rfl | exact Or.inr rfl)) (pgs_cons (pg_name (i := 4) sc_greedy_hits.nd rfl (by first | exact Or.inl rfl | exact Or.inr rfl)) (pgs_cons (pg_name (i := 5) sc_greedy_hits.nd rfl (by first | exact Or.inl rfl | exact Or.inr rfl)) pgs_nil)))) (p_one (p_if (t_pk 1 (fun F1 H1 => (PW.pt (W_or (T_cmp (op_eqA hr.units) eq_ok (E_callB call_lenA len_ok (by rfl) T.n_len (by decide +kernel) (A_cons (e_var 1) A_nil)) E_int) (W_or1 (T_cmp op_lt lt_ok (E_ix rfl (e_var 1) (E_op op_sub sub_ok (E_callB call_lenA len_ok (by rfl) T.n_len (by decide +kernel) (A_cons (e_var 1) A_nil)) E_int)) (e_var 4)))))))
 (p_cons (p_app 1 (pe_bm PySem.F.plainAttrs_list PySem.F.slot_list_append PySem.F.type_list_append mt_append (pv 1) (pa_cons (e_var 3) pa_nil)))
 (p_one (p_app 2 (pe_bm PySem.F.plainAttrs_list PySem.F.slot_list_append PySem.F.type_list_append mt_append (pv 2) (pa_cons (e_var 5) pa_nil)))))
 p_nil))))
 (p_frz 1 (p_frz 2 (p_one (p_ret (E_tup (A_cons (E_callTy call_tupF tuple_ok (by rfl) T.n_tuple (by decide +kernel) (A_cons (e_var 1) A_nil)) (A_cons (E_callTy call_tupF tuple_ok (by rfl) T.n_tuple (by decide +kernel) (A_cons (E_callB (cr_sortedB hr.units) sortB_ok (by rfl) T.n_sorted (by decide +kernel) (A_cons (e_var 2) A_nil)) A_nil)) A_nil)))))))))))
theorem ok_hit_number (T : Txt K mg ad fd) : FnG P w K mg base (L2.CX P w) 16 (ad 5) (fd 5) ["stretches"] (spM K (clOf ad) fldOf m_hit_number) :=
  okM T.F_hit_number sc_hit_number rfl (fun cdv A outer sh H E ha F0 qt hr => (p_cons (p_set 1 sc_hit_number.nd (E_call qt (takes_of rfl rfl rfl rfl) (ok_told_stretches T) (hr.mono (by decide)) (by rfl) T.g_told_stretches T.F_told_stretches.kp T.b_told_stretches (A_cons (e_var 0) A_nil)))
 (p_one (p_ret (E_callB call_lenA len_ok (by rfl) T.n_len (by decide +kernel) (A_cons (E_ix rfl (E_call qt (takes_of rfl rfl rfl rfl) (ok_greedy_hits T) (hr.mono (by decide)) (by rfl) T.g_greedy_hits T.F_greedy_hits.kp T.b_greedy_hits (A_cons (e_var 1) A_nil)) E_int) A_nil))))))
theorem ok_fewest_hits (T : Txt K mg ad fd) : FnG P w K mg base (L2.CX P w) 16 (ad 6) (fd 6) ["stretches"] (spM K (clOf ad) fldOf m_fewest_hits) :=
  okM T.F_fewest_hits sc_fewest_hits rfl (fun cdv A outer sh H E ha F0 qt hr => (p_cons (p_set 1 sc_fewest_hits.nd (E_call qt (takes_of rfl rfl rfl rfl) (ok_told_stretches T) (hr.mono (by decide)) (by rfl) T.g_told_stretches T.F_told_stretches.kp T.b_told_stretches (A_cons (e_var 0) A_nil)))
 (p_one (p_ret (E_call qt (takes_of rfl rfl rfl rfl) (ok_greedy_hits T) (hr.mono (by decide)) (by rfl) T.g_greedy_hits T.F_greedy_hits.kp T.b_greedy_hits (A_cons (e_var 1) A_nil))))))
theorem ok_is_hit (T : Txt K mg ad fd) : FnG P w K mg base (L2.CX P w) 1 (ad 7) (fd 7) ["pair", "hits"] (spM K (clOf ad) fldOf m_is_hit) :=
  okM T.F_is_hit sc_is_hit rfl (fun cdv A outer sh H E ha F0 qt hr => (p_one (p_ret (E_callB (cr_any rfl) bools_ok (by rfl) T.n_any (by decide +kernel) (A_cons (e_lc (gN_ok) (pe_lc (own := [("hit", 2)]) (g := (gName 2)) rfl sc_is_hit.nd (i_seq (e_var 1)) (blkOk_by (N := ["pair", "hits", "hit"]) (sc := defScope st_is_hit) (by decide +kernel)) (fun _ _ _ _ _ => pg_name (i := 2) sc_is_hit.nd rfl (by first | exact Or.inl rfl | exact Or.inr rfl)) (fun _ _ _ _ _ => Q_yes) (fun _ _ _ _ _ => (E_chain op_le le_ok op_le le_ok (E_ix rfl (e_var 0) E_int) (e_var 2) (E_ix rfl (e_var 0) E_int))))) A_nil)))))
theorem ok_lots_by_length (T : Txt K mg ad fd) : FnG P w K mg base (L2.CX P w) 1 (ad 8) (fd 8) ["things"] (spM K (clOf ad) fldOf m_lots_by_length) :=
  okM T.F_lots_by_length sc_lots_by_length rfl (fun cdv A outer sh H E ha F0 qt hr => (p_cons (p_new 1 sc_lots_by_length.nd)
 (p_cons (p_forR1 [2] (gN_ok) (aLenC aLenN) (ps_for PassesOwn.leaving rfl (pi_range1 (by rfl) T.n_range (A_cons (E_op op_shl shl_ok E_int (E_callB call_lenA len_ok (by rfl) T.n_len (by decide +kernel) (A_cons (e_var 0) A_nil))) A_nil)) (pg_name (i := 2) sc_lots_by_length.nd rfl (by first | exact Or.inl rfl | exact Or.inr rfl)) (p_cons (p_set 3 sc_lots_by_length.nd (E_callTy call_tupF tuple_ok (by rfl) T.n_tuple (by decide +kernel) (A_cons (e_lcR1 (aLenC aLenN) (gN_ok) (pe_lc (own := [("at", 5)]) (g := (gName 5)) rfl sc_lots_by_length.nd (pi_range1 (by rfl) T.n_range (A_cons (E_callB call_lenA len_ok (by rfl) T.n_len (by decide +kernel) (A_cons (e_var 0) A_nil)) A_nil)) (blkOk_by (N := ["things", "lots", "mask", "lot", "entry", "at"]) (sc := defScope st_lots_by_length) (by decide +kernel)) (fun _ _ _ _ _ => pg_name (i := 5) sc_lots_by_length.nd rfl (by first | exact Or.inl rfl | exact Or.inr rfl)) (fun _ _ _ _ _ => q_if (T_cmp (op_eqA hr.units) eq_ok (E_op op_and and_ok (E_op op_shr shr_ok (e_var 2) (e_var 5)) E_int) E_int)) (fun _ _ _ _ _ => (E_ix rfl (e_var 0) (e_var 5))))) A_nil)))
 (p_one (p_app 1 (pe_bm PySem.F.plainAttrs_list PySem.F.slot_list_append PySem.F.type_list_append mt_append (pv 1) (pa_cons (E_tup (A_cons (E_callB call_lenA len_ok (by rfl) T.n_len (by decide +kernel) (A_cons (e_var 3) A_nil)) (A_cons (e_var 3) A_nil))) pa_nil)))))))
 (p_frz 1 (p_one (p_ret (e_lc (gN_ok) (pe_lc (own := [("entry", 4)]) (g := (gName 4)) rfl sc_lots_by_length.nd (i_seq (E_callB (cr_sortedB hr.units) sortB_ok (by rfl) T.n_sorted (by decide +kernel) (A_cons (e_var 1) A_nil))) (blkOk_by (N := ["things", "lots", "mask", "lot", "entry", "at"]) (sc := defScope st_lots_by_length) (by decide +kernel)) (fun _ _ _ _ _ => pg_name (i := 4) sc_lots_by_length.nd rfl (by first | exact Or.inl rfl | exact Or.inr rfl)) (fun _ _ _ _ _ => Q_yes) (fun _ _ _ _ _ => (E_ix rfl (e_var 4) E_int))))))))))
theorem ok_holds_one (T : Txt K mg ad fd) : FnG P w K mg base (L2.CX P w) 1 (ad 9) (fd 9) ["lot", "others"] (spM K (clOf ad) fldOf m_holds_one) :=
  okM T.F_holds_one sc_holds_one rfl (fun cdv A outer sh H E ha F0 qt hr => (p_one (p_ret (E_callB (cr_any rfl) bools_ok (by rfl) T.n_any (by decide +kernel) (A_cons (e_lc (gN_ok) (pe_lc (own := [("other", 2)]) (g := (gName 2)) rfl sc_holds_one.nd (i_seq (e_var 1)) (blkOk_by (N := ["lot", "others", "other", "thing"]) (sc := defScope st_holds_one) (by decide +kernel)) (fun _ _ _ _ _ => pg_name (i := 2) sc_holds_one.nd rfl (by first | exact Or.inl rfl | exact Or.inr rfl)) (fun _ _ _ _ _ => Q_yes) (fun _ _ _ _ _ => (E_callB (cr_all rfl) bools_ok (by rfl) T.n_all (by decide +kernel) (A_cons (e_lc (gN_ok) (pe_lc (own := [("thing", 3)]) (g := (gName 3)) rfl sc_holds_one.nd (i_seq (e_var 2)) (blkOk_by (by kernel_rfl)) (fun _ _ _ _ _ => pg_name (i := 3) sc_holds_one.nd rfl (by first | exact Or.inl rfl | exact Or.inr rfl)) (fun _ _ _ _ _ => Q_yes) (fun _ _ _ _ _ => (E_cmp op_in_seq in_ok (e_var 3) (e_var 0))))) A_nil))))) A_nil)))))
theorem ok_least_hits (T : Txt K mg ad fd) : FnG P w K mg base (L2.CX P w) 16 (ad 10) (fd 10) ["stretches"] (spM K (clOf ad) fldOf m_least_hits) :=
  okM T.F_least_hits sc_least_hits rfl (fun cdv A outer sh H E ha F0 qt hr => (p_cons (p_set 1 sc_least_hits.nd (E_call qt (takes_of rfl rfl rfl rfl) (ok_told_stretches T) (hr.mono (by decide)) (by rfl) T.g_told_stretches T.F_told_stretches.kp T.b_told_stretches (A_cons (e_var 0) A_nil)))
 (p_cons (p_set 2 sc_least_hits.nd (E_sortC rfl (by rfl) T.n_sorted (by decide +kernel) (gN_ok) (pe_sI (own := [("pair", 5)]) (g := (gName 5)) rfl sc_least_hits.nd (i_seq (e_var 1)) (blkOk_by (N := ["stretches", "told", "lasts", "kept", "lot", "pair"]) (sc := defScope st_least_hits) (by decide +kernel)) (fun _ _ _ _ _ => pg_name (i := 5) sc_least_hits.nd rfl (by first | exact Or.inl rfl | exact Or.inr rfl)) (fun _ _ _ _ _ => Q_yes) (fun _ _ _ _ _ => (E_ix rfl (e_var 5) E_int)))))
 (p_cons (p_if (T_cmp op_gt gt_ok (E_op op_shl shl_ok E_int (E_callB call_lenA len_ok (by rfl) T.n_len (by decide +kernel) (A_cons (e_var 2) A_nil))) (E_globI (by rfl) T.g_LOTS_LIMIT))
 (p_one (p_raise 1 qt (takes_of rfl rfl rfl rfl) rfl rfl T.ox_TooMany T.ic_TooMany T.ti_TooMany (ok_init_TooMany T) (hr.mono (by decide)) T.b_init_TooMany (by rfl) T.g_TooMany (E_globI (by rfl) T.g_LOTS_LIMIT)))
 p_nil)
 (p_cons (p_new 3 sc_least_hits.nd)
 (p_cons (p_for' [4] rfl (gN_ok) (ps_for PassesOwn.leaving rfl (i_seq (E_call qt (takes_of rfl rfl rfl rfl) (ok_lots_by_length T) (hr.mono (by decide)) (by rfl) T.g_lots_by_length T.F_lots_by_length.kp T.b_lots_by_length (A_cons (e_var 2) A_nil))) (pg_name (i := 4) sc_least_hits.nd rfl (by first | exact Or.inl rfl | exact Or.inr rfl)) (p_one (p_if (t_pk 3 (fun F1 H1 => (PW.pt (W_and (T_not (T_val (E_call qt (takes_of rfl rfl rfl rfl) (ok_holds_one T) (hr.mono (by decide)) (by rfl) T.g_holds_one T.F_holds_one.kp T.b_holds_one (A_cons (e_var 4) (A_cons (e_var 3) A_nil))))) (W_and1 (T_val (E_callB (cr_all rfl) bools_ok (by rfl) T.n_all (by decide +kernel) (A_cons (e_lc (gN_ok) (pe_lc (own := [("pair", 5)]) (g := (gName 5)) rfl sc_least_hits.nd (i_seq (e_var 1)) (blkOk_by (N := ["stretches", "told", "lasts", "kept", "lot", "pair"]) (sc := defScope st_least_hits) (by decide +kernel)) (fun _ _ _ _ _ => pg_name (i := 5) sc_least_hits.nd rfl (by first | exact Or.inl rfl | exact Or.inr rfl)) (fun _ _ _ _ _ => Q_yes) (fun _ _ _ _ _ => (E_call qt takes0 (ok_is_hit T) (hr.mono (by decide)) (by rfl) T.g_is_hit T.F_is_hit.kp T.b_is_hit (A_cons (e_var 5) (A_cons (e_var 4) A_nil)))))) A_nil))))))))
 (p_one (p_app 3 (pe_bm PySem.F.plainAttrs_list PySem.F.slot_list_append PySem.F.type_list_append mt_append (pv 3) (pa_cons (e_var 4) pa_nil))))
 p_nil))))
 (p_frz 3 (p_one (p_ret (E_callTy call_tupF tuple_ok (by rfl) T.n_tuple (by decide +kernel) (A_cons (e_var 3) A_nil)))))))))))
theorem ok_are_unlike_integers (T : Txt K mg ad fd) : FnG P w K mg base (L2.CX P w) 2 (ad 11) (fd 11) ["x"] (spM K (clOf ad) fldOf m_are_unlike_integers) :=
  okM T.F_are_unlike_integers sc_are_unlike_integers rfl (fun cdv A outer sh H E ha F0 qt hr => (p_cons (p_if (PW.pt (W_or (T_not (T_val (e_isi (te := .Constant .none 0 ⟨0, 0, 0, 0⟩) rfl (pe_callB call_isi (by rfl) T.n_isinstance (by decide +kernel) (pa_cons (e_var 0) (pa_cons (pe_bltn (v := .ty "tuple") (by rfl) T.n_tuple (by decide +kernel) rfl) pa_nil)))))) (W_or1 (T_not (T_val (E_callB (cr_all rfl) bools_ok (by rfl) T.n_all (by decide +kernel) (A_cons (e_lc (gN_ok) (pe_lc (own := [("part", 1)]) (g := (gName 1)) rfl sc_are_unlike_integers.nd (i_seq (e_var 0)) (blkOk_by (N := ["x", "part"]) (sc := defScope st_are_unlike_integers) (by decide +kernel)) (fun _ _ _ _ _ => pg_name (i := 1) sc_are_unlike_integers.nd rfl (by first | exact Or.inl rfl | exact Or.inr rfl)) (fun _ _ _ _ _ => Q_yes) (fun _ _ _ _ _ => (E_call qt takes0 (ok_is_int T) (hr.mono (by decide)) (by rfl) T.g_is_int T.F_is_int.kp T.b_is_int (A_cons (e_var 1) A_nil))))) A_nil)))))))
 (p_one (p_ret E_bl))
 p_nil)
 (p_one (p_ret (E_cmp (op_eqA hr.units) eq_ok (E_lenSet rfl rfl (by rfl) T.n_len (by decide +kernel) (by rfl) T.n_set (by decide +kernel) (e_var 0)) (E_callB call_lenA len_ok (by rfl) T.n_len (by decide +kernel) (A_cons (e_var 0) A_nil)))))))
theorem ok_shows_hits (T : Txt K mg ad fd) : FnG P w K mg base (L2.CX P w) 16 (ad 12) (fd 12) ["stretches", "paper"] (spM K (clOf ad) fldOf m_shows_hits) :=
  okM T.F_shows_hits sc_shows_hits rfl (fun cdv A outer sh H E ha F0 qt hr => (p_cons (p_set 2 sc_shows_hits.nd (E_call qt (takes_of rfl rfl rfl rfl) (ok_told_stretches T) (hr.mono (by decide)) (by rfl) T.g_told_stretches T.F_told_stretches.kp T.b_told_stretches (A_cons (e_var 0) A_nil)))
 (p_cons (p_set 3 sc_shows_hits.nd (E_call qt (takes_of rfl rfl rfl rfl) (ok_plain_form T) (hr.mono (by decide)) (by rfl) T.g_plain_form T.F_plain_form.kp T.b_plain_form (A_cons (e_var 1) A_nil)))
 (p_cons (p_if (PW.pt (W_or (T_not (T_val (e_isi (te := .Constant .none 0 ⟨0, 0, 0, 0⟩) rfl (pe_callB call_isi (by rfl) T.n_isinstance (by decide +kernel) (pa_cons (e_var 3) (pa_cons (pe_bltn (v := .ty "tuple") (by rfl) T.n_tuple (by decide +kernel) rfl) pa_nil)))))) (W_or1 (T_cmp (op_neA hr.units) ne_ok (E_callB call_lenA len_ok (by rfl) T.n_len (by decide +kernel) (A_cons (e_var 3) A_nil)) E_int))))
 (p_one (p_ret E_bl))
 p_nil)
 (p_cons (p_asg [5, 6] (ps_asg (e_var 3) (pg_both rfl (pgs_cons (pg_name (i := 5) sc_shows_hits.nd rfl (by first | exact Or.inl rfl | exact Or.inr rfl)) (pgs_cons (pg_name (i := 6) sc_shows_hits.nd rfl (by first | exact Or.inl rfl | exact Or.inr rfl)) pgs_nil)))) (gBoth_ok (gCons_ok (gN_ok) (gCons_ok (gN_ok) gNil_ok))))
 (p_cons (p_if (PW.pt (W_or (T_not (T_val (E_call qt (takes_of rfl rfl rfl rfl) (ok_are_unlike_integers T) (hr.mono (by decide)) (by rfl) T.g_are_unlike_integers T.F_are_unlike_integers.kp T.b_are_unlike_integers (A_cons (e_var 5) A_nil)))) (W_or (T_not (T_val (E_call qt (takes_of rfl rfl rfl rfl) (ok_are_unlike_integers T) (hr.mono (by decide)) (by rfl) T.g_are_unlike_integers T.F_are_unlike_integers.kp T.b_are_unlike_integers (A_cons (e_var 6) A_nil)))) (W_or1 (T_cmp (op_neA hr.units) ne_ok (E_callB call_lenA len_ok (by rfl) T.n_len (by decide +kernel) (A_cons (e_var 5) A_nil)) (E_callB call_lenA len_ok (by rfl) T.n_len (by decide +kernel) (A_cons (e_var 6) A_nil)))))))
 (p_one (p_ret E_bl))
 p_nil)
 (p_cons (p_if (T_not (T_val (E_callB (cr_all rfl) bools_ok (by rfl) T.n_all (by decide +kernel) (A_cons (e_lc (gN_ok) (pe_lc (own := [("stretch", 8)]) (g := (gName 8)) rfl sc_shows_hits.nd (i_seq (e_var 2)) (blkOk_by (N := ["stretches", "paper", "told", "pair", "rising", "hits", "apart", "at", "stretch"]) (sc := defScope st_shows_hits) (by decide +kernel)) (fun _ _ _ _ _ => pg_name (i := 8) sc_shows_hits.nd rfl (by first | exact Or.inl rfl | exact Or.inr rfl)) (fun _ _ _ _ _ => Q_yes) (fun _ _ _ _ _ => (E_call qt takes0 (ok_is_hit T) (hr.mono (by decide)) (by rfl) T.g_is_hit T.F_is_hit.kp T.b_is_hit (A_cons (e_var 8) (A_cons (e_var 5) A_nil)))))) A_nil))))
 (p_one (p_ret E_bl))
 p_nil)
 (p_cons (p_if (T_not (T_val (E_callB (cr_all rfl) bools_ok (by rfl) T.n_all (by decide +kernel) (A_cons (e_lc (gN_ok) (pe_lc (own := [("at", 7)]) (g := (gName 7)) rfl sc_shows_hits.nd (i_seq (e_var 6)) (blkOk_by (N := ["stretches", "paper", "told", "pair", "rising", "hits", "apart", "at", "stretch"]) (sc := defScope st_shows_hits) (by decide +kernel)) (fun _ _ _ _ _ => pg_name (i := 7) sc_shows_hits.nd rfl (by first | exact Or.inl rfl | exact Or.inr rfl)) (fun _ _ _ _ _ => Q_yes) (fun _ _ _ _ _ => (E_chain op_le le_ok op_lt lt_ok E_int (e_var 7) (E_callB call_lenA len_ok (by rfl) T.n_len (by decide +kernel) (A_cons (e_var 2) A_nil)))))) A_nil))))
 (p_one (p_ret E_bl))
 p_nil)
 (p_cons (p_set 4 sc_shows_hits.nd (E_callB (cr_sortedB hr.units) sortB_ok (by rfl) T.n_sorted (by decide +kernel) (A_cons (e_lc (gN_ok) (pe_lc (own := [("at", 7)]) (g := (gName 7)) rfl sc_shows_hits.nd (i_seq (e_var 6)) (blkOk_by (N := ["stretches", "paper", "told", "pair", "rising", "hits", "apart", "at", "stretch"]) (sc := defScope st_shows_hits) (by decide +kernel)) (fun _ _ _ _ _ => pg_name (i := 7) sc_shows_hits.nd rfl (by first | exact Or.inl rfl | exact Or.inr rfl)) (fun _ _ _ _ _ => Q_yes) (fun _ _ _ _ _ => (E_ix rfl (e_var 2) (e_var 7))))) A_nil)))
 (p_one (p_ret (E_callB (cr_all rfl) bools_ok (by rfl) T.n_all (by decide +kernel) (A_cons (e_lcR1 (aLenC aLenN) (gN_ok) (pe_lc (own := [("at", 7)]) (g := (gName 7)) rfl sc_shows_hits.nd (pi_range1 (by rfl) T.n_range (A_cons (E_op op_sub sub_ok (E_callB call_lenA len_ok (by rfl) T.n_len (by decide +kernel) (A_cons (e_var 4) A_nil)) E_int) A_nil)) (blkOk_by (N := ["stretches", "paper", "told", "pair", "rising", "hits", "apart", "at", "stretch"]) (sc := defScope st_shows_hits) (by decide +kernel)) (fun _ _ _ _ _ => pg_name (i := 7) sc_shows_hits.nd rfl (by first | exact Or.inl rfl | exact Or.inr rfl)) (fun _ _ _ _ _ => Q_yes) (fun _ _ _ _ _ => (E_cmp op_lt lt_ok (E_ix rfl (E_ix rfl (e_var 4) (e_var 7)) E_int) (E_ix rfl (E_ix rfl (e_var 4) (E_op op_addA add_ok (e_var 7) E_int)) E_int))))) A_nil)))))))))))))
theorem ok__law_hand (T : Txt K mg ad fd) : FnG P w K mg base (L2.CX P w) 1 (ad 13) (fd 13) ["script"] (spHand K) := by
  refine okG T.F__law_hand sc__law_hand (fun vs H Q E ⟨_, _, e, _⟩ => by rw [e]; rfl) fun cdv A outer sh H vs Q E g hr h => ?_
  obtain ⟨a, ns, rfl, hS, hl, q⟩ := h
  refine ⟨_, pss_cons (ps_set (i := 1) sc__law_hand.nd rfl (.inl rfl) (pe_lst pa_nil))
    (pss_cons (ps_for PassesOwn.leaving rfl (pi_range1 (by rfl) T.n_range (pa_cons (pe_callB (call_min2 rfl) (by rfl) T.n_min (by decide +kernel) (pa_cons (pe_callB call_len_seq (by rfl) T.n_len PySem.boot_len (pa_cons (pv 0) pa_nil)) (pa_cons pe_int pa_nil))) pa_nil)) (pg_name (i := 2) sc__law_hand.nd rfl (.inl rfl))
      (pss_cons (ps_set (i := 3) sc__law_hand.nd rfl (.inl rfl) (pe_callTy call_int1 (by rfl) T.n_int (by decide +kernel) (pa_cons (pe_ix ix_list (pv 0) (pv 2) (fun _ _ => rfl)) pa_nil)))
      (pss_cons (ps_if (pt_cmpR op_lt (pv 3) pe_int (nomark _)) (pss_one (ps_set (i := 3) sc__law_hand.nd rfl (.inl rfl) (pe_op op_sub pe_int (pe_op op_mul pe_int (pv 3))))) pss_nil)
      (pss_cons (ps_set (i := 3) sc__law_hand.nd rfl (.inl rfl) (pe_op op_modN (pe_callTy call_int1 (by rfl) T.n_int (by decide +kernel) (pa_cons (pv 3) pa_nil)) (pe_op op_pow pe_int pe_int)))
      (pss_one (ps_for PassesOwn.leaving rfl (pi_range1 (by rfl) T.n_range (pa_cons pe_int pa_nil)) (pg_name (i := 4) sc__law_hand.nd rfl (.inl rfl))
        (pss_cons (ps_expr (pe_bm PySem.F.plainAttrs_list PySem.F.slot_list_append PySem.F.type_list_append mt_append (pv 1) (pa_cons (pe_op op_mod (pe_callTy call_int1 (by rfl) T.n_int (by decide +kernel) (pa_cons (pv 3) pa_nil)) pe_int) pa_nil)))
        (pss_cons (ps_set (i := 3) sc__law_hand.nd rfl (.inl rfl) (pe_op op_fdiv (pv 3) pe_int))
        (pss_one (ps_if (pt_cmpR op_eq (pv 3) pe_int (nomark _)) (pss_one ps_break) pss_nil))))))))))
    (pss_one (ps_ret (pe_disp (pps_cons pe_str (pv 1) (pps_cons pe_str pe_int pps_nil)) (by rfl) (by rfl) (fun z => by cases z) (by decide))))), ?_⟩
  refine ⟨Nat.zero_le _, fun r nr => ?_⟩
  have sm0 : ∀ o : HO, Same H (upd H r o) := fun o b u e => by
    rw [upd_ne (ne_of_none e nr)]
    exact e
  have sS : SqL K (upd H r (.lst [])) a (ns.map V.int) := (sm0 _).seq hS
  -- the loop over the script
  refine ⟨.ref a, rfl, a, _, rfl, .inl sS, _, _, rfl, _, rfl, ?_, ?_, ?_⟩
  · split <;> (try rw [List.length_map]) <;> omega
  · split <;> (try rw [List.length_map] at *) <;> omega
  let Row : Nat → Hp → Prop := fun m H' => ∃ row : List Int, H' = upd H r (.lst (row.map V.int)) ∧ GoodRow row ∧ row.length ≤ m
  have stay : ∀ {m H'}, Row m H' → SqL K H' a (ns.map V.int) := fun {m H'} ⟨row, e, _, _⟩ => by
    rw [e]
    exact (sm0 _).seq hS
  refine for_range (lo := 0) (fun i σ H' => i ≤ 30 ∧ ∃ y2 y3 y4, σ = [some (.ref a), some (.ref r), y2, y3, y4] ∧ Row (24 * i) H') ⟨Nat.zero_le _, none, none, none, rfl, [], rfl, ((fun x hx => by cases hx) : GoodRow []), Nat.le_refl _⟩ ?_ ?_
  · rintro i σ H' hi ⟨h30, y2, y3, y4, rfl, hR⟩
    have lt : i < ns.length ∧ i < 30 := by
      have := hi
      split at this <;> (try rw [List.length_map] at this) <;> (try rw [List.length_map] at *) <;> omega
    have it : atI (ns.map V.int) ((0 : Int) + i) = some (.int ns[i]) := by
      rw [Int.zero_add]
      exact atI_nat (by rw [List.getElem?_map, List.getElem?_eq_getElem lt.1]; rfl)
    have hS' := stay hR
    refine ⟨.ref a, rfl, .int (0 + i), rfl, a, _, (0 + i : Int), _, rfl, rfl, hS', it, .inl ⟨_, rfl, .int ns[i], rfl, ns[i], 0, rfl, rfl, _, rfl, ?_⟩⟩
    refine ite2 (fun c => ⟨.int ns[i], rfl, 2, ns[i], rfl, rfl, .inl ⟨by decide, by decide⟩, 1, _, rfl, rfl, ?_⟩) (fun c => ?_)
    all_goals
      refine ⟨_, rfl, .inl ⟨_, rfl, 30, 24, rfl, rfl, ⟨by decide, by decide, by decide⟩, _, _, rfl, rfl, (by decide : (30 : Int) ^ (24 : Int).toNat ≠ 0), 24, rfl, by decide, by decide, ?_⟩⟩
      refine for_range (lo := 0) (n := 24) (fun j σ H' => j ≤ 24 ∧ ∃ x y4, σ = [some (.ref a), some (.ref r), some (.int (0 + (i : Int))), some (.int x), y4] ∧ Row (24 * i + j) H') ⟨Nat.zero_le _, _, _, rfl, hR⟩ ?_ ?_
      · rintro j σ H2 hj ⟨_, x, y4, rfl, row, rfl, gR, lR⟩
        refine ⟨.ref r, rfl, .inl ⟨rfl, _, .inl (.inl upd_same)⟩, .int x, rfl, .inl ⟨x, rfl, x, 30, rfl, rfl, (by decide : (0 : Int) < 30), r, _, _, rfl, rfl, upd_same, ?_, ?_⟩⟩
        · rw [List.length_map, sizeLine_eq]
          have := lt.2
          omega
        have row2 : Row (24 * i + (j + 1)) (upd (upd H r (.lst (row.map V.int))) r (.lst (row.map V.int ++ [.int (x % 30)]))) := by
          refine ⟨row ++ [x % 30], ?_, ?_, ?_⟩
          · rw [upd_upd, List.map_append]
            rfl
          · intro z hz
            rcases List.mem_append.mp hz with hz | hz
            · exact gR z hz
            · have : z = x % 30 := by simpa using hz
              subst this
              omega
          · rw [List.length_append]
            simp
            omega
        refine ⟨.int x, rfl, x, 30, rfl, rfl, ⟨by decide, by decide⟩, .int (x / 30), rfl, rfl, _, rfl, ite2 (fun c => ?_) (fun c => ?_)⟩
        · -- break
          refine ⟨by omega, _, _, _, rfl, ?_⟩
          obtain ⟨row3, e3, g3, l3⟩ := row2
          exact ⟨row3, e3, g3, by have : j + 1 ≤ 24 := hj; omega⟩
        · exact ⟨hj, _, _, rfl, row2⟩
      · rintro σ H2 ⟨_, x, y4, rfl, row, e, gR, lR⟩
        exact ⟨by have := lt.2; omega, _, _, _, rfl, row, e, gR, by omega⟩
  · rintro σ H' ⟨h30, y2, y3, y4, rfl, row, rfl, gR, lR⟩
    intro d nd
    have ne : r ≠ d := fun e => by
      rw [← e, upd_same] at nd
      cases nd
    refine ⟨.ref r, rfl, upd_same, [(.inr "row", .ref r), (.inr "at", .int 0)], rfl, by simp, ?_⟩
    refine q _ d r row ne ?_ ?_ gR (by
      have := h30
      omega)
    · rw [upd_same]
      simp [mergeK, putK, row_at]
    · rw [upd_ne ne, upd_ne ne, upd_same]
theorem ok__law_draw (T : Txt K mg ad fd) : FnG P w K mg base (L2.CX P w) 1 (ad 14) (fd 14) ["hand", "many"] (spM K (clOf ad) fldOf m__law_draw) := by
  have lens : ∀ vs H Q E, spM K (clOf ad) fldOf m__law_draw vs H Q E → vs.length = 2 := by
    rintro vs H Q E ⟨ha, F, hs, ds, s1, hh, r, q⟩
    rw [r.len]
    obtain ⟨n, rfl, _⟩ := mDraw_shape (ds := ds) (h := hs) (fun e => by rw [show m__law_draw ds hs = mDraw ds hs from rfl, e] at q; exact q)
    rfl
  refine okG T.F__law_draw sc__law_draw lens fun cdv A outer sh H vs Q E g hr h => ?_
  obtain ⟨ha, F, hs, ds, s1, hh, r, q⟩ := h
  obtain ⟨n, rfl, nz⟩ := mDraw_shape (ds := ds) (h := hs) (fun e => by rw [show m__law_draw ds hs = mDraw ds hs from rfl, e] at q; exact q)
  cases r with
  | cons r1 r2 =>
    cases r2 with
    | cons r2 r3 =>
      cases r3
      cases r2.dp rfl
      rcases r1 with z | ⟨_, a, ea, rfl⟩
      · cases z
      obtain ⟨fa, rr, ne, hd, fr⟩ := hh a ea
      have hu := hu_of hr
      refine ⟨_, pss_cons (ps_set (i := 2) sc__law_draw.nd rfl (.inl rfl) (pe_dget hu (pv 0) pe_str (fun _ _ => rfl)))
        (pss_cons (ps_dput hu (pv 0) pe_str (pe_op op_add (pv 2) pe_int) rfl)
        (pss_cons (ps_if (pt_cmpR op_ge (pv 2) (pe_callB call_len_seq (by rfl) T.n_len PySem.boot_len (pa_cons (pe_dget hu (pv 0) pe_str (fun _ _ => rfl)) pa_nil)) (nomark _)) (pss_one (ps_ret pe_int)) pss_nil)
        (pss_one (ps_ret (pe_op op_modN (pe_callTy call_int1 (by rfl) T.n_int (by decide +kernel) (pa_cons (pe_ix ix_list (pe_dget hu (pv 0) pe_str (fun _ _ => rfl)) (pv 2) (fun _ _ => rfl)) pa_nil)) (pv 1)))))), ?_⟩
      have v1 : valV [((.inr "row" : Key), V.ref rr), (.inr "at", .int hs.pos)] (.inr "at") = some (.int hs.pos) := by simp [valV, row_at]
      refine ⟨.ref a, rfl, a, .int hs.pos, rfl, by rw [← v1]; exact DGet.k (k := .inr "at") hd, ?_⟩
      -- hand["at"] = at + 1
      have p1 : putK [((.inr "row" : Key), V.ref rr), (.inr "at", .int hs.pos)] (.inr "at") (.int (hs.pos + 1)) = [(.inr "row", .ref rr), (.inr "at", .int (hs.pos + 1))] := by
        simp [putK, row_at]
      refine ⟨.int hs.pos, rfl, hs.pos, 1, rfl, rfl, .ref a, rfl, a, upd H a (.dK [(.inr "row", .ref rr), (.inr "at", .int (hs.pos + 1))]), rfl, ?_, ?_⟩
      · rw [← p1]
        exact DPut.k (k := .inr "at") hd (by rw [sizeLine_eq]; exact (by decide : 2 < 16777216))
      have hd2 : upd H a (.dK [(.inr "row", .ref rr), (.inr "at", .int (hs.pos + 1))]) a = some (.dK [(.inr "row", .ref rr), (.inr "at", .int (hs.pos + 1))]) := upd_same
      have v2 : valV [((.inr "row" : Key), V.ref rr), (.inr "at", .int (hs.pos + 1))] (.inr "row") = some (.ref rr) := by
        simp [valV, row_at]
      have hr2 : upd H a (.dK [(.inr "row", .ref rr), (.inr "at", .int (hs.pos + 1))]) rr = some (.lst (hs.row.map V.int)) := by
        rw [upd_ne ne]
        exact s1 _ _ fr
      have gr : DGet (upd H a (.dK [(.inr "row", .ref rr), (.inr "at", .int (hs.pos + 1))])) a (.str "row") (some (.ref rr)) := by
        rw [← v2]
        exact DGet.k (k := .inr "row") hd2
      have q' : ∀ F' H' v, Step ha F H F' H' → HandOK ha F' H' ⟨hs.row, hs.pos + 1⟩ → Rp K F' ha v (.int (if hs.row.length ≤ hs.pos then 0 else (hs.row.getD hs.pos 0).fmod n)) → Q v H' := by
        have e : m__law_draw [tok, .int n] hs = .ok (.int (if hs.row.length ≤ hs.pos then 0 else (hs.row.getD hs.pos 0).fmod n)) ⟨hs.row, hs.pos + 1⟩ := by
          show (if n = 0 then Out.stuck else _) = _
          rw [if_neg nz]
        rw [e] at q
        exact q
      have sub2 : Same F (upd H a (.dK [(.inr "row", .ref rr), (.inr "at", .int (hs.pos + 1))])) := fun b o z => by
        rw [upd_ne (ne_of_none z fa)]
        exact s1 b o z
      have done : ∀ v, Rp K F ha v (.int (if hs.row.length ≤ hs.pos then 0 else (hs.row.getD hs.pos 0).fmod n)) → Q v (upd H a (.dK [(.inr "row", .ref rr), (.inr "at", .int (hs.pos + 1))])) := fun v rv =>
        q' F _ v ⟨Same.refl F, sub2, fun b o z nb => by rw [upd_ne (fun w => nb (by rw [w]; exact ea))]; exact z, fun b z => .inl z⟩ (fun b eb => by
          rw [ea] at eb
          cases eb
          exact ⟨fa, rr, ne, hd2, fr⟩) rv
      -- if at >= len(hand["row"])
      refine ⟨.int hs.pos, rfl, .ref a, rfl, a, .ref rr, rfl, gr, rr, _, rfl, .inl (SqL.of hr2), hs.pos, _, rfl, rfl, _, rfl, ite2 (fun c => ?_) (fun c => ?_)⟩
      · have c' := of_decide_eq_true c
        rw [List.length_map] at c'
        have c2 : hs.row.length ≤ hs.pos := by omega
        refine done _ (.inl ?_)
        rw [if_pos c2]
        exact .int 0
      · have c' : ¬ (((hs.row.map V.int).length : Nat) : Int) ≤ hs.pos := fun z => c (decide_eq_true z)
        rw [List.length_map] at c'
        have c2 : ¬ hs.row.length ≤ hs.pos := by omega
        have lt : hs.pos < hs.row.length := by omega
        have it : atI (hs.row.map V.int) hs.pos = some (.int (hs.row.getD hs.pos 0)) := atI_nat (by rw [List.getElem?_map, List.getElem?_eq_getElem lt]; simp [List.getD, List.getElem?_eq_getElem lt])
        refine ⟨.ref a, rfl, a, .ref rr, rfl, gr, .int hs.pos, rfl, rr, _, hs.pos, _, rfl, rfl, SqL.of hr2, it, .inl ⟨_, rfl, .int n, rfl, _, n, rfl, rfl, nz, ?_⟩⟩
        refine done _ (.inl ?_)
        rw [if_neg c2]
        exact .int _
theorem ok__law_just (T : Txt K mg ad fd) : FnG P w K mg base (L2.CX P w) 1 (ad 15) (fd 15) ["told", "due"] (spM K (clOf ad) fldOf m__law_just) :=
  okM T.F__law_just sc__law_just rfl (fun cdv A outer sh H E ha F0 qt hr => (p_one (p_ret (E_and (E_cmp (op_eqA hr.units) eq_ok (e_var 0) (e_var 1)) (E_one (E_cmp (op_eqA hr.units) eq_ok (E_callB (call_reprD qt hr.units) repr_ok (by rfl) T.n_repr (by decide +kernel) (A_cons (e_var 0) A_nil)) (E_callB (call_reprD qt hr.units) repr_ok (by rfl) T.n_repr (by decide +kernel) (A_cons (e_var 1) A_nil))))))))
theorem ok__law_drawn (T : Txt K mg ad fd) : FnG P w K mg base (L2.CX P w) 2 (ad 16) (fd 16) ["hand"] (spM K (clOf ad) fldOf m__law_drawn) :=
  okM T.F__law_drawn sc__law_drawn rfl (fun cdv A outer sh H E ha F0 qt hr => (p_cons (p_set 1 sc__law_drawn.nd (E_ix rfl (E_tup (A_cons E_int (A_cons E_int (A_cons E_int (A_cons E_int (A_cons E_int (A_cons E_int (A_cons E_int (A_cons E_int A_nil))))))))) (E_call qt (takes_of rfl rfl rfl rfl) (ok__law_draw T) (hr.mono (by decide)) (by rfl) T.g__law_draw T.F__law_draw.kp T.b__law_draw (A_cons (e_var 0) (A_cons E_int A_nil)))))
 (p_cons (p_set 2 sc__law_drawn.nd (E_ix rfl (E_tup (A_cons E_int (A_cons (E_neg E_int) (A_cons (E_op op_pow pow_ok E_int E_int) (A_cons (E_op op_addA add_ok (E_neg (E_op op_pow pow_ok E_int E_int)) E_int) A_nil))))) (E_call qt (takes_of rfl rfl rfl rfl) (ok__law_draw T) (hr.mono (by decide)) (by rfl) T.g__law_draw T.F__law_draw.kp T.b__law_draw (A_cons (e_var 0) (A_cons E_int A_nil)))))
 (p_cons (p_set 3 sc__law_drawn.nd (E_ix rfl (E_tup (A_cons E_int (A_cons E_int (A_cons E_int A_nil)))) (E_call qt (takes_of rfl rfl rfl rfl) (ok__law_draw T) (hr.mono (by decide)) (by rfl) T.g__law_draw T.F__law_draw.kp T.b__law_draw (A_cons (e_var 0) (A_cons E_int A_nil)))))
 (p_cons (p_new 4 sc__law_drawn.nd)
 (p_cons (p_forR1 [5] (gN_ok) (aLenC aLenN) (ps_for PassesOwn.leaving rfl (pi_range1 (by rfl) T.n_range (A_cons (e_var 1) A_nil)) (pg_name (i := 5) sc__law_drawn.nd rfl (by first | exact Or.inl rfl | exact Or.inr rfl)) (p_cons (p_set 6 sc__law_drawn.nd (E_op op_addA add_ok (e_var 2) (E_op op_mulA mul_ok (e_var 3) (E_op op_modN mod_ok (E_callTy call_int1 int_ok (by rfl) T.n_int (by decide +kernel) (A_cons (E_op op_addA add_ok (E_call qt (takes_of rfl rfl rfl rfl) (ok__law_draw T) (hr.mono (by decide)) (by rfl) T.g__law_draw T.F__law_draw.kp T.b__law_draw (A_cons (e_var 0) (A_cons E_int A_nil))) (E_op op_mulA mul_ok E_int (e_var 5))) A_nil)) E_int))))
 (p_cons (p_set 7 sc__law_drawn.nd (E_op op_addA add_ok (e_var 6) (E_ix rfl (E_tup (A_cons E_int (A_cons E_int (A_cons E_int (A_cons E_int (A_cons E_int (A_cons E_int A_nil))))))) (E_call qt (takes_of rfl rfl rfl rfl) (ok__law_draw T) (hr.mono (by decide)) (by rfl) T.g__law_draw T.F__law_draw.kp T.b__law_draw (A_cons (e_var 0) (A_cons E_int A_nil))))))
 (p_cons (p_if (PW.pt (W_and (T_cmp (op_eqA hr.units) eq_ok (E_call qt (takes_of rfl rfl rfl rfl) (ok__law_draw T) (hr.mono (by decide)) (by rfl) T.g__law_draw T.F__law_draw.kp T.b__law_draw (A_cons (e_var 0) (A_cons E_int A_nil))) E_int) (W_and1 (T_cmp op_gt gt_ok (e_var 5) E_int))))
 (p_one (p_asg [6, 7] (ps_asg (e_pk 4 (fun F1 H1 => (E_ix rfl (e_var 4) (E_op op_sub sub_ok (e_var 5) E_int)))) (pg_tup rfl (pgs_cons (pg_name (i := 6) sc__law_drawn.nd rfl (by first | exact Or.inl rfl | exact Or.inr rfl)) (pgs_cons (pg_name (i := 7) sc__law_drawn.nd rfl (by first | exact Or.inl rfl | exact Or.inr rfl)) pgs_nil)))) (gTup_ok (gCons_ok (gN_ok) (gCons_ok (gN_ok) gNil_ok)))))
 p_nil)
 (p_one (p_app 4 (pe_bm PySem.F.plainAttrs_list PySem.F.slot_list_append PySem.F.type_list_append mt_append (pv 4) (pa_cons (E_tup (A_cons (e_var 6) (A_cons (e_var 7) A_nil))) pa_nil)))))))))
 (p_frz 4 (p_one (p_ret (e_var 4))))))))))
theorem ok__law_is_hit (T : Txt K mg ad fd) : FnG P w K mg base (L2.CX P w) 1 (ad 17) (fd 17) ["pair", "hits"] (spM K (clOf ad) fldOf m__law_is_hit) :=
  okM T.F__law_is_hit sc__law_is_hit rfl (fun cdv A outer sh H E ha F0 qt hr => (p_one (p_ret (E_callB (cr_any rfl) bools_ok (by rfl) T.n_any (by decide +kernel) (A_cons (e_lc (gN_ok) (pe_lc (own := [("hit", 2)]) (g := (gName 2)) rfl sc__law_is_hit.nd (i_seq (e_var 1)) (blkOk_by (N := ["pair", "hits", "hit"]) (sc := defScope st__law_is_hit) (by decide +kernel)) (fun _ _ _ _ _ => pg_name (i := 2) sc__law_is_hit.nd rfl (by first | exact Or.inl rfl | exact Or.inr rfl)) (fun _ _ _ _ _ => Q_yes) (fun _ _ _ _ _ => (E_chain op_le le_ok op_le le_ok (E_ix rfl (e_var 0) E_int) (e_var 2) (E_ix rfl (e_var 0) E_int))))) A_nil)))))
theorem ok__law_lots (T : Txt K mg ad fd) : FnG P w K mg base (L2.CX P w) 1 (ad 18) (fd 18) ["things"] (spM K (clOf ad) fldOf m__law_lots) :=
  okM T.F__law_lots sc__law_lots rfl (fun cdv A outer sh H E ha F0 qt hr => (p_cons (p_set 1 sc__law_lots.nd (E_lst (A_cons (E_tup A_nil) A_nil)))
 (p_cons (p_for' [2] rfl (gN_ok) (ps_for PassesOwn.leaving rfl (i_seq (e_var 0)) (pg_name (i := 2) sc__law_lots.nd rfl (by first | exact Or.inl rfl | exact Or.inr rfl)) (p_one (p_set 1 sc__law_lots.nd (E_op op_addA add_ok (e_var 1) (e_lc (gN_ok) (pe_lc (own := [("lot", 3)]) (g := (gName 3)) rfl sc__law_lots.nd (i_seq (e_var 1)) (blkOk_by (N := ["things", "lots", "thing", "lot"]) (sc := defScope st__law_lots) (by decide +kernel)) (fun _ _ _ _ _ => pg_name (i := 3) sc__law_lots.nd rfl (by first | exact Or.inl rfl | exact Or.inr rfl)) (fun _ _ _ _ _ => Q_yes) (fun _ _ _ _ _ => (E_op op_addA add_ok (e_var 3) (E_tup (A_cons (e_var 2) A_nil)))))))))))
 (p_one (p_ret (e_lc (gN_ok) (pe_lc (own := [("lot", 3)]) (g := (gName 3)) rfl sc__law_lots.nd (i_seq (E_callB (cr_sortedB hr.units) sortB_ok (by rfl) T.n_sorted (by decide +kernel) (A_cons (e_lc (gN_ok) (pe_lc (own := [("lot", 3)]) (g := (gName 3)) rfl sc__law_lots.nd (i_seq (e_var 1)) (blkOk_by (N := ["things", "lots", "thing", "lot"]) (sc := defScope st__law_lots) (by decide +kernel)) (fun _ _ _ _ _ => pg_name (i := 3) sc__law_lots.nd rfl (by first | exact Or.inl rfl | exact Or.inr rfl)) (fun _ _ _ _ _ => Q_yes) (fun _ _ _ _ _ => (E_op op_addA add_ok (E_tup (A_cons (E_callB call_lenA len_ok (by rfl) T.n_len (by decide +kernel) (A_cons (e_var 3) A_nil)) A_nil)) (e_var 3))))) A_nil))) (blkOk_by (N := ["things", "lots", "thing", "lot"]) (sc := defScope st__law_lots) (by decide +kernel)) (fun _ _ _ _ _ => pg_name (i := 3) sc__law_lots.nd rfl (by first | exact Or.inl rfl | exact Or.inr rfl)) (fun _ _ _ _ _ => Q_yes) (fun _ _ _ _ _ => (E_sl rfl (e_var 3) (O_so E_int) O_no)))))))))
theorem ok__law_least (T : Txt K mg ad fd) : FnG P w K mg base (L2.CX P w) 2 (ad 19) (fd 19) ["told"] (spM K (clOf ad) fldOf m__law_least) :=
  okM T.F__law_least sc__law_least rfl (fun cdv A outer sh H E ha F0 qt hr => (p_cons (p_set 1 sc__law_least.nd (E_sortSet rfl rfl (by rfl) T.n_sorted (by decide +kernel) (by rfl) T.n_set (by decide +kernel) (e_lc (gN_ok) (pe_lc (own := [("pair", 5)]) (g := (gName 5)) rfl sc__law_least.nd (i_seq (e_var 0)) (blkOk_by (N := ["told", "lasts", "found", "lot", "fewer", "pair", "one", "thing"]) (sc := defScope st__law_least) (by decide +kernel)) (fun _ _ _ _ _ => pg_name (i := 5) sc__law_least.nd rfl (by first | exact Or.inl rfl | exact Or.inr rfl)) (fun _ _ _ _ _ => Q_yes) (fun _ _ _ _ _ => (E_ix rfl (e_var 5) E_int))))))
 (p_cons (p_new 2 sc__law_least.nd)
 (p_cons (p_for' [3] rfl (gN_ok) (ps_for PassesOwn.leaving rfl (i_seq (E_call qt (takes_of rfl rfl rfl rfl) (ok__law_lots T) (hr.mono (by decide)) (by rfl) T.g__law_lots T.F__law_lots.kp T.b__law_lots (A_cons (e_var 1) A_nil))) (pg_name (i := 3) sc__law_least.nd rfl (by first | exact Or.inl rfl | exact Or.inr rfl)) (p_one (p_if (T_val (E_callB (cr_all rfl) bools_ok (by rfl) T.n_all (by decide +kernel) (A_cons (e_lc (gN_ok) (pe_lc (own := [("pair", 5)]) (g := (gName 5)) rfl sc__law_least.nd (i_seq (e_var 0)) (blkOk_by (N := ["told", "lasts", "found", "lot", "fewer", "pair", "one", "thing"]) (sc := defScope st__law_least) (by decide +kernel)) (fun _ _ _ _ _ => pg_name (i := 5) sc__law_least.nd rfl (by first | exact Or.inl rfl | exact Or.inr rfl)) (fun _ _ _ _ _ => Q_yes) (fun _ _ _ _ _ => (E_call qt takes0 (ok__law_is_hit T) (hr.mono (by decide)) (by rfl) T.g__law_is_hit T.F__law_is_hit.kp T.b__law_is_hit (A_cons (e_var 5) (A_cons (e_var 3) A_nil)))))) A_nil)))
 (p_cons (p_setPkC 4 2 (fun F1 H1 => (gN_ok)) (fun F1 H1 => ps_setLc (i := 4) (own := [("one", 6)]) (g := (gName 6)) rfl sc__law_least.nd rfl (by first | exact rfl) (sw_true rfl rfl rfl (by decide +kernel)) (i_seq (e_var 2)) (blkOk_by (N := ["told", "lasts", "found", "lot", "fewer", "pair", "one", "thing"]) (sc := defScope st__law_least) (by decide +kernel)) (fun _ _ _ _ _ => pg_name (i := 6) sc__law_least.nd rfl (by first | exact Or.inl rfl | exact Or.inr rfl)) (fun _ _ _ _ _ => q_if (T_val (E_callB (cr_all rfl) bools_ok (by rfl) T.n_all (by decide +kernel) (A_cons (e_lc (gN_ok) (pe_lc (own := [("thing", 7)]) (g := (gName 7)) rfl sc__law_least.nd (i_seq (e_var 6)) (blkOk_by (by kernel_rfl)) (fun _ _ _ _ _ => pg_name (i := 7) sc__law_least.nd rfl (by first | exact Or.inl rfl | exact Or.inr rfl)) (fun _ _ _ _ _ => Q_yes) (fun _ _ _ _ _ => (E_cmp op_in_seq in_ok (e_var 7) (e_var 3))))) A_nil)))) (fun _ _ _ _ _ => (e_var 6))))
 (p_one (p_if (T_cmp (op_eqA hr.units) eq_ok (E_callB call_lenA len_ok (by rfl) T.n_len (by decide +kernel) (A_cons (e_var 4) A_nil)) E_int)
 (p_one (p_app 2 (pe_bm PySem.F.plainAttrs_list PySem.F.slot_list_append PySem.F.type_list_append mt_append (pv 2) (pa_cons (e_var 3) pa_nil))))
 p_nil)))
 p_nil))))
 (p_frz 2 (p_one (p_ret (E_callTy call_tupF tuple_ok (by rfl) T.n_tuple (by decide +kernel) (A_cons (e_var 2) A_nil)))))))))
theorem ok__law_are_apart (T : Txt K mg ad fd) : FnG P w K mg base (L2.CX P w) 1 (ad 20) (fd 20) ["told", "numbers"] (spM K (clOf ad) fldOf m__law_are_apart) :=
  okM T.F__law_are_apart sc__law_are_apart rfl (fun cdv A outer sh H E ha F0 qt hr => (p_cons (p_forR1 [2] (gN_ok) (aLenC aLenN) (ps_for PassesOwn.leaving rfl (pi_range1 (by rfl) T.n_range (A_cons (E_callB call_lenA len_ok (by rfl) T.n_len (by decide +kernel) (A_cons (e_var 1) A_nil)) A_nil)) (pg_name (i := 2) sc__law_are_apart.nd rfl (by first | exact Or.inl rfl | exact Or.inr rfl)) (p_one (p_for' [3] rfl (gN_ok) (ps_for PassesOwn.leaving rfl (i_seq (E_sl rfl (e_var 1) (O_so (E_op op_addA add_ok (e_var 2) E_int)) O_no)) (pg_name (i := 3) sc__law_are_apart.nd rfl (by first | exact Or.inl rfl | exact Or.inr rfl)) (p_cons (p_par 4 5 (ps_par rfl sc__law_are_apart.nd rfl rfl (by decide) rfl rfl (A_cons (E_ix rfl (e_var 0) (E_ix rfl (e_var 1) (e_var 2))) (A_cons (E_ix rfl (e_var 0) (e_var 3)) A_nil)) (by first | rfl | kernel_rfl)))
 (p_one (p_if (PW.pt (W_and (T_cmp op_le le_ok (E_ix rfl (e_var 4) E_int) (E_ix rfl (e_var 5) E_int)) (W_and1 (T_cmp op_le le_ok (E_ix rfl (e_var 5) E_int) (E_ix rfl (e_var 4) E_int)))))
 (p_one (p_ret E_bl))
 p_nil))))))))
 (p_one (p_ret E_bl))))
theorem ok__law_most_apart (T : Txt K mg ad fd) : FnG P w K mg base (L2.CX P w) 2 (ad 21) (fd 21) ["told"] (spM K (clOf ad) fldOf m__law_most_apart) :=
  okM T.F__law_most_apart sc__law_most_apart rfl (fun cdv A outer sh H E ha F0 qt hr => (p_cons (p_set 1 sc__law_most_apart.nd (E_tup A_nil))
 (p_cons (p_for' [2] rfl (gN_ok) (ps_for PassesOwn.leaving rfl (i_seq (E_call qt (takes_of rfl rfl rfl rfl) (ok__law_lots T) (hr.mono (by decide)) (by rfl) T.g__law_lots T.F__law_lots.kp T.b__law_lots (A_cons (E_lrg1 rfl (by rfl) T.n_list (by rfl) T.n_range (E_callB call_lenA len_ok (by rfl) T.n_len (by decide +kernel) (A_cons (e_var 0) A_nil))) A_nil))) (pg_name (i := 2) sc__law_most_apart.nd rfl (by first | exact Or.inl rfl | exact Or.inr rfl)) (p_one (p_if (PW.pt (W_and (T_cmp op_gt gt_ok (E_callB call_lenA len_ok (by rfl) T.n_len (by decide +kernel) (A_cons (e_var 2) A_nil)) (E_callB call_lenA len_ok (by rfl) T.n_len (by decide +kernel) (A_cons (e_var 1) A_nil))) (W_and1 (T_val (E_call qt (takes_of rfl rfl rfl rfl) (ok__law_are_apart T) (hr.mono (by decide)) (by rfl) T.g__law_are_apart T.F__law_are_apart.kp T.b__law_are_apart (A_cons (e_var 0) (A_cons (e_var 2) A_nil)))))))
 (p_one (p_set 1 sc__law_most_apart.nd (e_var 2)))
 p_nil))))
 (p_one (p_ret (e_var 1))))))
theorem ok__law_whole (T : Txt K mg ad fd) : FnG P w K mg base (L2.CX P w) 1 (ad 22) (fd 22) ["x"] (spM K (clOf ad) fldOf m__law_whole) :=
  okM T.F__law_whole sc__law_whole rfl (fun cdv A outer sh H E ha F0 qt hr => (p_one (p_ret (E_and (e_isi (te := .Constant .none 0 ⟨0, 0, 0, 0⟩) rfl (pe_callB call_isi (by rfl) T.n_isinstance (by decide +kernel) (pa_cons (e_var 0) (pa_cons (pe_bltn (v := .ty "int") (by rfl) T.n_int (by decide +kernel) rfl) pa_nil)))) (E_one (E_not (e_isi (te := .Constant .none 0 ⟨0, 0, 0, 0⟩) rfl (pe_callB call_isi (by rfl) T.n_isinstance (by decide +kernel) (pa_cons (e_var 0) (pa_cons (pe_bltn (v := .ty "bool") (by rfl) T.n_bool (by decide +kernel) rfl) pa_nil))))))))))
theorem ok__law_is_right (T : Txt K mg ad fd) : FnG P w K mg base (L2.CX P w) 2 (ad 23) (fd 23) ["told", "paper"] (spM K (clOf ad) fldOf m__law_is_right) :=
  okM T.F__law_is_right sc__law_is_right rfl (fun cdv A outer sh H E ha F0 qt hr => (p_cons (p_if (PW.pt (W_or (T_not (T_val (e_isi2 rfl (pe_callB call_isiT (by rfl) T.n_isinstance (by decide +kernel) (pa_cons (e_var 1) (pa_cons (pe_tup (pa_cons (pe_bltn (v := .ty "tuple") (by rfl) T.n_tuple (by decide +kernel) rfl) (pa_cons (pe_bltn (v := .ty "list") (by rfl) T.n_list (by decide +kernel) rfl) pa_nil))) pa_nil)))))) (W_or1 (T_cmp (op_neA hr.units) ne_ok (E_callB call_lenA len_ok (by rfl) T.n_len (by decide +kernel) (A_cons (e_var 1) A_nil)) E_int))))
 (p_one (p_ret E_bl))
 p_nil)
 (p_cons (p_asg [2, 3] (ps_asg (e_var 1) (pg_both rfl (pgs_cons (pg_name (i := 2) sc__law_is_right.nd rfl (by first | exact Or.inl rfl | exact Or.inr rfl)) (pgs_cons (pg_name (i := 3) sc__law_is_right.nd rfl (by first | exact Or.inl rfl | exact Or.inr rfl)) pgs_nil)))) (gBoth_ok (gCons_ok (gN_ok) (gCons_ok (gN_ok) gNil_ok))))
 (p_cons (p_if (PW.pt (W_or (T_not (T_val (e_isi2 rfl (pe_callB call_isiT (by rfl) T.n_isinstance (by decide +kernel) (pa_cons (e_var 2) (pa_cons (pe_tup (pa_cons (pe_bltn (v := .ty "tuple") (by rfl) T.n_tuple (by decide +kernel) rfl) (pa_cons (pe_bltn (v := .ty "list") (by rfl) T.n_list (by decide +kernel) rfl) pa_nil))) pa_nil)))))) (W_or (T_not (T_val (e_isi2 rfl (pe_callB call_isiT (by rfl) T.n_isinstance (by decide +kernel) (pa_cons (e_var 3) (pa_cons (pe_tup (pa_cons (pe_bltn (v := .ty "tuple") (by rfl) T.n_tuple (by decide +kernel) rfl) (pa_cons (pe_bltn (v := .ty "list") (by rfl) T.n_list (by decide +kernel) rfl) pa_nil))) pa_nil)))))) (W_or1 (T_cmp (op_neA hr.units) ne_ok (E_callB call_lenA len_ok (by rfl) T.n_len (by decide +kernel) (A_cons (e_var 2) A_nil)) (E_callB call_lenA len_ok (by rfl) T.n_len (by decide +kernel) (A_cons (e_var 3) A_nil)))))))
 (p_one (p_ret E_bl))
 p_nil)
 (p_cons (p_if (PW.pt (W_or (T_not (T_val (E_callB (cr_all rfl) bools_ok (by rfl) T.n_all (by decide +kernel) (A_cons (e_lc (gN_ok) (pe_lc (own := [("x", 4)]) (g := (gName 4)) rfl sc__law_is_right.nd (i_seq (e_var 2)) (blkOk_by (N := ["told", "paper", "hits", "apart", "x", "pair", "at"]) (sc := defScope st__law_is_right) (by decide +kernel)) (fun _ _ _ _ _ => pg_name (i := 4) sc__law_is_right.nd rfl (by first | exact Or.inl rfl | exact Or.inr rfl)) (fun _ _ _ _ _ => Q_yes) (fun _ _ _ _ _ => (E_call qt takes0 (ok__law_whole T) (hr.mono (by decide)) (by rfl) T.g__law_whole T.F__law_whole.kp T.b__law_whole (A_cons (e_var 4) A_nil))))) A_nil)))) (W_or1 (T_not (T_val (E_callB (cr_all rfl) bools_ok (by rfl) T.n_all (by decide +kernel) (A_cons (e_lc (gN_ok) (pe_lc (own := [("x", 4)]) (g := (gName 4)) rfl sc__law_is_right.nd (i_seq (e_var 3)) (blkOk_by (N := ["told", "paper", "hits", "apart", "x", "pair", "at"]) (sc := defScope st__law_is_right) (by decide +kernel)) (fun _ _ _ _ _ => pg_name (i := 4) sc__law_is_right.nd rfl (by first | exact Or.inl rfl | exact Or.inr rfl)) (fun _ _ _ _ _ => Q_yes) (fun _ _ _ _ _ => (E_call qt takes0 (ok__law_whole T) (hr.mono (by decide)) (by rfl) T.g__law_whole T.F__law_whole.kp T.b__law_whole (A_cons (e_var 4) A_nil))))) A_nil)))))))
 (p_one (p_ret E_bl))
 p_nil)
 (p_cons (p_if (PW.pt (W_or (T_val (E_callB (cr_any rfl) bools_ok (by rfl) T.n_any (by decide +kernel) (A_cons (e_lc (gN_ok) (pe_lc (own := [("x", 4)]) (g := (gName 4)) rfl sc__law_is_right.nd (i_seq (e_var 2)) (blkOk_by (N := ["told", "paper", "hits", "apart", "x", "pair", "at"]) (sc := defScope st__law_is_right) (by decide +kernel)) (fun _ _ _ _ _ => pg_name (i := 4) sc__law_is_right.nd rfl (by first | exact Or.inl rfl | exact Or.inr rfl)) (fun _ _ _ _ _ => Q_yes) (fun _ _ _ _ _ => (E_cmp op_gt gt_ok (E_cnt rfl (e_var 2) (e_var 4)) E_int)))) A_nil))) (W_or1 (T_val (E_callB (cr_any rfl) bools_ok (by rfl) T.n_any (by decide +kernel) (A_cons (e_lc (gN_ok) (pe_lc (own := [("x", 4)]) (g := (gName 4)) rfl sc__law_is_right.nd (i_seq (e_var 3)) (blkOk_by (N := ["told", "paper", "hits", "apart", "x", "pair", "at"]) (sc := defScope st__law_is_right) (by decide +kernel)) (fun _ _ _ _ _ => pg_name (i := 4) sc__law_is_right.nd rfl (by first | exact Or.inl rfl | exact Or.inr rfl)) (fun _ _ _ _ _ => Q_yes) (fun _ _ _ _ _ => (E_cmp op_gt gt_ok (E_cnt rfl (e_var 3) (e_var 4)) E_int)))) A_nil))))))
 (p_one (p_ret E_bl))
 p_nil)
 (p_cons (p_if (PW.pt (W_or (T_not (T_val (E_callB (cr_all rfl) bools_ok (by rfl) T.n_all (by decide +kernel) (A_cons (e_lc (gN_ok) (pe_lc (own := [("pair", 5)]) (g := (gName 5)) rfl sc__law_is_right.nd (i_seq (e_var 0)) (blkOk_by (N := ["told", "paper", "hits", "apart", "x", "pair", "at"]) (sc := defScope st__law_is_right) (by decide +kernel)) (fun _ _ _ _ _ => pg_name (i := 5) sc__law_is_right.nd rfl (by first | exact Or.inl rfl | exact Or.inr rfl)) (fun _ _ _ _ _ => Q_yes) (fun _ _ _ _ _ => (E_call qt takes0 (ok__law_is_hit T) (hr.mono (by decide)) (by rfl) T.g__law_is_hit T.F__law_is_hit.kp T.b__law_is_hit (A_cons (e_var 5) (A_cons (e_var 2) A_nil)))))) A_nil)))) (W_or1 (T_not (T_val (E_callB (cr_all rfl) bools_ok (by rfl) T.n_all (by decide +kernel) (A_cons (e_lc (gN_ok) (pe_lc (own := [("at", 6)]) (g := (gName 6)) rfl sc__law_is_right.nd (i_seq (e_var 3)) (blkOk_by (N := ["told", "paper", "hits", "apart", "x", "pair", "at"]) (sc := defScope st__law_is_right) (by decide +kernel)) (fun _ _ _ _ _ => pg_name (i := 6) sc__law_is_right.nd rfl (by first | exact Or.inl rfl | exact Or.inr rfl)) (fun _ _ _ _ _ => Q_yes) (fun _ _ _ _ _ => (E_chain op_le le_ok op_lt lt_ok E_int (e_var 6) (E_callB call_lenA len_ok (by rfl) T.n_len (by decide +kernel) (A_cons (e_var 0) A_nil)))))) A_nil)))))))
 (p_one (p_ret E_bl))
 p_nil)
 (p_one (p_ret (E_call qt (takes_of rfl rfl rfl rfl) (ok__law_are_apart T) (hr.mono (by decide)) (by rfl) T.g__law_are_apart T.F__law_are_apart.kp T.b__law_are_apart (A_cons (e_var 0) (A_cons (E_callTy call_list_of list_ok (by rfl) T.n_list (by decide +kernel) (A_cons (e_var 3) A_nil)) A_nil))))))))))))
theorem ok__law_heard (T : Txt K mg ad fd) : FnG P w K mg base (L2.CX P w) 17 (ad 24) (fd 24) ["which", "x", "paper"] (spM K (clOf ad) fldOf m__law_heard) :=
  okM T.F__law_heard sc__law_heard rfl (fun cdv A outer sh H E ha F0 qt hr => (p_cons (p_set 3 sc__law_heard.nd (E_tup (A_cons E_str (A_cons E_non A_nil))))
 (p_cons (p_try 2 rfl rfl sc__law_heard.nd (takes_of rfl rfl rfl rfl) (fun W pn xe tk' _ => (p_one (p_if (T_cmp (op_eqA hr.units) eq_ok (e_var 0) E_int)
 (p_one (p_set 3 sc__law_heard.nd (E_tup (A_cons E_str (A_cons (E_call qt tk' (ok_hit_number T) (hr.mono (by decide)) (by rfl) T.g_hit_number T.F_hit_number.kp T.b_hit_number (A_cons (e_var 1) A_nil)) A_nil)))))
 (p_one (p_if (T_cmp (op_eqA hr.units) eq_ok (e_var 0) E_int)
 (p_one (p_set 3 sc__law_heard.nd (E_tup (A_cons E_str (A_cons (E_call qt tk' (ok_fewest_hits T) (hr.mono (by decide)) (by rfl) T.g_fewest_hits T.F_fewest_hits.kp T.b_fewest_hits (A_cons (e_var 1) A_nil)) A_nil)))))
 (p_one (p_if (T_cmp (op_eqA hr.units) eq_ok (e_var 0) E_int)
 (p_one (p_set 3 sc__law_heard.nd (E_tup (A_cons E_str (A_cons (E_call qt tk' (ok_least_hits T) (hr.mono (by decide)) (by rfl) T.g_least_hits T.F_least_hits.kp T.b_least_hits (A_cons (e_var 1) A_nil)) A_nil)))))
 (p_one (p_set 3 sc__law_heard.nd (E_tup (A_cons E_str (A_cons (E_call qt tk' (ok_shows_hits T) (hr.mono (by decide)) (by rfl) T.g_shows_hits T.F_shows_hits.kp T.b_shows_hits (A_cons (e_var 1) (A_cons (e_var 2) A_nil))) A_nil))))))))))))
 (ClsOk.named (i := 4) (hc := ⟨by rfl, by decide, Or.inl T.g_BadLot⟩) (hi := rfl) (hln := rfl) (ts := fun a cls dd => tS (Gh.sees (gS K (clOf ad) fldOf ha H F0 E) a cls dd) ((sSet 3 (cA mkTup (aC (cK (.str "lot")) (aC (gExc [0] (fun _ x => ret x) 4) aN)))))) (hsu := fun a oe cls dd pn hz hf => (p_one (p_set 3 sc__law_heard.nd (E_tup (A_cons E_str (A_cons (e_excF (G := (gS K (clOf ad) fldOf ha H F0 E)) [0] 4 rfl (T.xf__law_heard_0) hz hf (pv 4)) A_nil)))))) (r := (ClsOk.named (i := 4) (hc := ⟨by rfl, by decide, Or.inl T.g_TooMany⟩) (hi := rfl) (hln := rfl) (ts := fun a cls dd => tS (Gh.sees (gS K (clOf ad) fldOf ha H F0 E) a cls dd) ((sSet 3 (cA mkTup (aC (cK (.str "many")) (aC (gExc [1] (fun _ x => ret x) 4) aN)))))) (hsu := fun a oe cls dd pn hz hf => (p_one (p_set 3 sc__law_heard.nd (E_tup (A_cons E_str (A_cons (e_excF (G := (gS K (clOf ad) fldOf ha H F0 E)) [1] 4 rfl (T.xf__law_heard_1) hz hf (pv 4)) A_nil)))))) (r := (ClsOk.plain (hc := ⟨by rfl, by decide, Or.inl T.g_ClockError⟩) (ts := fun a cls dd => tS (Gh.sees (gS K (clOf ad) fldOf ha H F0 E) a cls dd) ((sSet 3 (cA mkTup (aC (cK (.str "else")) (aC (cK .none) aN)))))) (hsu := fun a oe cls dd pn hz hf => (p_one (p_set 3 sc__law_heard.nd (E_tup (A_cons E_str (A_cons E_non A_nil)))))) (r := ClsOk.nil))))))
 (HsOk.cons ⟨fun c hc => T.exm c 0 hc (by decide), rfl, fun _ _ _ => rfl⟩ (HsOk.cons ⟨fun c hc => T.exm c 1 hc (by decide), rfl, fun _ _ _ => rfl⟩ (HsOk.cons ⟨fun c hc => T.exm c 2 hc (by decide), rfl, fun _ _ _ => rfl⟩ HsOk.nil))))
 (p_one (p_ret (e_var 3))))))
theorem ok__law_said (T : Txt K mg ad fd) : FnG P w K mg base (L2.CX P w) 17 (ad 25) (fd 25) ["told", "paper"] (spM K (clOf ad) fldOf m__law_said) :=
  okM T.F__law_said sc__law_said rfl (fun cdv A outer sh H E ha F0 qt hr => (p_cons (p_set 2 sc__law_said.nd (E_call qt (takes_of rfl rfl rfl rfl) (ok_shows_hits T) (hr.mono (by decide)) (by rfl) T.g_shows_hits T.F_shows_hits.kp T.b_shows_hits (A_cons (e_var 0) (A_cons (e_var 1) A_nil))))
 (p_one (p_ret (E_ix rfl (E_tup (A_cons (E_cmp (OpR.or op_isN op_is_bl) (r2_or isN_ok isB_ok) (e_var 2) E_bl) (A_cons (E_cmp (OpR.or op_isN op_is_bl) (r2_or isN_ok isB_ok) (e_var 2) E_bl) A_nil))) (E_callTy call_int1 int_ok (by rfl) T.n_int (by decide +kernel) (A_cons (E_call qt (takes_of rfl rfl rfl rfl) (ok__law_is_right T) (hr.mono (by decide)) (by rfl) T.g__law_is_right T.F__law_is_right.kp T.b__law_is_right (A_cons (e_var 0) (A_cons (e_var 1) A_nil))) A_nil)))))))
theorem ok__law_papers_right (T : Txt K mg ad fd) : FnG P w K mg base (L2.CX P w) 18 (ad 26) (fd 26) ["told", "hits", "apart", "hand"] (spM K (clOf ad) fldOf m__law_papers_right) :=
  okM T.F__law_papers_right sc__law_papers_right rfl (fun cdv A outer sh H E ha F0 qt hr => (p_cons (p_set 4 sc__law_papers_right.nd (E_callB call_lenA len_ok (by rfl) T.n_len (by decide +kernel) (A_cons (e_var 0) A_nil)))
 (p_cons (p_set 5 sc__law_papers_right.nd (E_lst (A_cons E_non (A_cons (E_tup A_nil) (A_cons E_int (A_cons E_str (A_cons (E_tup (A_cons (e_var 1) A_nil)) (A_cons (E_tup (A_cons (e_var 1) (A_cons (e_var 2) (A_cons (E_tup A_nil) A_nil)))) (A_cons (E_tup (A_cons (e_var 2) (A_cons (e_var 1) A_nil))) (A_cons (E_tup (A_cons (e_var 1) (A_cons E_non A_nil))) (A_cons (E_tup (A_cons E_int (A_cons (e_var 2) A_nil))) (A_cons (E_lst (A_cons (E_callTy call_list_of list_ok (by rfl) T.n_list (by decide +kernel) (A_cons (e_var 1) A_nil)) (A_cons (E_callTy call_list_of list_ok (by rfl) T.n_list (by decide +kernel) (A_cons (e_var 2) A_nil)) A_nil))) (A_cons (E_tup (A_cons (E_back rfl (e_var 1)) (A_cons (E_back rfl (e_var 2)) A_nil))) A_nil)))))))))))))
 (p_cons (p_if (T_cmp op_gt gt_ok (E_callB call_lenA len_ok (by rfl) T.n_len (by decide +kernel) (A_cons (e_var 1) A_nil)) E_int)
 (p_cons (p_set 6 sc__law_papers_right.nd (E_call qt (takes_of rfl rfl rfl rfl) (ok__law_draw T) (hr.mono (by decide)) (by rfl) T.g__law_draw T.F__law_draw.kp T.b__law_draw (A_cons (e_var 3) (A_cons (E_callB call_lenA len_ok (by rfl) T.n_len (by decide +kernel) (A_cons (e_var 1) A_nil)) A_nil))))
 (p_cons (p_asg [7, 8] (ps_asg (E_tup (A_cons (E_op op_addA add_ok (E_sl rfl (e_var 1) O_no (O_so (e_var 6))) (E_sl rfl (e_var 1) (O_so (E_op op_addA add_ok (e_var 6) E_int)) O_no)) (A_cons (E_op op_addA add_ok (E_sl rfl (e_var 2) O_no (O_so (e_var 6))) (E_sl rfl (e_var 2) (O_so (E_op op_addA add_ok (e_var 6) E_int)) O_no)) A_nil))) (pg_tup rfl (pgs_cons (pg_name (i := 7) sc__law_papers_right.nd rfl (by first | exact Or.inl rfl | exact Or.inr rfl)) (pgs_cons (pg_name (i := 8) sc__law_papers_right.nd rfl (by first | exact Or.inl rfl | exact Or.inr rfl)) pgs_nil)))) (gTup_ok (gCons_ok (gN_ok) (gCons_ok (gN_ok) gNil_ok))))
 (p_cons (p_set 5 sc__law_papers_right.nd (E_op op_addA add_ok (e_var 5) (E_lst (A_cons (E_tup (A_cons (e_var 7) (A_cons (e_var 2) A_nil))) (A_cons (E_tup (A_cons (e_var 1) (A_cons (e_var 8) A_nil))) (A_cons (E_tup (A_cons (e_var 7) (A_cons (e_var 8) A_nil))) (A_cons (E_tup (A_cons (E_op op_addA add_ok (e_var 1) (E_sl rfl (e_var 1) O_no (O_so E_int))) (A_cons (E_op op_addA add_ok (e_var 2) (E_sl rfl (e_var 2) O_no (O_so E_int))) A_nil))) (A_cons (E_tup (A_cons (E_op op_addA add_ok (e_var 1) (E_sl rfl (e_var 1) O_no (O_so E_int))) (A_cons (E_op op_addA add_ok (e_var 2) (E_tup (A_cons (e_var 4) A_nil))) A_nil))) A_nil))))))))
 (p_cons (p_set 5 sc__law_papers_right.nd (E_op op_addA add_ok (e_var 5) (E_lst (A_cons (E_tup (A_cons (E_op op_addA add_ok (e_var 7) (E_tup (A_cons (E_op op_addA add_ok (E_ix rfl (e_var 1) (e_var 6)) E_int) A_nil))) (A_cons (e_var 2) A_nil))) (A_cons (E_tup (A_cons (E_op op_addA add_ok (e_var 7) (E_tup (A_cons (E_op op_sub sub_ok (E_ix rfl (e_var 1) (e_var 6)) E_int) A_nil))) (A_cons (e_var 2) A_nil))) (A_cons (E_tup (A_cons (E_op op_addA add_ok (e_var 7) (E_tup (A_cons (E_op op_addA add_ok (E_ix rfl (e_var 1) (e_var 6)) (E_op op_pow pow_ok E_int E_int)) A_nil))) (A_cons (e_var 2) A_nil))) (A_cons (E_tup (A_cons (E_op op_addA add_ok (e_var 7) (E_tup (A_cons E_bl A_nil))) (A_cons (e_var 2) A_nil))) A_nil)))))))
 (p_cons (p_set 5 sc__law_papers_right.nd (E_op op_addA add_ok (e_var 5) (E_lst (A_cons (E_tup (A_cons (e_var 1) (A_cons (E_op op_addA add_ok (e_var 8) (E_tup (A_cons (e_var 4) A_nil))) A_nil))) (A_cons (E_tup (A_cons (e_var 1) (A_cons (E_op op_addA add_ok (e_var 8) (E_tup (A_cons (E_neg E_int) A_nil))) A_nil))) (A_cons (E_tup (A_cons (e_var 1) (A_cons (E_op op_addA add_ok (e_var 8) (E_tup (A_cons E_non A_nil))) A_nil))) (A_cons (E_tup (A_cons (e_var 1) (A_cons (E_op op_addA add_ok (e_var 8) (E_tup (A_cons E_bl A_nil))) A_nil))) (A_cons (E_tup (A_cons (e_var 1) (A_cons (E_op op_addA add_ok (e_var 8) (E_tup (A_cons (E_tup (A_cons E_int A_nil)) A_nil))) A_nil))) A_nil))))))))
 (p_cons (p_set 5 sc__law_papers_right.nd (E_op op_addA add_ok (e_var 5) (e_lcR1 (aLenC aLenN) (gN_ok) (pe_lc (own := [("number", 10)]) (g := (gName 10)) rfl sc__law_papers_right.nd (pi_range1 (by rfl) T.n_range (A_cons (e_var 4) A_nil)) (blkOk_by (N := ["told", "hits", "apart", "hand", "many", "wrong", "at", "one", "other", "paper", "number"]) (sc := defScope st__law_papers_right) (by decide +kernel)) (fun _ _ _ _ _ => pg_name (i := 10) sc__law_papers_right.nd rfl (by first | exact Or.inl rfl | exact Or.inr rfl)) (fun _ _ _ _ _ => Q_yes) (fun _ _ _ _ _ => (E_tup (A_cons (e_var 1) (A_cons (E_op op_addA add_ok (e_var 8) (E_tup (A_cons (e_var 10) A_nil))) A_nil))))))))
 (p_one (p_set 5 sc__law_papers_right.nd (E_op op_addA add_ok (e_var 5) (e_lcR1 (aLenC aLenN) (gN_ok) (pe_lc (own := [("number", 10)]) (g := (gName 10)) rfl sc__law_papers_right.nd (pi_range1 (by rfl) T.n_range (A_cons (e_var 4) A_nil)) (blkOk_by (N := ["told", "hits", "apart", "hand", "many", "wrong", "at", "one", "other", "paper", "number"]) (sc := defScope st__law_papers_right) (by decide +kernel)) (fun _ _ _ _ _ => pg_name (i := 10) sc__law_papers_right.nd rfl (by first | exact Or.inl rfl | exact Or.inr rfl)) (fun _ _ _ _ _ => Q_yes) (fun _ _ _ _ _ => (E_tup (A_cons (E_op op_addA add_ok (e_var 1) (E_tup (A_cons (E_op op_addA add_ok (E_ix rfl (e_var 1) (E_op op_sub sub_ok (E_callB call_lenA len_ok (by rfl) T.n_len (by decide +kernel) (A_cons (e_var 1) A_nil)) E_int)) E_int) A_nil))) (A_cons (E_op op_addA add_ok (e_var 2) (E_tup (A_cons (e_var 10) A_nil))) A_nil)))))))))))))))
 p_nil)
 (p_one (p_ret (E_callB (cr_all rfl) bools_ok (by rfl) T.n_all (by decide +kernel) (A_cons (e_lc (gN_ok) (pe_lc (own := [("paper", 9)]) (g := (gName 9)) rfl sc__law_papers_right.nd (i_seq (e_var 5)) (blkOk_by (N := ["told", "hits", "apart", "hand", "many", "wrong", "at", "one", "other", "paper", "number"]) (sc := defScope st__law_papers_right) (by decide +kernel)) (fun _ _ _ _ _ => pg_name (i := 9) sc__law_papers_right.nd rfl (by first | exact Or.inl rfl | exact Or.inr rfl)) (fun _ _ _ _ _ => Q_yes) (fun _ _ _ _ _ => (E_call qt takes0 (ok__law_said T) (hr.mono (by decide)) (by rfl) T.g__law_said T.F__law_said.kp T.b__law_said (A_cons (e_var 0) (A_cons (e_var 9) A_nil)))))) A_nil))))))))
theorem ok__law_lots_right (T : Txt K mg ad fd) : FnG P w K mg base (L2.CX P w) 19 (ad 27) (fd 27) ["told", "hand"] (spM K (clOf ad) fldOf m__law_lots_right) :=
  okM T.F__law_lots_right sc__law_lots_right rfl (fun cdv A outer sh H E ha F0 qt hr => (p_cons (p_set 2 sc__law_lots_right.nd (E_call qt (takes_of rfl rfl rfl rfl) (ok__law_least T) (hr.mono (by decide)) (by rfl) T.g__law_least T.F__law_least.kp T.b__law_least (A_cons (e_var 0) A_nil)))
 (p_cons (p_set 3 sc__law_lots_right.nd (E_call qt (takes_of rfl rfl rfl rfl) (ok__law_most_apart T) (hr.mono (by decide)) (by rfl) T.g__law_most_apart T.F__law_most_apart.kp T.b__law_most_apart (A_cons (e_var 0) A_nil)))
 (p_cons (p_ownC 4 (gN_ok) (ps_setLc (i := 4) (own := [("pair", 6)]) (g := (gName 6)) rfl sc__law_lots_right.nd rfl (by first | exact rfl) (sw_true rfl rfl rfl (by decide +kernel)) (i_seq (e_var 0)) (blkOk_by (N := ["told", "hand", "least", "apart", "handed", "paper", "pair"]) (sc := defScope st__law_lots_right) (by decide +kernel)) (fun _ _ _ _ _ => pg_name (i := 6) sc__law_lots_right.nd rfl (by first | exact Or.inl rfl | exact Or.inr rfl)) (fun _ _ _ _ _ => Q_yes) (fun _ _ _ _ _ => (E_callTy call_list_of list_ok (by rfl) T.n_list (by decide +kernel) (A_cons (e_var 6) A_nil)))))
 (p_cons (p_if (t_pk 4 (fun F1 H1 => (PW.pt (W_or (T_cmp (op_neA hr.units) ne_ok (E_callB call_lenA len_ok (by rfl) T.n_len (by decide +kernel) (A_cons (E_ix rfl (e_var 2) E_int) A_nil)) (E_callB call_lenA len_ok (by rfl) T.n_len (by decide +kernel) (A_cons (e_var 3) A_nil))) (W_or1 (T_not (T_val (E_call qt (takes_of rfl rfl rfl rfl) (ok__law_just T) (hr.mono (by decide)) (by rfl) T.g__law_just T.F__law_just.kp T.b__law_just (A_cons (E_call qt (takes_of rfl rfl rfl rfl) (ok_hit_number T) (hr.mono (by decide)) (by rfl) T.g_hit_number T.F_hit_number.kp T.b_hit_number (A_cons (e_var 4) A_nil)) (A_cons (E_callB call_lenA len_ok (by rfl) T.n_len (by decide +kernel) (A_cons (e_var 3) A_nil)) A_nil))))))))))
 (p_one (p_ret E_bl))
 p_nil)
 (p_cons (p_if (PW.pt (W_or (T_not (T_val (E_call qt (takes_of rfl rfl rfl rfl) (ok__law_just T) (hr.mono (by decide)) (by rfl) T.g__law_just T.F__law_just.kp T.b__law_just (A_cons (E_call qt (takes_of rfl rfl rfl rfl) (ok_least_hits T) (hr.mono (by decide)) (by rfl) T.g_least_hits T.F_least_hits.kp T.b_least_hits (A_cons (E_callTy call_tupF tuple_ok (by rfl) T.n_tuple (by decide +kernel) (A_cons (e_var 0) A_nil)) A_nil)) (A_cons (e_var 2) A_nil))))) (W_or1 (T_not (T_val (E_call qt (takes_of rfl rfl rfl rfl) (ok__law_papers_right T) (hr.mono (by decide)) (by rfl) T.g__law_papers_right T.F__law_papers_right.kp T.b__law_papers_right (A_cons (e_var 0) (A_cons (E_ix rfl (e_var 2) E_int) (A_cons (e_var 3) (A_cons (e_var 1) A_nil))))))))))
 (p_one (p_ret E_bl))
 p_nil)
 (p_cons (p_set 5 sc__law_lots_right.nd (E_call qt (takes_of rfl rfl rfl rfl) (ok_fewest_hits T) (hr.mono (by decide)) (by rfl) T.g_fewest_hits T.F_fewest_hits.kp T.b_fewest_hits (A_cons (e_var 0) A_nil)))
 (p_cons (p_if (PW.pt (W_or (T_not (T_val (e_isi (te := .Constant .none 0 ⟨0, 0, 0, 0⟩) rfl (pe_callB call_isi (by rfl) T.n_isinstance (by decide +kernel) (pa_cons (e_var 5) (pa_cons (pe_bltn (v := .ty "tuple") (by rfl) T.n_tuple (by decide +kernel) rfl) pa_nil)))))) (W_or (T_not (T_val (E_call qt (takes_of rfl rfl rfl rfl) (ok__law_is_right T) (hr.mono (by decide)) (by rfl) T.g__law_is_right T.F__law_is_right.kp T.b__law_is_right (A_cons (e_var 0) (A_cons (e_var 5) A_nil))))) (W_or1 (T_cmp (op_neA hr.units) ne_ok (E_callB call_lenA len_ok (by rfl) T.n_len (by decide +kernel) (A_cons (E_ix rfl (e_var 5) E_int) A_nil)) (E_callB call_lenA len_ok (by rfl) T.n_len (by decide +kernel) (A_cons (e_var 3) A_nil)))))))
 (p_one (p_ret E_bl))
 p_nil)
 (p_cons (p_if (PW.pt (W_or (T_not (T_val (e_isi (te := .Constant .none 0 ⟨0, 0, 0, 0⟩) rfl (pe_callB call_isi (by rfl) T.n_isinstance (by decide +kernel) (pa_cons (E_ix rfl (e_var 5) E_int) (pa_cons (pe_bltn (v := .ty "tuple") (by rfl) T.n_tuple (by decide +kernel) rfl) pa_nil)))))) (W_or (T_not (T_val (e_isi (te := .Constant .none 0 ⟨0, 0, 0, 0⟩) rfl (pe_callB call_isi (by rfl) T.n_isinstance (by decide +kernel) (pa_cons (E_ix rfl (e_var 5) E_int) (pa_cons (pe_bltn (v := .ty "tuple") (by rfl) T.n_tuple (by decide +kernel) rfl) pa_nil)))))) (W_or1 (T_not (T_val (E_call qt (takes_of rfl rfl rfl rfl) (ok__law_just T) (hr.mono (by decide)) (by rfl) T.g__law_just T.F__law_just.kp T.b__law_just (A_cons (E_tup (A_cons (E_callTy call_list_of list_ok (by rfl) T.n_list (by decide +kernel) (A_cons (E_ix rfl (e_var 5) E_int) A_nil)) (A_cons (E_callTy call_list_of list_ok (by rfl) T.n_list (by decide +kernel) (A_cons (E_ix rfl (e_var 5) E_int) A_nil)) A_nil))) (A_cons (E_tup (A_cons (E_callB (cr_sortedB hr.units) sortB_ok (by rfl) T.n_sorted (by decide +kernel) (A_cons (E_ix rfl (e_var 5) E_int) A_nil)) (A_cons (E_callB (cr_sortedB hr.units) sortB_ok (by rfl) T.n_sorted (by decide +kernel) (A_cons (E_ix rfl (e_var 5) E_int) A_nil)) A_nil))) A_nil)))))))))
 (p_one (p_ret E_bl))
 p_nil)
 (p_cons (p_if (t_pk 4 (fun F1 H1 => (PW.pt (W_or (T_not (T_val (E_call qt (takes_of rfl rfl rfl rfl) (ok__law_said T) (hr.mono (by decide)) (by rfl) T.g__law_said T.F__law_said.kp T.b__law_said (A_cons (e_var 0) (A_cons (e_var 5) A_nil))))) (W_or1 (T_not (T_val (E_call qt (takes_of rfl rfl rfl rfl) (ok__law_just T) (hr.mono (by decide)) (by rfl) T.g__law_just T.F__law_just.kp T.b__law_just (A_cons (e_var 4) (A_cons (e_lc (gN_ok) (pe_lc (own := [("pair", 6)]) (g := (gName 6)) rfl sc__law_lots_right.nd (i_seq (e_var 0)) (blkOk_by (N := ["told", "hand", "least", "apart", "handed", "paper", "pair"]) (sc := defScope st__law_lots_right) (by decide +kernel)) (fun _ _ _ _ _ => pg_name (i := 6) sc__law_lots_right.nd rfl (by first | exact Or.inl rfl | exact Or.inr rfl)) (fun _ _ _ _ _ => Q_yes) (fun _ _ _ _ _ => (E_callTy call_list_of list_ok (by rfl) T.n_list (by decide +kernel) (A_cons (e_var 6) A_nil))))) A_nil))))))))))
 (p_one (p_ret E_bl))
 p_nil)
 (p_cons (p_app 4 (pe_bm PySem.F.plainAttrs_list PySem.F.slot_list_append PySem.F.type_list_append mt_append (pv 4) (pa_cons (E_lst (A_cons E_int (A_cons E_int A_nil))) pa_nil)))
 (p_one (p_ret (E_call qt (takes_of rfl rfl rfl rfl) (ok__law_just T) (hr.mono (by decide)) (by rfl) T.g__law_just T.F__law_just.kp T.b__law_just (A_cons (E_call qt (takes_of rfl rfl rfl rfl) (ok_hit_number T) (hr.mono (by decide)) (by rfl) T.g_hit_number T.F_hit_number.kp T.b_hit_number (A_cons (e_var 0) A_nil)) (A_cons (E_callB call_lenA len_ok (by rfl) T.n_len (by decide +kernel) (A_cons (e_var 3) A_nil)) A_nil))))))))))))))))
theorem ok__law_refused (T : Txt K mg ad fd) : FnG P w K mg base (L2.CX P w) 18 (ad 28) (fd 28) ["told", "hand"] (spM K (clOf ad) fldOf m__law_refused) :=
  okM T.F__law_refused sc__law_refused rfl (fun cdv A outer sh H E ha F0 qt hr => (p_cons (p_set 2 sc__law_refused.nd (E_call qt (takes_of rfl rfl rfl rfl) (ok__law_draw T) (hr.mono (by decide)) (by rfl) T.g__law_draw T.F__law_draw.kp T.b__law_draw (A_cons (e_var 1) (A_cons (E_op op_addA add_ok (E_callB call_lenA len_ok (by rfl) T.n_len (by decide +kernel) (A_cons (e_var 0) A_nil)) E_int) A_nil))))
 (p_cons (p_for' [3] rfl (gN_ok) (ps_for PassesOwn.leaving rfl (i_seq (E_tup (A_cons E_non (A_cons E_int (A_cons (E_tup (A_cons E_int (A_cons E_int A_nil))) (A_cons (E_tup (A_cons E_int A_nil)) (A_cons (E_tup (A_cons E_int (A_cons E_int (A_cons E_int A_nil)))) (A_cons (E_tup (A_cons E_bl (A_cons E_int A_nil))) (A_cons (E_tup (A_cons E_int (A_cons E_non A_nil))) (A_cons E_str (A_cons (E_tup (A_cons E_str (A_cons E_str A_nil))) (A_cons (E_lst (A_cons E_int (A_cons E_int A_nil))) A_nil)))))))))))) (pg_name (i := 3) sc__law_refused.nd rfl (by first | exact Or.inl rfl | exact Or.inr rfl)) (p_cons (p_set 6 sc__law_refused.nd (E_op op_addA add_ok (E_op op_addA add_ok (E_op op_addA add_ok (E_sl rfl (e_var 0) O_no (O_so (e_var 2))) (E_lst (A_cons (e_var 3) A_nil))) (E_sl rfl (e_var 0) (O_so (e_var 2)) O_no)) (E_lst (A_cons E_non A_nil))))
 (p_one (p_forR1 [7] (gN_ok) (aLenC aLenN) (ps_for PassesOwn.leaving rfl (pi_range1 (by rfl) T.n_range (A_cons E_int A_nil)) (pg_name (i := 7) sc__law_refused.nd rfl (by first | exact Or.inl rfl | exact Or.inr rfl)) (p_one (p_if (T_not (T_val (E_call qt (takes_of rfl rfl rfl rfl) (ok__law_just T) (hr.mono (by decide)) (by rfl) T.g__law_just T.F__law_just.kp T.b__law_just (A_cons (E_call qt (takes_of rfl rfl rfl rfl) (ok__law_heard T) (hr.mono (by decide)) (by rfl) T.g__law_heard T.F__law_heard.kp T.b__law_heard (A_cons (e_var 7) (A_cons (e_var 6) (A_cons E_non A_nil)))) (A_cons (E_tup (A_cons E_str (A_cons (e_var 2) A_nil))) A_nil)))))
 (p_one (p_ret E_bl))
 p_nil))))))))
 (p_cons (p_for' [3] rfl (gN_ok) (ps_for PassesOwn.leaving rfl (i_seq (E_tup (A_cons E_non (A_cons E_int (A_cons E_str (A_cons E_bl A_nil)))))) (pg_name (i := 3) sc__law_refused.nd rfl (by first | exact Or.inl rfl | exact Or.inr rfl)) (p_one (p_forR1 [7] (gN_ok) (aLenC aLenN) (ps_for PassesOwn.leaving rfl (pi_range1 (by rfl) T.n_range (A_cons E_int A_nil)) (pg_name (i := 7) sc__law_refused.nd rfl (by first | exact Or.inl rfl | exact Or.inr rfl)) (p_one (p_if (T_not (T_val (E_call qt (takes_of rfl rfl rfl rfl) (ok__law_just T) (hr.mono (by decide)) (by rfl) T.g__law_just T.F__law_just.kp T.b__law_just (A_cons (E_call qt (takes_of rfl rfl rfl rfl) (ok__law_heard T) (hr.mono (by decide)) (by rfl) T.g__law_heard T.F__law_heard.kp T.b__law_heard (A_cons (e_var 7) (A_cons (e_var 3) (A_cons E_non A_nil)))) (A_cons (E_tup (A_cons E_str (A_cons (E_neg E_int) A_nil))) A_nil)))))
 (p_one (p_ret E_bl))
 p_nil)))))))
 (p_cons (p_set 4 sc__law_refused.nd (E_op op_addA add_ok (e_lcR1 (aLenC aLenN) (gN_ok) (pe_lc (own := [("k", 8)]) (g := (gName 8)) rfl sc__law_refused.nd (pi_range1 (by rfl) T.n_range (A_cons E_int A_nil)) (blkOk_by (N := ["told", "hand", "at", "wrong", "ten", "eleven", "lot", "which", "k"]) (sc := defScope st__law_refused) (by decide +kernel)) (fun _ _ _ _ _ => pg_name (i := 8) sc__law_refused.nd rfl (by first | exact Or.inl rfl | exact Or.inr rfl)) (fun _ _ _ _ _ => Q_yes) (fun _ _ _ _ _ => (E_tup (A_cons (E_op op_mulA mul_ok E_int (e_var 8)) (A_cons (E_op op_addA add_ok (E_op op_mulA mul_ok E_int (e_var 8)) E_int) A_nil)))))) (E_lst (A_cons (E_tup (A_cons E_int (A_cons E_int A_nil))) (A_cons (E_tup (A_cons E_int (A_cons E_int A_nil))) A_nil)))))
 (p_cons (p_set 5 sc__law_refused.nd (E_op op_addA add_ok (E_callTy call_tupF tuple_ok (by rfl) T.n_tuple (by decide +kernel) (A_cons (e_var 4) A_nil)) (E_tup (A_cons (E_tup (A_cons E_int (A_cons E_int A_nil))) A_nil))))
 (p_cons (p_if (PW.pt (W_and (T_cmp (op_eqA hr.units) eq_ok (E_call qt (takes_of rfl rfl rfl rfl) (ok__law_draw T) (hr.mono (by decide)) (by rfl) T.g__law_draw T.F__law_draw.kp T.b__law_draw (A_cons (e_var 1) (A_cons E_int A_nil))) E_int) (W_and1 (T_not (T_val (E_call qt (takes_of rfl rfl rfl rfl) (ok__law_just T) (hr.mono (by decide)) (by rfl) T.g__law_just T.F__law_just.kp T.b__law_just (A_cons (E_call qt (takes_of rfl rfl rfl rfl) (ok__law_heard T) (hr.mono (by decide)) (by rfl) T.g__law_heard T.F__law_heard.kp T.b__law_heard (A_cons E_int (A_cons (e_var 4) (A_cons E_non A_nil)))) (A_cons (E_tup (A_cons E_str (A_cons (E_tup (A_cons (E_callTy call_tupF tuple_ok (by rfl) T.n_tuple (by decide +kernel) (A_cons (e_lcR1 (aLenC aLenN) (gN_ok) (pe_lc (own := [("k", 8)]) (g := (gName 8)) rfl sc__law_refused.nd (pi_range1 (by rfl) T.n_range (A_cons E_int A_nil)) (blkOk_by (N := ["told", "hand", "at", "wrong", "ten", "eleven", "lot", "which", "k"]) (sc := defScope st__law_refused) (by decide +kernel)) (fun _ _ _ _ _ => pg_name (i := 8) sc__law_refused.nd rfl (by first | exact Or.inl rfl | exact Or.inr rfl)) (fun _ _ _ _ _ => Q_yes) (fun _ _ _ _ _ => (E_op op_addA add_ok (E_op op_mulA mul_ok E_int (e_var 8)) E_int)))) A_nil)) A_nil)) A_nil))) A_nil))))))))
 (p_one (p_ret E_bl))
 p_nil)
 (p_one (p_ret (E_call qt (takes_of rfl rfl rfl rfl) (ok__law_just T) (hr.mono (by decide)) (by rfl) T.g__law_just T.F__law_just.kp T.b__law_just (A_cons (E_tup (A_cons (E_call qt (takes_of rfl rfl rfl rfl) (ok__law_heard T) (hr.mono (by decide)) (by rfl) T.g__law_heard T.F__law_heard.kp T.b__law_heard (A_cons E_int (A_cons (e_var 5) (A_cons E_non A_nil)))) (A_cons (E_call qt (takes_of rfl rfl rfl rfl) (ok__law_heard T) (hr.mono (by decide)) (by rfl) T.g__law_heard T.F__law_heard.kp T.b__law_heard (A_cons E_int (A_cons (e_var 5) (A_cons E_non A_nil)))) A_nil))) (A_cons (E_tup (A_cons (E_tup (A_cons E_str (A_cons E_int A_nil))) (A_cons (E_tup (A_cons E_str (A_cons E_int A_nil))) A_nil))) A_nil))))))))))))
theorem ok__law_far (T : Txt K mg ad fd) : FnG P w K mg base (L2.CX P w) 17 (ad 29) (fd 29) ["hand"] (spM K (clOf ad) fldOf m__law_far) :=
  okM T.F__law_far sc__law_far rfl (fun cdv A outer sh H E ha F0 qt hr => (p_cons (p_asg [3, 4] (ps_asg (E_tup (A_cons (E_op op_addA add_ok E_int (E_call qt (takes_of rfl rfl rfl rfl) (ok__law_draw T) (hr.mono (by decide)) (by rfl) T.g__law_draw T.F__law_draw.kp T.b__law_draw (A_cons (e_var 0) (A_cons E_int A_nil)))) (A_cons (E_ix rfl (E_tup (A_cons E_int (A_cons E_int (A_cons (E_op op_pow pow_ok E_int E_int) A_nil)))) (E_call qt (takes_of rfl rfl rfl rfl) (ok__law_draw T) (hr.mono (by decide)) (by rfl) T.g__law_draw T.F__law_draw.kp T.b__law_draw (A_cons (e_var 0) (A_cons E_int A_nil)))) A_nil))) (pg_tup rfl (pgs_cons (pg_name (i := 3) sc__law_far.nd rfl (by first | exact Or.inl rfl | exact Or.inr rfl)) (pgs_cons (pg_name (i := 4) sc__law_far.nd rfl (by first | exact Or.inl rfl | exact Or.inr rfl)) pgs_nil)))) (gTup_ok (gCons_ok (gN_ok) (gCons_ok (gN_ok) gNil_ok))))
 (p_cons (p_set 1 sc__law_far.nd (E_op op_addA add_ok (e_lcR1 (aLenC aLenN) (gN_ok) (pe_lc (own := [("k", 5)]) (g := (gName 5)) rfl sc__law_far.nd (pi_range1 (by rfl) T.n_range (A_cons (e_var 3) A_nil)) (blkOk_by (N := ["hand", "told", "paper", "many", "step", "k"]) (sc := defScope st__law_far) (by decide +kernel)) (fun _ _ _ _ _ => pg_name (i := 5) sc__law_far.nd rfl (by first | exact Or.inl rfl | exact Or.inr rfl)) (fun _ _ _ _ _ => Q_yes) (fun _ _ _ _ _ => (E_tup (A_cons (E_op op_mulA mul_ok (e_var 4) (e_var 5)) (A_cons (E_op op_addA add_ok (E_op op_mulA mul_ok (e_var 4) (e_var 5)) E_int) A_nil)))))) (e_lcR1 (aLenC aLenN) (gN_ok) (pe_lc (own := [("k", 5)]) (g := (gName 5)) rfl sc__law_far.nd (pi_range1 (by rfl) T.n_range (A_cons (e_var 3) A_nil)) (blkOk_by (N := ["hand", "told", "paper", "many", "step", "k"]) (sc := defScope st__law_far) (by decide +kernel)) (fun _ _ _ _ _ => pg_name (i := 5) sc__law_far.nd rfl (by first | exact Or.inl rfl | exact Or.inr rfl)) (fun _ _ _ _ _ => Q_yes) (fun _ _ _ _ _ => (E_tup (A_cons (E_op op_addA add_ok (E_op op_mulA mul_ok (e_var 4) (e_var 5)) E_int) (A_cons (E_op op_addA add_ok (E_op op_mulA mul_ok (e_var 4) (e_var 5)) E_int) A_nil))))))))
 (p_cons (p_set 2 sc__law_far.nd (E_call qt (takes_of rfl rfl rfl rfl) (ok_fewest_hits T) (hr.mono (by decide)) (by rfl) T.g_fewest_hits T.F_fewest_hits.kp T.b_fewest_hits (A_cons (E_back rfl (e_var 1)) A_nil)))
 (p_one (p_ret (E_and (E_call qt (takes_of rfl rfl rfl rfl) (ok__law_just T) (hr.mono (by decide)) (by rfl) T.g__law_just T.F__law_just.kp T.b__law_just (A_cons (E_tup (A_cons (E_call qt (takes_of rfl rfl rfl rfl) (ok_hit_number T) (hr.mono (by decide)) (by rfl) T.g_hit_number T.F_hit_number.kp T.b_hit_number (A_cons (e_var 1) A_nil)) (A_cons (E_callB call_lenA len_ok (by rfl) T.n_len (by decide +kernel) (A_cons (E_ix rfl (e_var 2) E_int) A_nil)) (A_cons (E_callB call_lenA len_ok (by rfl) T.n_len (by decide +kernel) (A_cons (E_ix rfl (e_var 2) E_int) A_nil)) A_nil)))) (A_cons (E_tup (A_cons (e_var 3) (A_cons (e_var 3) (A_cons (e_var 3) A_nil)))) A_nil))) (E_one (E_call qt (takes_of rfl rfl rfl rfl) (ok__law_is_right T) (hr.mono (by decide)) (by rfl) T.g__law_is_right T.F__law_is_right.kp T.b__law_is_right (A_cons (E_back rfl (e_var 1)) (A_cons (e_var 2) A_nil)))))))))))
theorem ok_law (T : Txt K mg ad fd) (tru : ∀ row, GoodRow row → ∃ ρ h, s_law [.no, .dat tok, .no, .no] ⟨row, 0⟩ = .ok (.rt (.bool true)) ρ h) : FnG P w K mg base (L2.CX P w) 20 (ad 30) (fd 30) ["script"] (spLaw K) := by
  refine okG T.F_law sc_law (fun vs H Q E ⟨_, _, e, _⟩ => by rw [e]; rfl) fun cdv A outer sh H vs Q E qt hr h => ?_
  obtain ⟨a, ns, rfl, hS, hl, q⟩ := h
  refine ⟨_, pss_cons (ps_set (i := 1) sc_law.nd rfl (.inl rfl) (pe_callG qt (ok__law_hand T) (hr.mono (by decide)) (by rfl) T.g__law_hand T.F__law_hand.kp T.b__law_hand (fun σ => passAt (W := fun c d _ H => E c d H) (takes_of rfl rfl rfl rfl) σ) (pa_cons (pv 0) pa_nil)))
    (p_any (K := K) (cl := clOf ad) (fld := fldOf) (E := E) (s := s_law) (fun ha H0 F0 => (p_cons (p_set 2 sc_law.nd (E_call qt (takes_of rfl rfl rfl rfl) (ok__law_drawn T) (hr.mono (by decide)) (by rfl) T.g__law_drawn T.F__law_drawn.kp T.b__law_drawn (A_cons (e_var 1) A_nil)))
 (p_cons (p_if (PW.pt (W_or (T_not (T_val (E_call qt (takes_of rfl rfl rfl rfl) (ok__law_lots_right T) (hr.mono (by decide)) (by rfl) T.g__law_lots_right T.F__law_lots_right.kp T.b__law_lots_right (A_cons (e_var 2) (A_cons (e_var 1) A_nil))))) (W_or (T_not (T_val (E_call qt (takes_of rfl rfl rfl rfl) (ok__law_refused T) (hr.mono (by decide)) (by rfl) T.g__law_refused T.F__law_refused.kp T.b__law_refused (A_cons (e_var 2) (A_cons (e_var 1) A_nil))))) (W_or1 (T_not (T_val (E_call qt (takes_of rfl rfl rfl rfl) (ok__law_far T) (hr.mono (by decide)) (by rfl) T.g__law_far T.F__law_far.kp T.b__law_far (A_cons (e_var 1) A_nil))))))))
 (p_one (p_ret E_bl))
 p_nil)
 (p_cons (p_set 3 sc_law.nd (E_tup (A_cons (E_call qt (takes_of rfl rfl rfl rfl) (ok_hit_number T) (hr.mono (by decide)) (by rfl) T.g_hit_number T.F_hit_number.kp T.b_hit_number (A_cons (E_tup A_nil) A_nil)) (A_cons (E_call qt (takes_of rfl rfl rfl rfl) (ok_fewest_hits T) (hr.mono (by decide)) (by rfl) T.g_fewest_hits T.F_fewest_hits.kp T.b_fewest_hits (A_cons (E_lst A_nil) A_nil)) (A_cons (E_call qt (takes_of rfl rfl rfl rfl) (ok_least_hits T) (hr.mono (by decide)) (by rfl) T.g_least_hits T.F_least_hits.kp T.b_least_hits (A_cons (E_tup A_nil) A_nil)) (A_cons (E_call qt (takes_of rfl rfl rfl rfl) (ok_shows_hits T) (hr.mono (by decide)) (by rfl) T.g_shows_hits T.F_shows_hits.kp T.b_shows_hits (A_cons (E_tup A_nil) (A_cons (E_tup (A_cons (E_tup A_nil) (A_cons (E_tup A_nil) A_nil))) A_nil))) (A_cons (E_call qt (takes_of rfl rfl rfl rfl) (ok_shows_hits T) (hr.mono (by decide)) (by rfl) T.g_shows_hits T.F_shows_hits.kp T.b_shows_hits (A_cons (E_lst A_nil) (A_cons (E_tup (A_cons (E_tup (A_cons E_int A_nil)) (A_cons (E_tup (A_cons E_int A_nil)) A_nil))) A_nil))) (A_cons (E_call qt (takes_of rfl rfl rfl rfl) (ok_shows_hits T) (hr.mono (by decide)) (by rfl) T.g_shows_hits T.F_shows_hits.kp T.b_shows_hits (A_cons (E_tup A_nil) (A_cons (E_tup (A_cons (E_tup A_nil) (A_cons (E_tup (A_cons E_int A_nil)) A_nil))) A_nil))) A_nil))))))))
 (p_one (p_ret (E_call qt (takes_of rfl rfl rfl rfl) (ok__law_just T) (hr.mono (by decide)) (by rfl) T.g__law_just T.F__law_just.kp T.b__law_just (A_cons (e_var 3) (A_cons (E_tup (A_cons E_int (A_cons (E_tup (A_cons (E_tup A_nil) (A_cons (E_tup A_nil) A_nil))) (A_cons (E_tup (A_cons (E_tup A_nil) A_nil)) (A_cons E_bl (A_cons E_bl (A_cons E_bl A_nil))))))) A_nil)))))))))), ?_⟩
  refine ⟨.ref a, rfl, a, ns, rfl, hS, hl, fun H' d r row ne hd hr' gR lR => ?_⟩
  have nf : upd (fun _ => none : Hp) r (.lst (row.map V.int)) d = none := by
    rw [upd_ne (fun e => ne e.symm)]
  have sf : Same (upd (fun _ => none : Hp) r (.lst (row.map V.int))) H' := fun b o e => by
    by_cases hb : b = r
    · subst hb
      rw [upd_same] at e
      cases e
      exact hr'
    · rw [upd_ne hb] at e
      cases e
  refine ⟨some d, fun _ => none, upd (fun _ => none : Hp) r (.lst (row.map V.int)), upd (fun _ => none : Hp) r (.lst (row.map V.int)), ⟨row, 0⟩, [.no, .dat tok, .no, .no], ?_, ?_⟩
  · refine ⟨sf, fun b e => ?_, fun b o e => (by cases e), Same.refl _, fun b e => .inr rfl, rfl, fun i s e => ?_, fun i j xs ys b hij e1 e2 o1 o2 e3 => ?_⟩
    · cases e
      exact ⟨nf, r, ne, hd, upd_same⟩
    · rcases Nat.lt_or_ge i 4 with hi | hi
      · revert e
        revert i
        intro i hi e
        by_cases h1 : i = 1
        · subst h1
          cases e
          exact ⟨.ref d, rfl, .inr ⟨rfl, d, rfl, rfl⟩⟩
        · have m : s = .no := by
            have key : ∀ i < 4, i ≠ 1 → ([.no, .dat tok, .no, .no] : Rho)[i]? = some .no := by
              intro i hi h1
              match i, hi with
              | 0, _ => first | rfl | exact absurd rfl h1
              | 1, _ => first | rfl | exact absurd rfl h1
              | 2, _ => first | rfl | exact absurd rfl h1
              | 3, _ => first | rfl | exact absurd rfl h1
            rw [key i hi h1] at e
            exact (Option.some.inj e).symm
          subst m
          trivial
      · rw [List.getElem?_eq_none (by simpa using hi)] at e
        cases e
    · have m := List.mem_of_getElem? e1
      simp only [List.mem_cons, List.not_mem_nil, or_false] at m
      rcases m with rfl | rfl | rfl | rfl <;> cases o1
  · obtain ⟨ρ', h', e⟩ := tru row gR
    show postS _ _ _ (s_law [.no, .dat tok, .no, .no] ⟨row, 0⟩)
    rw [e]
    intro F2 H2 σ2 v _ _ rv
    cases rv.dp rfl
    exact q H2
end
end L2.AR.T
set_option Elab.async false
set_option linter.all false
set_option maxRecDepth 100000
set_option maxHeartbeats 8000000
namespace L2.AR.T
open PySem PySem.Spec PyProof.Rows
theorem cls_mk {K : PySem.W.Frag} {C : Addr} {nm q : Str} {N : Addr} {bs bm : List Value} {sn : List Str} {sub : List Value} {ab : Bool} {col : Option Bool} {dd : Option Addr} {m0 m1 m2 m3 m5 : Option Value}
    (xL : K.lookup C = some (excClassObj nm q C N bs bm true sn sub ab col dd m0 m1 m2 m3 m5 "ValueError.__new__")) (hb : PySem.HandSPX.refsVE bm = true)
    (sa : PySem.W.findIn K (.ref C) "__setattr__" = some (some (.builtin "object.__setattr__"))) (eC : PySem.W.subIn K (.ref C) (.type "BaseException") = some true) (tC : PySem.W.typeIn K (.ref C) = some (.type "type")) (kC : PySem.W.keepIn K (.ref C) = true) :
    OexC K C := ⟨⟨nm, q, N, bs, bm, sn, sub, ab, col, dd, m0, m1, m2, m3, m5, xL, hb⟩, sa, eC, tC, kC⟩
theorem fun_ex {K : PySem.W.Frag} {x qual : Str} {st : Stmt} {f : Addr} {oc : Value} {od an : Option Addr} {osl : Array (Option Value)} {kV doc pm cdv ct : Value}
    (l : K.lookup f = some ⟨oc, od, .func (PySem.W.fnOf x qual (defArgs st) (defBody st) (defScope st) .none kV doc pm an cdv ct), osl⟩)
    (c : PySem.W.codeIn K cdv qual = true) (k : PySem.W.keepIn K (.ref f) = true) : ∃ fd, Fun K x qual st f fd := ⟨_, fun_mk l c k⟩
theorem all_mk {P : Program} {w : World} {K : PySem.W.Frag} {h : Heap} {mg : Str → Option Value} {fa f0 f1 f2 f3 f4 f5 f6 f7 f8 f9 f10 f11 f12 f13 f14 f15 f16 f17 f18 f19 f20 f21 f22 f23 f24 f25 f26 f27 f28 f29 f30 f31 f32 C0 C1 C2 : Addr} {tk_LOTS_LIMIT : Tok} (tru : ∀ row, GoodRow row → ∃ ρ h, s_law [.no, .dat tok, .no, .no] ⟨row, 0⟩ = .ok (.rt (.bool true)) ρ h)
    (X : K.In h) (G : h.Ns mainGlobals mg) (hfa : mg "law" = some (.ref fa))
    (a_told_plainly : PySem.W.nsIn K mainGlobals "told_plainly" = some (some (.ref f0)))
    (F_told_plainly : ∃ fd, Fun K "told_plainly" "told_plainly" st_told_plainly f0 fd)
    (a_is_int : PySem.W.nsIn K mainGlobals "is_int" = some (some (.ref f1)))
    (F_is_int : ∃ fd, Fun K "is_int" "is_int" st_is_int f1 fd)
    (a_plain_form : PySem.W.nsIn K mainGlobals "plain_form" = some (some (.ref f2)))
    (F_plain_form : ∃ fd, Fun K "plain_form" "plain_form" st_plain_form f2 fd)
    (a_told_stretches : PySem.W.nsIn K mainGlobals "told_stretches" = some (some (.ref f3)))
    (F_told_stretches : ∃ fd, Fun K "told_stretches" "told_stretches" st_told_stretches f3 fd)
    (a_greedy_hits : PySem.W.nsIn K mainGlobals "greedy_hits" = some (some (.ref f4)))
    (F_greedy_hits : ∃ fd, Fun K "greedy_hits" "greedy_hits" st_greedy_hits f4 fd)
    (a_hit_number : PySem.W.nsIn K mainGlobals "hit_number" = some (some (.ref f5)))
    (F_hit_number : ∃ fd, Fun K "hit_number" "hit_number" st_hit_number f5 fd)
    (a_fewest_hits : PySem.W.nsIn K mainGlobals "fewest_hits" = some (some (.ref f6)))
    (F_fewest_hits : ∃ fd, Fun K "fewest_hits" "fewest_hits" st_fewest_hits f6 fd)
    (a_is_hit : PySem.W.nsIn K mainGlobals "is_hit" = some (some (.ref f7)))
    (F_is_hit : ∃ fd, Fun K "is_hit" "is_hit" st_is_hit f7 fd)
    (a_lots_by_length : PySem.W.nsIn K mainGlobals "lots_by_length" = some (some (.ref f8)))
    (F_lots_by_length : ∃ fd, Fun K "lots_by_length" "lots_by_length" st_lots_by_length f8 fd)
    (a_holds_one : PySem.W.nsIn K mainGlobals "holds_one" = some (some (.ref f9)))
    (F_holds_one : ∃ fd, Fun K "holds_one" "holds_one" st_holds_one f9 fd)
    (a_least_hits : PySem.W.nsIn K mainGlobals "least_hits" = some (some (.ref f10)))
    (F_least_hits : ∃ fd, Fun K "least_hits" "least_hits" st_least_hits f10 fd)
    (a_are_unlike_integers : PySem.W.nsIn K mainGlobals "are_unlike_integers" = some (some (.ref f11)))
    (F_are_unlike_integers : ∃ fd, Fun K "are_unlike_integers" "are_unlike_integers" st_are_unlike_integers f11 fd)
    (a_shows_hits : PySem.W.nsIn K mainGlobals "shows_hits" = some (some (.ref f12)))
    (F_shows_hits : ∃ fd, Fun K "shows_hits" "shows_hits" st_shows_hits f12 fd)
    (a__law_hand : PySem.W.nsIn K mainGlobals "_law_hand" = some (some (.ref f13)))
    (F__law_hand : ∃ fd, Fun K "_law_hand" "_law_hand" st__law_hand f13 fd)
    (a__law_draw : PySem.W.nsIn K mainGlobals "_law_draw" = some (some (.ref f14)))
    (F__law_draw : ∃ fd, Fun K "_law_draw" "_law_draw" st__law_draw f14 fd)
    (a__law_just : PySem.W.nsIn K mainGlobals "_law_just" = some (some (.ref f15)))
    (F__law_just : ∃ fd, Fun K "_law_just" "_law_just" st__law_just f15 fd)
    (a__law_drawn : PySem.W.nsIn K mainGlobals "_law_drawn" = some (some (.ref f16)))
    (F__law_drawn : ∃ fd, Fun K "_law_drawn" "_law_drawn" st__law_drawn f16 fd)
    (a__law_is_hit : PySem.W.nsIn K mainGlobals "_law_is_hit" = some (some (.ref f17)))
    (F__law_is_hit : ∃ fd, Fun K "_law_is_hit" "_law_is_hit" st__law_is_hit f17 fd)
    (a__law_lots : PySem.W.nsIn K mainGlobals "_law_lots" = some (some (.ref f18)))
    (F__law_lots : ∃ fd, Fun K "_law_lots" "_law_lots" st__law_lots f18 fd)
    (a__law_least : PySem.W.nsIn K mainGlobals "_law_least" = some (some (.ref f19)))
    (F__law_least : ∃ fd, Fun K "_law_least" "_law_least" st__law_least f19 fd)
    (a__law_are_apart : PySem.W.nsIn K mainGlobals "_law_are_apart" = some (some (.ref f20)))
    (F__law_are_apart : ∃ fd, Fun K "_law_are_apart" "_law_are_apart" st__law_are_apart f20 fd)
    (a__law_most_apart : PySem.W.nsIn K mainGlobals "_law_most_apart" = some (some (.ref f21)))
    (F__law_most_apart : ∃ fd, Fun K "_law_most_apart" "_law_most_apart" st__law_most_apart f21 fd)
    (a__law_whole : PySem.W.nsIn K mainGlobals "_law_whole" = some (some (.ref f22)))
    (F__law_whole : ∃ fd, Fun K "_law_whole" "_law_whole" st__law_whole f22 fd)
    (a__law_is_right : PySem.W.nsIn K mainGlobals "_law_is_right" = some (some (.ref f23)))
    (F__law_is_right : ∃ fd, Fun K "_law_is_right" "_law_is_right" st__law_is_right f23 fd)
    (a__law_heard : PySem.W.nsIn K mainGlobals "_law_heard" = some (some (.ref f24)))
    (F__law_heard : ∃ fd, Fun K "_law_heard" "_law_heard" st__law_heard f24 fd)
    (a__law_said : PySem.W.nsIn K mainGlobals "_law_said" = some (some (.ref f25)))
    (F__law_said : ∃ fd, Fun K "_law_said" "_law_said" st__law_said f25 fd)
    (a__law_papers_right : PySem.W.nsIn K mainGlobals "_law_papers_right" = some (some (.ref f26)))
    (F__law_papers_right : ∃ fd, Fun K "_law_papers_right" "_law_papers_right" st__law_papers_right f26 fd)
    (a__law_lots_right : PySem.W.nsIn K mainGlobals "_law_lots_right" = some (some (.ref f27)))
    (F__law_lots_right : ∃ fd, Fun K "_law_lots_right" "_law_lots_right" st__law_lots_right f27 fd)
    (a__law_refused : PySem.W.nsIn K mainGlobals "_law_refused" = some (some (.ref f28)))
    (F__law_refused : ∃ fd, Fun K "_law_refused" "_law_refused" st__law_refused f28 fd)
    (a__law_far : PySem.W.nsIn K mainGlobals "_law_far" = some (some (.ref f29)))
    (F__law_far : ∃ fd, Fun K "_law_far" "_law_far" st__law_far f29 fd)
    (a_law : PySem.W.nsIn K mainGlobals "law" = some (some (.ref f30)))
    (F_law : ∃ fd, Fun K "law" "law" st_law f30 fd)
    (aC_BadLot : PySem.W.nsIn K mainGlobals "BadLot" = some (some (.ref C0)))
    (aC_TooMany : PySem.W.nsIn K mainGlobals "TooMany" = some (some (.ref C1)))
    (aC_ClockError : PySem.W.nsIn K mainGlobals "ClockError" = some (some (.ref C2)))
    (ox_BadLot : OexC K C0)
    (ic_BadLot : PySem.W.findIn K (.ref C0) "__init__" = some (some (.ref f31)))
    (ti_BadLot : PySem.W.typeIn K (.ref f31) = some (.type "function"))
    (FI_BadLot : ∃ fd, Fun K "__init__" "BadLot.__init__" st_init_BadLot f31 fd)
    (no_BadLot : PySem.W.findIn K (.ref C0) "at" = some none)
    (ga_BadLot : PySem.W.findIn K (.ref C0) "__getattribute__" = some (some (.builtin "BaseException.__getattribute__")))
    (gg_BadLot : PySem.W.findIn K (.ref C0) "__getattr__" = some none)
    (hd_BadLot : PySem.W.hasDictIn K C0 = true)
    (ha_BadLot : PySem.W.findIn K (.ref C0) "__class__" = some (some (.builtin "object.__class__")))
    (hm_BadLot : PySem.W.mroIn K C0 (.type "object") = some true)
    (ox_TooMany : OexC K C1)
    (ic_TooMany : PySem.W.findIn K (.ref C1) "__init__" = some (some (.ref f32)))
    (ti_TooMany : PySem.W.typeIn K (.ref f32) = some (.type "function"))
    (FI_TooMany : ∃ fd, Fun K "__init__" "TooMany.__init__" st_init_TooMany f32 fd)
    (no_TooMany : PySem.W.findIn K (.ref C1) "limit" = some none)
    (ga_TooMany : PySem.W.findIn K (.ref C1) "__getattribute__" = some (some (.builtin "BaseException.__getattribute__")))
    (gg_TooMany : PySem.W.findIn K (.ref C1) "__getattr__" = some none)
    (hd_TooMany : PySem.W.hasDictIn K C1 = true)
    (ha_TooMany : PySem.W.findIn K (.ref C1) "__class__" = some (some (.builtin "object.__class__")))
    (hm_TooMany : PySem.W.mroIn K C1 (.type "object") = some true)
    (hn : PySem.W.specialIn K (.builtin "object.__class__") "__get__" = some (some (.builtin "getset_descriptor.__get__")))
    (ht : PySem.W.takesIn K (.builtin "object.__class__") = some true)
    (eC_ClockError : PySem.W.subIn K (.ref C2) (.type "BaseException") = some true)
    (hd_ClockError : PySem.W.hasDictIn K C2 = true)
    (tC_ClockError : PySem.W.typeIn K (.ref C2) = some (.type "type"))
    (sub_0_0 : PySem.W.subIn K (.ref C0) (.ref C0) = some true)
    (kit_0_0 : PySem.W.kitOne K (.ref C0) (.ref C0) = some true)
    (sub_0_1 : PySem.W.subIn K (.ref C0) (.ref C1) = some false)
    (kit_0_1 : PySem.W.kitOne K (.ref C0) (.ref C1) = some false)
    (sub_0_2 : PySem.W.subIn K (.ref C0) (.ref C2) = some true)
    (kit_0_2 : PySem.W.kitOne K (.ref C0) (.ref C2) = some true)
    (sub_1_0 : PySem.W.subIn K (.ref C1) (.ref C0) = some false)
    (kit_1_0 : PySem.W.kitOne K (.ref C1) (.ref C0) = some false)
    (sub_1_1 : PySem.W.subIn K (.ref C1) (.ref C1) = some true)
    (kit_1_1 : PySem.W.kitOne K (.ref C1) (.ref C1) = some true)
    (sub_1_2 : PySem.W.subIn K (.ref C1) (.ref C2) = some true)
    (kit_1_2 : PySem.W.kitOne K (.ref C1) (.ref C2) = some true)
    (n_all : PySem.W.nsIn K mainGlobals "all" = some none)
    (n_any : PySem.W.nsIn K mainGlobals "any" = some none)
    (n_bool : PySem.W.nsIn K mainGlobals "bool" = some none)
    (n_int : PySem.W.nsIn K mainGlobals "int" = some none)
    (n_isinstance : PySem.W.nsIn K mainGlobals "isinstance" = some none)
    (n_len : PySem.W.nsIn K mainGlobals "len" = some none)
    (n_list : PySem.W.nsIn K mainGlobals "list" = some none)
    (n_min : PySem.W.nsIn K mainGlobals "min" = some none)
    (n_range : PySem.W.nsIn K mainGlobals "range" = some none)
    (n_repr : PySem.W.nsIn K mainGlobals "repr" = some none)
    (n_set : PySem.W.nsIn K mainGlobals "set" = some none)
    (n_sorted : PySem.W.nsIn K mainGlobals "sorted" = some none)
    (n_tuple : PySem.W.nsIn K mainGlobals "tuple" = some none)
    (k_LOTS_LIMIT : PySem.W.nsIn K mainGlobals "LOTS_LIMIT" = some (some (.int 1024 tk_LOTS_LIMIT))) :
    ∃ fd : FuncData, (∀ (s : Shared) (u : Value), BindsTo s fd ⟨[u], []⟩ [("script", u)]) ∧ ∀ base : Heap, K.In base → base.Ns mainGlobals mg → FnG P w K mg base (L2.CX P w) 20 fa fd ["script"] (spLaw K) := by
  have e := hfa.symm.trans (PySem.W.mg_of X G a_law)
  cases e
  obtain ⟨d0, F_told_plainly⟩ := F_told_plainly
  obtain ⟨d1, F_is_int⟩ := F_is_int
  obtain ⟨d2, F_plain_form⟩ := F_plain_form
  obtain ⟨d3, F_told_stretches⟩ := F_told_stretches
  obtain ⟨d4, F_greedy_hits⟩ := F_greedy_hits
  obtain ⟨d5, F_hit_number⟩ := F_hit_number
  obtain ⟨d6, F_fewest_hits⟩ := F_fewest_hits
  obtain ⟨d7, F_is_hit⟩ := F_is_hit
  obtain ⟨d8, F_lots_by_length⟩ := F_lots_by_length
  obtain ⟨d9, F_holds_one⟩ := F_holds_one
  obtain ⟨d10, F_least_hits⟩ := F_least_hits
  obtain ⟨d11, F_are_unlike_integers⟩ := F_are_unlike_integers
  obtain ⟨d12, F_shows_hits⟩ := F_shows_hits
  obtain ⟨d13, F__law_hand⟩ := F__law_hand
  obtain ⟨d14, F__law_draw⟩ := F__law_draw
  obtain ⟨d15, F__law_just⟩ := F__law_just
  obtain ⟨d16, F__law_drawn⟩ := F__law_drawn
  obtain ⟨d17, F__law_is_hit⟩ := F__law_is_hit
  obtain ⟨d18, F__law_lots⟩ := F__law_lots
  obtain ⟨d19, F__law_least⟩ := F__law_least
  obtain ⟨d20, F__law_are_apart⟩ := F__law_are_apart
  obtain ⟨d21, F__law_most_apart⟩ := F__law_most_apart
  obtain ⟨d22, F__law_whole⟩ := F__law_whole
  obtain ⟨d23, F__law_is_right⟩ := F__law_is_right
  obtain ⟨d24, F__law_heard⟩ := F__law_heard
  obtain ⟨d25, F__law_said⟩ := F__law_said
  obtain ⟨d26, F__law_papers_right⟩ := F__law_papers_right
  obtain ⟨d27, F__law_lots_right⟩ := F__law_lots_right
  obtain ⟨d28, F__law_refused⟩ := F__law_refused
  obtain ⟨d29, F__law_far⟩ := F__law_far
  obtain ⟨d30, F_law⟩ := F_law
  obtain ⟨d31, FI_BadLot⟩ := FI_BadLot
  obtain ⟨d32, FI_TooMany⟩ := FI_TooMany
  let ad : Nat → Addr := fun n => ([f0, f1, f2, f3, f4, f5, f6, f7, f8, f9, f10, f11, f12, f13, f14, f15, f16, f17, f18, f19, f20, f21, f22, f23, f24, f25, f26, f27, f28, f29, fa, f31, f32, C0, C1, C2] : List Addr).getD n fa
  let fd : Nat → FuncData := fun n => ([d0, d1, d2, d3, d4, d5, d6, d7, d8, d9, d10, d11, d12, d13, d14, d15, d16, d17, d18, d19, d20, d21, d22, d23, d24, d25, d26, d27, d28, d29, d30, d31, d32] : List FuncData).getD n d0
  have b_told_plainly : Binds K d0 ["thing"] [] := F_told_plainly.binds fun _ _ _ _ _ _ us hl => match us, hl with | [_], _ => rfl
  have b_is_int : Binds K d1 ["x"] [] := F_is_int.binds fun _ _ _ _ _ _ us hl => match us, hl with | [_], _ => rfl
  have b_plain_form : Binds K d2 ["x"] [] := F_plain_form.binds fun _ _ _ _ _ _ us hl => match us, hl with | [_], _ => rfl
  have b_told_stretches : Binds K d3 ["stretches"] [] := F_told_stretches.binds fun _ _ _ _ _ _ us hl => match us, hl with | [_], _ => rfl
  have b_greedy_hits : Binds K d4 ["told"] [] := F_greedy_hits.binds fun _ _ _ _ _ _ us hl => match us, hl with | [_], _ => rfl
  have b_hit_number : Binds K d5 ["stretches"] [] := F_hit_number.binds fun _ _ _ _ _ _ us hl => match us, hl with | [_], _ => rfl
  have b_fewest_hits : Binds K d6 ["stretches"] [] := F_fewest_hits.binds fun _ _ _ _ _ _ us hl => match us, hl with | [_], _ => rfl
  have b_is_hit : Binds K d7 ["pair", "hits"] [] := F_is_hit.binds fun _ _ _ _ _ _ us hl => match us, hl with | [_, _], _ => rfl
  have b_lots_by_length : Binds K d8 ["things"] [] := F_lots_by_length.binds fun _ _ _ _ _ _ us hl => match us, hl with | [_], _ => rfl
  have b_holds_one : Binds K d9 ["lot", "others"] [] := F_holds_one.binds fun _ _ _ _ _ _ us hl => match us, hl with | [_, _], _ => rfl
  have b_least_hits : Binds K d10 ["stretches"] [] := F_least_hits.binds fun _ _ _ _ _ _ us hl => match us, hl with | [_], _ => rfl
  have b_are_unlike_integers : Binds K d11 ["x"] [] := F_are_unlike_integers.binds fun _ _ _ _ _ _ us hl => match us, hl with | [_], _ => rfl
  have b_shows_hits : Binds K d12 ["stretches", "paper"] [] := F_shows_hits.binds fun _ _ _ _ _ _ us hl => match us, hl with | [_, _], _ => rfl
  have b__law_hand : Binds K d13 ["script"] [] := F__law_hand.binds fun _ _ _ _ _ _ us hl => match us, hl with | [_], _ => rfl
  have b__law_draw : Binds K d14 ["hand", "many"] [] := F__law_draw.binds fun _ _ _ _ _ _ us hl => match us, hl with | [_, _], _ => rfl
  have b__law_just : Binds K d15 ["told", "due"] [] := F__law_just.binds fun _ _ _ _ _ _ us hl => match us, hl with | [_, _], _ => rfl
  have b__law_drawn : Binds K d16 ["hand"] [] := F__law_drawn.binds fun _ _ _ _ _ _ us hl => match us, hl with | [_], _ => rfl
  have b__law_is_hit : Binds K d17 ["pair", "hits"] [] := F__law_is_hit.binds fun _ _ _ _ _ _ us hl => match us, hl with | [_, _], _ => rfl
  have b__law_lots : Binds K d18 ["things"] [] := F__law_lots.binds fun _ _ _ _ _ _ us hl => match us, hl with | [_], _ => rfl
  have b__law_least : Binds K d19 ["told"] [] := F__law_least.binds fun _ _ _ _ _ _ us hl => match us, hl with | [_], _ => rfl
  have b__law_are_apart : Binds K d20 ["told", "numbers"] [] := F__law_are_apart.binds fun _ _ _ _ _ _ us hl => match us, hl with | [_, _], _ => rfl
  have b__law_most_apart : Binds K d21 ["told"] [] := F__law_most_apart.binds fun _ _ _ _ _ _ us hl => match us, hl with | [_], _ => rfl
  have b__law_whole : Binds K d22 ["x"] [] := F__law_whole.binds fun _ _ _ _ _ _ us hl => match us, hl with | [_], _ => rfl
  have b__law_is_right : Binds K d23 ["told", "paper"] [] := F__law_is_right.binds fun _ _ _ _ _ _ us hl => match us, hl with | [_, _], _ => rfl
  have b__law_heard : Binds K d24 ["which", "x", "paper"] [] := F__law_heard.binds fun _ _ _ _ _ _ us hl => match us, hl with | [_, _, _], _ => rfl
  have b__law_said : Binds K d25 ["told", "paper"] [] := F__law_said.binds fun _ _ _ _ _ _ us hl => match us, hl with | [_, _], _ => rfl
  have b__law_papers_right : Binds K d26 ["told", "hits", "apart", "hand"] [] := F__law_papers_right.binds fun _ _ _ _ _ _ us hl => match us, hl with | [_, _, _, _], _ => rfl
  have b__law_lots_right : Binds K d27 ["told", "hand"] [] := F__law_lots_right.binds fun _ _ _ _ _ _ us hl => match us, hl with | [_, _], _ => rfl
  have b__law_refused : Binds K d28 ["told", "hand"] [] := F__law_refused.binds fun _ _ _ _ _ _ us hl => match us, hl with | [_, _], _ => rfl
  have b__law_far : Binds K d29 ["hand"] [] := F__law_far.binds fun _ _ _ _ _ _ us hl => match us, hl with | [_], _ => rfl
  have b_law : Binds K d30 ["script"] [] := F_law.binds fun _ _ _ _ _ _ us hl => match us, hl with | [_], _ => rfl
  have b_init_BadLot : Binds K d31 ["self", "at"] [] := FI_BadLot.binds fun _ _ _ _ _ _ us hl => match us, hl with | [_, _], _ => rfl
  have b_init_TooMany : Binds K d32 ["self", "limit"] [] := FI_TooMany.binds fun _ _ _ _ _ _ us hl => match us, hl with | [_, _], _ => rfl
  have T : Txt K mg ad fd := {
    F_told_plainly := F_told_plainly,
    g_told_plainly := PySem.W.mg_of X G a_told_plainly,
    b_told_plainly := b_told_plainly,
    F_is_int := F_is_int,
    g_is_int := PySem.W.mg_of X G a_is_int,
    b_is_int := b_is_int,
    F_plain_form := F_plain_form,
    g_plain_form := PySem.W.mg_of X G a_plain_form,
    b_plain_form := b_plain_form,
    F_told_stretches := F_told_stretches,
    g_told_stretches := PySem.W.mg_of X G a_told_stretches,
    b_told_stretches := b_told_stretches,
    F_greedy_hits := F_greedy_hits,
    g_greedy_hits := PySem.W.mg_of X G a_greedy_hits,
    b_greedy_hits := b_greedy_hits,
    F_hit_number := F_hit_number,
    g_hit_number := PySem.W.mg_of X G a_hit_number,
    b_hit_number := b_hit_number,
    F_fewest_hits := F_fewest_hits,
    g_fewest_hits := PySem.W.mg_of X G a_fewest_hits,
    b_fewest_hits := b_fewest_hits,
    F_is_hit := F_is_hit,
    g_is_hit := PySem.W.mg_of X G a_is_hit,
    b_is_hit := b_is_hit,
    F_lots_by_length := F_lots_by_length,
    g_lots_by_length := PySem.W.mg_of X G a_lots_by_length,
    b_lots_by_length := b_lots_by_length,
    F_holds_one := F_holds_one,
    g_holds_one := PySem.W.mg_of X G a_holds_one,
    b_holds_one := b_holds_one,
    F_least_hits := F_least_hits,
    g_least_hits := PySem.W.mg_of X G a_least_hits,
    b_least_hits := b_least_hits,
    F_are_unlike_integers := F_are_unlike_integers,
    g_are_unlike_integers := PySem.W.mg_of X G a_are_unlike_integers,
    b_are_unlike_integers := b_are_unlike_integers,
    F_shows_hits := F_shows_hits,
    g_shows_hits := PySem.W.mg_of X G a_shows_hits,
    b_shows_hits := b_shows_hits,
    F__law_hand := F__law_hand,
    g__law_hand := PySem.W.mg_of X G a__law_hand,
    b__law_hand := b__law_hand,
    F__law_draw := F__law_draw,
    g__law_draw := PySem.W.mg_of X G a__law_draw,
    b__law_draw := b__law_draw,
    F__law_just := F__law_just,
    g__law_just := PySem.W.mg_of X G a__law_just,
    b__law_just := b__law_just,
    F__law_drawn := F__law_drawn,
    g__law_drawn := PySem.W.mg_of X G a__law_drawn,
    b__law_drawn := b__law_drawn,
    F__law_is_hit := F__law_is_hit,
    g__law_is_hit := PySem.W.mg_of X G a__law_is_hit,
    b__law_is_hit := b__law_is_hit,
    F__law_lots := F__law_lots,
    g__law_lots := PySem.W.mg_of X G a__law_lots,
    b__law_lots := b__law_lots,
    F__law_least := F__law_least,
    g__law_least := PySem.W.mg_of X G a__law_least,
    b__law_least := b__law_least,
    F__law_are_apart := F__law_are_apart,
    g__law_are_apart := PySem.W.mg_of X G a__law_are_apart,
    b__law_are_apart := b__law_are_apart,
    F__law_most_apart := F__law_most_apart,
    g__law_most_apart := PySem.W.mg_of X G a__law_most_apart,
    b__law_most_apart := b__law_most_apart,
    F__law_whole := F__law_whole,
    g__law_whole := PySem.W.mg_of X G a__law_whole,
    b__law_whole := b__law_whole,
    F__law_is_right := F__law_is_right,
    g__law_is_right := PySem.W.mg_of X G a__law_is_right,
    b__law_is_right := b__law_is_right,
    F__law_heard := F__law_heard,
    g__law_heard := PySem.W.mg_of X G a__law_heard,
    b__law_heard := b__law_heard,
    F__law_said := F__law_said,
    g__law_said := PySem.W.mg_of X G a__law_said,
    b__law_said := b__law_said,
    F__law_papers_right := F__law_papers_right,
    g__law_papers_right := PySem.W.mg_of X G a__law_papers_right,
    b__law_papers_right := b__law_papers_right,
    F__law_lots_right := F__law_lots_right,
    g__law_lots_right := PySem.W.mg_of X G a__law_lots_right,
    b__law_lots_right := b__law_lots_right,
    F__law_refused := F__law_refused,
    g__law_refused := PySem.W.mg_of X G a__law_refused,
    b__law_refused := b__law_refused,
    F__law_far := F__law_far,
    g__law_far := PySem.W.mg_of X G a__law_far,
    b__law_far := b__law_far,
    F_law := F_law,
    g_law := PySem.W.mg_of X G a_law,
    b_law := b_law,
    F_init_BadLot := FI_BadLot,
    b_init_BadLot := b_init_BadLot,
    ox_BadLot := ox_BadLot,
    ic_BadLot := ic_BadLot,
    ti_BadLot := ti_BadLot,
    no_BadLot := no_BadLot,
    xf_BadLot := ⟨ga_BadLot, gg_BadLot, ox_BadLot.exC, hd_BadLot⟩,
    F_init_TooMany := FI_TooMany,
    b_init_TooMany := b_init_TooMany,
    ox_TooMany := ox_TooMany,
    ic_TooMany := ic_TooMany,
    ti_TooMany := ti_TooMany,
    no_TooMany := no_TooMany,
    xf_TooMany := ⟨ga_TooMany, gg_TooMany, ox_TooMany.exC, hd_TooMany⟩,
    n_all := PySem.W.mg_none_of X G n_all,
    n_any := PySem.W.mg_none_of X G n_any,
    n_bool := PySem.W.mg_none_of X G n_bool,
    n_int := PySem.W.mg_none_of X G n_int,
    n_isinstance := PySem.W.mg_none_of X G n_isinstance,
    n_len := PySem.W.mg_none_of X G n_len,
    n_list := PySem.W.mg_none_of X G n_list,
    n_min := PySem.W.mg_none_of X G n_min,
    n_range := PySem.W.mg_none_of X G n_range,
    n_repr := PySem.W.mg_none_of X G n_repr,
    n_set := PySem.W.mg_none_of X G n_set,
    n_sorted := PySem.W.mg_none_of X G n_sorted,
    n_tuple := PySem.W.mg_none_of X G n_tuple,
    g_LOTS_LIMIT := ⟨_, PySem.W.mg_of X G k_LOTS_LIMIT⟩,
    g_BadLot := PySem.W.mg_of X G aC_BadLot,
    g_TooMany := PySem.W.mg_of X G aC_TooMany,
    g_ClockError := PySem.W.mg_of X G aC_ClockError,
    ec := fun c hc => match c, hc with | 0, _ => ⟨ga_BadLot, gg_BadLot, ox_BadLot.exC, hd_BadLot, ha_BadLot, hn, ht, hm_BadLot⟩ | 1, _ => ⟨ga_TooMany, gg_TooMany, ox_TooMany.exC, hd_TooMany, ha_TooMany, hn, ht, hm_TooMany⟩,
    exm := fun c j hc hj => match c, j, hc, hj with | 0, 0, _, _ => PySem.W.exm_ref ox_BadLot.exC hd_BadLot ox_BadLot.tyC sub_0_0 | 0, 1, _, _ => PySem.W.exm_ref ox_TooMany.exC hd_TooMany ox_TooMany.tyC sub_0_1 | 0, 2, _, _ => PySem.W.exm_ref eC_ClockError hd_ClockError tC_ClockError sub_0_2 | 1, 0, _, _ => PySem.W.exm_ref ox_BadLot.exC hd_BadLot ox_BadLot.tyC sub_1_0 | 1, 1, _, _ => PySem.W.exm_ref ox_TooMany.exC hd_TooMany ox_TooMany.tyC sub_1_1 | 1, 2, _, _ => PySem.W.exm_ref eC_ClockError hd_ClockError tC_ClockError sub_1_2,
    ko := fun c j hc hj => match c, j, hc, hj with | 0, 0, _, _ => kit_0_0 | 0, 1, _, _ => kit_0_1 | 0, 2, _, _ => kit_0_2 | 1, 0, _, _ => kit_1_0 | 1, 1, _, _ => kit_1_1 | 1, 2, _, _ => kit_1_2 }
  refine ⟨d30, ?_, fun base _ _ => ok_law T tru⟩
  intro s u
  obtain ⟨oc, od, kV, doc, pm, an, cdv, ct, osl, rfl, lk, hcd⟩ := F_law.ex
  exact .of_eq rfl
end L2.AR.T
set_option Elab.async false
set_option linter.all false
set_option maxRecDepth 100000
set_option maxHeartbeats 4000000
/-! stretches: the plain law, no program in sight -/
namespace L2.AR.T
abbrev Pt := Int × Int
def inP (p : Pt) (h : Int) : Bool := decide (p.1 ≤ h) && decide (h ≤ p.2)
def hitP (p : Pt) (hs : List Int) : Bool := hs.any (inP p)
def hitAll (told : List Pt) (hs : List Int) : Bool := told.all fun p => hitP p hs
def OkP (told : List Pt) : Prop := ∀ p ∈ told, p.1 ≤ p.2
def Apart (p q : Pt) : Prop := p.2 < q.1 ∨ q.2 < p.1
theorem Apart.symm {p q : Pt} (h : Apart p q) : Apart q p := Or.symm h
theorem hitP_iff {p : Pt} {hs : List Int} : hitP p hs = true ↔ ∃ h ∈ hs, p.1 ≤ h ∧ h ≤ p.2 := by simp [hitP, inP]
theorem hitAll_iff {told : List Pt} {hs : List Int} : hitAll told hs = true ↔ ∀ p ∈ told, ∃ h ∈ hs, p.1 ≤ h ∧ h ≤ p.2 := by simp [hitAll, hitP, inP]
/-! ### a family of stretches apart is no longer than a set that hits it -/
theorem one_in {h : Int} : ∀ {ps : List Pt}, ps.Pairwise Apart → (ps.filter fun p => inP p h).length ≤ 1
  | [], _ => by simp
  | p :: ps, d => by
    rw [List.pairwise_cons] at d
    by_cases c : inP p h = true
    · rw [List.filter_cons_of_pos (p := fun p => inP p h) c]
      have : (ps.filter fun p => inP p h) = [] := by
        rw [List.filter_eq_nil_iff]
        intro q mq iq
        have ap := d.1 q mq
        simp only [inP, Bool.and_eq_true, decide_eq_true_eq] at c iq
        unfold Apart at ap
        omega
      rw [this]
      simp
    · rw [List.filter_cons_of_neg (p := fun p => inP p h) c]
      exact one_in d.2
theorem filt_len {α : Type} (f : α → Bool) : ∀ l : List α, l.length = (l.filter f).length + (l.filter fun x => !f x).length
  | [] => rfl
  | x :: l => by
    have := filt_len f l
    cases e : f x <;> simp [e] <;> omega
theorem dual : ∀ {hs : List Int} {ps : List Pt}, (∀ p ∈ ps, hitP p hs = true) → ps.Pairwise Apart → ps.length ≤ hs.length
  | [], ps, h, _ => by
    cases ps with
    | nil => simp
    | cons p ps => exact absurd (h p (by simp)) (by simp [hitP])
  | x :: hs, ps, h, d => by
    have l := filt_len (fun p => inP p x) ps
    have o := one_in (h := x) d
    have r := dual (hs := hs) (ps := ps.filter fun p => !inP p x) (fun p m => by
      obtain ⟨m1, m2⟩ := List.mem_filter.mp m
      have := h p m1
      rw [hitP, List.any_cons, Bool.or_eq_true] at this
      rcases this with z | z
      · rw [z] at m2
        cases m2
      · exact z) (d.filter _)
    rw [List.length_cons]
    omega
/-! ### the greedy road -/
structure Tr where
  l : Int
  f : Int
  a : Int
def grT (C : List Tr) (x : Tr) : Bool := match C.getLast? with
  | none => true
  | some c => decide (c.l < x.f)
def gr : List Tr → List Tr → List Tr
  | [], C => C
  | x :: r, C => if grT C x = true then gr r (C ++ [x]) else gr r C
theorem gr_ok : ∀ (r C : List Tr), r.Pairwise (fun x y => x.l ≤ y.l) → (∀ c ∈ C, ∀ x ∈ r, c.l ≤ x.l) → C.Pairwise (fun c d => c.l < d.f) → (∀ x ∈ r, x.f ≤ x.l) → (∀ x ∈ C, x.f ≤ x.l) →
    (∀ x ∈ r, ∃ c ∈ gr r C, x.f ≤ c.l ∧ c.l ≤ x.l) ∧ (∀ c ∈ C, c ∈ gr r C) ∧ (∀ c ∈ gr r C, c ∈ C ∨ c ∈ r) ∧ (gr r C).Pairwise (fun c d => c.l < d.f)
  | [], C, _, _, s, _, _ => ⟨fun x m => absurd m (by simp), fun _ m => m, fun _ m => .inl m, s⟩
  | x :: r, C, hr, hc, s, ok, okC => by
    rw [List.pairwise_cons] at hr
    have okx := ok x (by simp)
    unfold gr
    by_cases t : grT C x = true
    · rw [if_pos t]
      unfold grT at t
      have all : ∀ c ∈ C, c.l < x.f := by
        intro c mc
        cases e : C.getLast? with
        | none => rw [List.getLast?_eq_none_iff] at e; rw [e] at mc; cases mc
        | some z =>
          rw [e] at t
          have t := of_decide_eq_true t
          obtain ⟨i, rfl⟩ := List.getLast?_eq_some_iff.mp e
          rcases List.mem_append.mp mc with m | m
          · have := (List.pairwise_append.mp s).2.2 c m z (by simp)
            have := okC z (by simp)
            omega
          · simp at m
            rw [m]
            exact t
      obtain ⟨h1, h2, h3, h4⟩ := gr_ok r (C ++ [x]) hr.2 (fun c mc y my => by
        rcases List.mem_append.mp mc with m | m
        · exact hc c m y (by simp [my])
        · simp at m
          rw [m]
          exact hr.1 y my) (by
        rw [List.pairwise_append]
        exact ⟨s, List.pairwise_singleton .., fun c mc d md => by simp at md; rw [md]; exact all c mc⟩) (fun y m => ok y (by simp [m])) (fun y m => by
        rcases List.mem_append.mp m with m | m
        · exact okC y m
        · simp at m
          rw [m]
          exact okx)
      refine ⟨fun y my => ?_, fun c mc => h2 c (by simp [mc]), fun c mc => ?_, h4⟩
      · rcases List.mem_cons.mp my with rfl | my
        · exact ⟨y, h2 y (by simp), okx, Int.le_refl _⟩
        · exact h1 y my
      · rcases h3 c mc with m | m
        · rcases List.mem_append.mp m with m | m
          · exact .inl m
          · simp at m
            rw [m]
            exact .inr (by simp)
        · exact .inr (by simp [m])
    · rw [if_neg t]
      unfold grT at t
      obtain ⟨h1, h2, h3, h4⟩ := gr_ok r C hr.2 (fun c mc y my => hc c mc y (by simp [my])) s (fun y m => ok y (by simp [m])) okC
      refine ⟨fun y my => ?_, h2, fun c mc => (h3 c mc).imp id fun m => by simp [m], h4⟩
      rcases List.mem_cons.mp my with rfl | my
      · cases e : C.getLast? with
        | none => rw [e] at t; exact absurd rfl t
        | some z =>
          rw [e] at t
          have t : ¬ z.l < y.f := fun q => t (decide_eq_true q)
          have mz : z ∈ C := List.mem_of_getLast? e
          exact ⟨z, h2 z mz, by omega, hc z mz y (by simp)⟩
      · exact h1 y my
/-! ### papers -/
def tat (told : List Pt) (i : Int) : Pt := told.getD i.toNat (0, 0)
structure Right (told : List Pt) (hs as : List Int) : Prop where
  len : hs.length = as.length
  nh : hs.Nodup
  na : as.Nodup
  hit : hitAll told hs = true
  rng : ∀ a ∈ as, 0 ≤ a ∧ a < told.length
  ap : as.Pairwise fun i j => Apart (tat told i) (tat told j)
theorem tat_mem {told : List Pt} {i : Int} (h0 : 0 ≤ i) (h1 : i < told.length) : tat told i ∈ told := by
  unfold tat
  rw [List.getD_eq_getElem?_getD, List.getElem?_eq_getElem (by omega)]
  exact List.getElem_mem _
theorem nodup_of_apart {told : List Pt} (ok : OkP told) {as : List Int} (rng : ∀ a ∈ as, 0 ≤ a ∧ a < told.length) (ap : as.Pairwise fun i j => Apart (tat told i) (tat told j)) : as.Nodup := by
  induction as with
  | nil => exact List.Pairwise.nil
  | cons a as ih =>
    rw [List.pairwise_cons] at ap
    refine List.Pairwise.cons (fun b mb e => ?_) (ih (fun x m => rng x (by simp [m])) ap.2)
    subst e
    have := ap.1 _ mb
    have r := rng a (by simp)
    have := ok _ (tat_mem r.1 r.2)
    unfold Apart at *
    omega
/-- how many: no set that hits is smaller, no family apart is greater -/
theorem Right.least {told : List Pt} {hs as hs' : List Int} (r : Right told hs as) (h : hitAll told hs' = true) : hs.length ≤ hs'.length := by
  have := dual (hs := hs') (ps := as.map (tat told)) (fun p m => by
    obtain ⟨a, ma, rfl⟩ := List.mem_map.mp m
    have := r.rng a ma
    exact List.all_eq_true.mp h _ (tat_mem this.1 this.2)) (List.pairwise_map.mpr r.ap)
  rw [List.length_map] at this
  rw [r.len]
  exact this
theorem Right.most {told : List Pt} {hs as as' : List Int} (r : Right told hs as) (h : ∀ a ∈ as', 0 ≤ a ∧ a < told.length) (ap : as'.Pairwise fun i j => Apart (tat told i) (tat told j)) : as'.length ≤ hs.length := by
  have := dual (hs := hs) (ps := as'.map (tat told)) (fun p m => by
    obtain ⟨a, ma, rfl⟩ := List.mem_map.mp m
    have := h a ma
    exact List.all_eq_true.mp r.hit _ (tat_mem this.1 this.2)) (List.pairwise_map.mpr ap)
  rwa [List.length_map] at this
/-! ### all lots -/
def lotsL (xs : List Int) : List (List Int) := xs.foldl (fun ls x => ls ++ ls.map (· ++ [x])) [[]]
theorem lots_snoc (xs : List Int) (x : Int) : lotsL (xs ++ [x]) = lotsL xs ++ (lotsL xs).map (· ++ [x]) := by
  unfold lotsL
  rw [List.foldl_append]
  rfl
theorem lots_mem {l : List Int} : ∀ {xs : List Int}, l ∈ lotsL xs ↔ l.Sublist xs := by
  intro xs
  revert l
  refine snoc_cases (P := fun xs => ∀ {l : List Int}, l ∈ lotsL xs ↔ l.Sublist xs) ?_ ?_ xs
  · intro l
    simp [lotsL]
  · intro xs x ih l
    rw [lots_snoc, List.mem_append, List.mem_map, List.sublist_append_iff]
    constructor
    · rintro (m | ⟨k, m, rfl⟩)
      · exact ⟨l, [], by simp, ih.mp m, by simp⟩
      · exact ⟨k, [x], rfl, ih.mp m, List.Sublist.refl _⟩
    · rintro ⟨l1, l2, rfl, s1, s2⟩
      have two : l2 = [] ∨ l2 = [x] := by
        cases l2 with
        | nil => exact .inl rfl
        | cons y l2 =>
          have e := s2.eq_of_length_le (by simp)
          exact .inr e
      rcases two with rfl | rfl
      · rw [List.append_nil]
        exact .inl (ih.mpr s1)
      · exact .inr ⟨l1, ih.mpr s1, rfl⟩
theorem lots_len (xs : List Int) : (lotsL xs).length = 2 ^ xs.length := by
  refine snoc_cases (P := fun xs => (lotsL xs).length = 2 ^ xs.length) rfl ?_ xs
  intro xs x ih
  rw [lots_snoc, List.length_append, List.length_map, ih, List.length_append, List.length_singleton, Nat.pow_succ]
  omega
def pick : List Int → Nat → List Int
  | [], _ => []
  | x :: xs, m => if m % 2 = 1 then x :: pick xs (m / 2) else pick xs (m / 2)
theorem pick_snoc : ∀ (xs : List Int) (x : Int) (m : Nat), pick (xs ++ [x]) m = pick xs m ++ if m / 2 ^ xs.length % 2 = 1 then [x] else []
  | [], x, m => by simp [pick]
  | y :: xs, x, m => by
    have e : m / 2 / 2 ^ xs.length = m / 2 ^ (xs.length + 1) := by rw [Nat.div_div_eq_div_mul, Nat.pow_succ, Nat.mul_comm]
    simp only [List.cons_append, pick, pick_snoc xs x (m / 2), List.length_cons, e]
    split <;> simp
theorem pick_add : ∀ (xs : List Int) (m k : Nat), pick xs (2 ^ xs.length * k + m) = pick xs m
  | [], m, k => rfl
  | x :: xs, m, k => by
    have e : 2 ^ (xs.length + 1) * k + m = m + 2 * (2 ^ xs.length * k) := by rw [Nat.pow_succ, Nat.mul_comm (2 ^ xs.length) 2, Nat.mul_assoc]; omega
    have e1 : (m + 2 * (2 ^ xs.length * k)) % 2 = m % 2 := by omega
    have e2 : (m + 2 * (2 ^ xs.length * k)) / 2 = 2 ^ xs.length * k + m / 2 := by omega
    simp only [pick, List.length_cons]
    rw [e, e1, e2, pick_add xs (m / 2) k]
theorem lots_pick (xs : List Int) : (List.range (2 ^ xs.length)).map (pick xs) = lotsL xs := by
  refine snoc_cases (P := fun xs => (List.range (2 ^ xs.length)).map (pick xs) = lotsL xs) rfl ?_ xs
  intro xs x ih
  rw [lots_snoc, ← ih, List.length_append, List.length_singleton, Nat.pow_succ, Nat.mul_two, List.range_add, List.map_append, List.map_map, List.map_map]
  congr 1
  · refine List.map_congr_left fun m mm => ?_
    have := List.mem_range.mp mm
    rw [pick_snoc, Nat.div_eq_of_lt this]
    simp
  · refine List.map_congr_left fun m mm => ?_
    have := List.mem_range.mp mm
    show pick (xs ++ [x]) (2 ^ xs.length + m) = pick xs m ++ [x]
    have e : (2 ^ xs.length + m) / 2 ^ xs.length = 1 := by
      rw [Nat.add_div_left _ (Nat.two_pow_pos _), Nat.div_eq_of_lt this]
    have p := pick_add xs m 1
    rw [Nat.mul_one] at p
    rw [pick_snoc, e, p]
    simp
/-! ### their order -/
def ltLot (a b : List Int) : Bool := if a.length = b.length then decide (a < b) else decide (a.length < b.length)
def leLot (a b : List Int) : Bool := !ltLot b a
theorem leLot_len {a b : List Int} (h : leLot a b = true) : a.length ≤ b.length := by
  unfold leLot ltLot at h
  split at h
  · omega
  · have : ¬ b.length < a.length := by simpa using h
    omega
theorem leLot_tr (a b c : List Int) (h1 : leLot a b = true) (h2 : leLot b c = true) : leLot a c = true := by
  have l1 := leLot_len h1
  have l2 := leLot_len h2
  unfold leLot ltLot at *
  by_cases e : c.length = a.length
  · rw [if_pos (by omega)] at h1 h2
    rw [if_pos e]
    have h1 : ¬ b < a := by simpa using h1
    have h2 : ¬ c < b := by simpa using h2
    have : ¬ c < a := List.not_lt.mpr (List.le_trans (List.not_lt.mp h1) (List.not_lt.mp h2))
    simpa using this
  · rw [if_neg e]
    simp
    omega
theorem leLot_tot (a b : List Int) : (leLot a b || leLot b a) = true := by
  unfold leLot ltLot
  by_cases e : a.length = b.length
  · rw [if_pos e.symm, if_pos e]
    rcases List.le_total a b with h | h
    · have : ¬ b < a := List.not_lt.mpr h
      simp [this]
    · have : ¬ a < b := List.not_lt.mpr h
      simp [this]
  · rw [if_neg (fun z => e z.symm), if_neg e]
    simp
    omega
def sLots (xs : List Int) : List (List Int) := (lotsL xs).mergeSort leLot
theorem sLots_mem {xs l : List Int} : l ∈ sLots xs ↔ l.Sublist xs := by
  unfold sLots
  rw [List.mem_mergeSort, lots_mem]
theorem sLots_len (xs : List Int) : (sLots xs).length = 2 ^ xs.length := by
  unfold sLots
  rw [List.length_mergeSort, lots_len]
theorem sLots_srt (xs : List Int) : (sLots xs).Pairwise fun a b => a.length ≤ b.length := (List.pairwise_mergeSort leLot_tr leLot_tot _).imp leLot_len
/-! ### the least sets that hit -/
def has (o l : List Int) : Bool := o.all fun x => decide (x ∈ l)
def keep (told : List Pt) : List (List Int) → List (List Int) → List (List Int)
  | [], k => k
  | l :: r, k => if hitAll told l = true ∧ (k.any fun o => has o l) = false then keep told r (k ++ [l]) else keep told r k
theorem keep_app (told : List Pt) : ∀ (r k : List (List Int)), ∃ m, keep told r k = k ++ m ∧ m.length ≤ r.length ∧ ∀ x ∈ m, x ∈ r
  | [], k => ⟨[], by simp [keep]⟩
  | l :: r, k => by
    unfold keep
    split
    · obtain ⟨m, e, ln, h⟩ := keep_app told r (k ++ [l])
      refine ⟨l :: m, by rw [e]; simp, by simp; omega, fun x mx => ?_⟩
      rcases List.mem_cons.mp mx with rfl | mx
      · simp
      · simp [h x mx]
    · obtain ⟨m, e, ln, h⟩ := keep_app told r k
      exact ⟨m, e, by simp; omega, fun x mx => by simp [h x mx]⟩
theorem keep_head (told : List Pt) : ∀ (r : List (List Int)), r.Pairwise (fun a b => a.length ≤ b.length) → (∃ l ∈ r, hitAll told l = true) →
    ∃ h t, keep told r [] = h :: t ∧ hitAll told h = true ∧ h ∈ r ∧ ∀ l ∈ r, hitAll told l = true → h.length ≤ l.length
  | [], _, ⟨l, m, _⟩ => absurd m (by simp)
  | x :: r, s, ⟨l, m, hl⟩ => by
    rw [List.pairwise_cons] at s
    unfold keep
    by_cases c : hitAll told x = true
    · rw [if_pos ⟨c, rfl⟩]
      obtain ⟨t, e, _⟩ := keep_app told r ([] ++ [x])
      refine ⟨x, t, by rw [e]; rfl, c, by simp, fun k mk _ => ?_⟩
      rcases List.mem_cons.mp mk with rfl | mk
      · exact Nat.le_refl _
      · exact s.1 k mk
    · rw [if_neg fun z => c z.1]
      obtain ⟨h, t, e, h1, h2, h3⟩ := keep_head told r s.2 ⟨l, by
        rcases List.mem_cons.mp m with rfl | m
        · exact absurd hl c
        · exact m, hl⟩
      refine ⟨h, t, e, h1, by simp [h2], fun k mk hk => ?_⟩
      rcases List.mem_cons.mp mk with rfl | mk
      · exact absurd hk c
      · exact h3 k mk hk
end L2.AR.T
set_option Elab.async false
set_option linter.all false
set_option maxRecDepth 100000
set_option maxHeartbeats 4000000
namespace L2.AR.T
open PySem PySem.Spec PyProof.Rows
/-! ### the order of data -/
theorem lt_row (a b : List Int) : PySem.W.dataLt (tupD a) (tupD b) = decide (a < b) := PySem.W.dataLt_ints a b
theorem le_row (a b : List Int) : leD (tupD a) (tupD b) = !decide (b < a) := by
  unfold leD
  rw [lt_row]
theorem le_num (a b : Int) : leD (.int a) (.int b) = decide (a ≤ b) := by
  unfold leD
  rw [PySem.W.dataLt_int]
  by_cases h : b < a
  · have : ¬ a ≤ b := by omega
    simp [h, this]
  · have : a ≤ b := by omega
    simp [h, this]
def leR (a b : List Int) : Bool := !decide (b < a)
theorem leR_tr (a b c : List Int) (h1 : leR a b = true) (h2 : leR b c = true) : leR a c = true := by
  unfold leR at *
  have h1 : ¬ b < a := by simpa using h1
  have h2 : ¬ c < b := by simpa using h2
  have : ¬ c < a := List.not_lt.mpr (List.le_trans (List.not_lt.mp h1) (List.not_lt.mp h2))
  simpa using this
theorem leR_tot (a b : List Int) : (leR a b || leR b a) = true := by
  unfold leR
  rcases List.le_total a b with h | h
  · have : ¬ b < a := List.not_lt.mpr h
    simp [this]
  · have : ¬ a < b := List.not_lt.mpr h
    simp [this]
theorem leR_head {a b : Int} {x y : List Int} (h : leR (a :: x) (b :: y) = true) : a ≤ b := by
  unfold leR at h
  have h : ¬ (b :: y) < (a :: x) := by simpa using h
  by_cases c : b < a
  · exact absurd (List.cons_lt_cons_iff.mpr (.inl c)) h
  · omega
def alI (xs : List Int) : List D := xs.map .int
theorem sort_nums (xs : List Int) : (xs.map PyData.int).mergeSort leD = (xs.mergeSort fun a b => decide (a ≤ b)).map .int := (List.map_mergeSort fun a _ b _ => (le_num a b).symm).symm
theorem nums_perm (xs : List Int) : (xs.mergeSort fun a b => decide (a ≤ b)).Perm xs := List.mergeSort_perm _ _
theorem nums_srt {xs : List Int} (h : xs.Pairwise (· < ·)) : xs.mergeSort (fun a b => decide (a ≤ b)) = xs := List.mergeSort_of_pairwise (h.imp fun {x y} l => by simp; omega)
theorem nums_ordered (xs : List Int) : (xs.mergeSort fun a b => decide (a ≤ b)).Pairwise (· ≤ ·) := (List.pairwise_mergeSort (fun a b c h1 h2 => by simp at *; omega) (fun a b => by simp; omega) xs).imp fun h => by simpa using h
/-! ### the greedy road, sorted -/
def Tr.row (x : Tr) : List Int := [x.l, x.f, x.a]
def trs (told : List Pt) : List Tr := (List.range told.length).map fun (i : Nat) => ⟨(tat told i).2, (tat told i).1, i⟩
def trO (told : List Pt) : List Tr := (trs told).mergeSort fun x y => leR x.row y.row
theorem sort_trs (told : List Pt) : ((trs told).map fun x => tupD x.row).mergeSort leD = (trO told).map fun x => tupD x.row := (List.map_mergeSort fun a _ b _ => (le_row a.row b.row).symm).symm
theorem trO_srt (told : List Pt) : (trO told).Pairwise fun x y => x.l ≤ y.l := (List.pairwise_mergeSort (le := fun (x y : Tr) => leR x.row y.row) (fun a b c => leR_tr _ _ _) (fun a b => leR_tot _ _) _).imp fun h => leR_head h
theorem trO_mem {told : List Pt} {x : Tr} : x ∈ trO told ↔ ∃ i : Nat, i < told.length ∧ x = ⟨(tat told i).2, (tat told i).1, i⟩ := by
  unfold trO trs
  rw [List.mem_mergeSort, List.mem_map]
  constructor
  · rintro ⟨i, m, rfl⟩
    exact ⟨i, List.mem_range.mp m, rfl⟩
  · rintro ⟨i, m, rfl⟩
    exact ⟨i, List.mem_range.mpr m, rfl⟩
def grd (told : List Pt) : List Tr := gr (trO told) []
def gHits (told : List Pt) : List Int := (grd told).map (·.l)
def gAp (told : List Pt) : List Int := ((grd told).map (·.a)).mergeSort fun a b => decide (a ≤ b)
theorem grd_ok {told : List Pt} (ok : OkP told) : Right told (gHits told) (gAp told) ∧ (gHits told).Pairwise (· < ·) := by
  have fl : ∀ x ∈ trO told, x.f ≤ x.l := by
    intro x m
    obtain ⟨i, hi, rfl⟩ := trO_mem.mp m
    exact ok _ (tat_mem (by omega) (by omega))
  obtain ⟨h1, _, h3, h4⟩ := gr_ok (trO told) [] (trO_srt told) (fun c m => by cases m) List.Pairwise.nil fl (fun c m => by cases m)
  have hm : ∀ c ∈ grd told, c ∈ trO told := fun c m => (h3 c m).elim (fun z => by cases z) id
  have cl : ∀ c ∈ grd told, 0 ≤ c.a ∧ c.a < told.length ∧ tat told c.a = (c.f, c.l) := by
    intro c m
    obtain ⟨i, hi, rfl⟩ := trO_mem.mp (hm c m)
    exact ⟨by simp, by simp; exact hi, rfl⟩
  have lt : (gHits told).Pairwise (· < ·) := by
    unfold gHits
    rw [List.pairwise_map]
    refine List.Pairwise.imp_of_mem (fun {c d} mc md h => ?_) h4
    have := fl d (hm d md)
    omega
  have rng : ∀ a ∈ gAp told, 0 ≤ a ∧ a < told.length := by
    intro a m
    unfold gAp at m
    rw [List.mem_mergeSort, List.mem_map] at m
    obtain ⟨c, mc, rfl⟩ := m
    exact ⟨(cl c mc).1, (cl c mc).2.1⟩
  have ap : (gAp told).Pairwise fun i j => Apart (tat told i) (tat told j) := by
    unfold gAp
    rw [(List.mergeSort_perm _ _).pairwise_iff (R := fun i j => Apart (tat told i) (tat told j)) (fun h => Apart.symm h), List.pairwise_map]
    refine List.Pairwise.imp_of_mem (fun {c d} mc md h => ?_) h4
    rw [(cl c mc).2.2, (cl d md).2.2]
    exact .inl h
  refine ⟨⟨?_, lt.imp fun {x y} h => by omega, nodup_of_apart ok rng ap, ?_, rng, ap⟩, lt⟩
  · unfold gHits gAp
    rw [List.length_mergeSort, List.length_map, List.length_map]
  · rw [hitAll_iff]
    intro p m
    obtain ⟨i, hi, rfl⟩ := List.getElem_of_mem m
    have e : tat told i = told[i] := by
      unfold tat
      rw [List.getD_eq_getElem?_getD, Int.toNat_natCast, List.getElem?_eq_getElem hi]
      rfl
    obtain ⟨c, mc, c1, c2⟩ := h1 ⟨(tat told i).2, (tat told i).1, i⟩ (trO_mem.mpr ⟨i, hi, rfl⟩)
    rw [e] at c1 c2
    exact ⟨c.l, List.mem_map.mpr ⟨c, mc, rfl⟩, c1, c2⟩
/-! ### rising -/
def Pt.row (p : Pt) : List Int := [p.1, p.2]
def rising (ps : List Pt) : List Pt := ps.mergeSort fun p q => leR (Pt.row p) (Pt.row q)
theorem sort_pts (ps : List Pt) : (ps.map fun p => tupD (Pt.row p)).mergeSort leD = (rising ps).map fun p => tupD (Pt.row p) := (List.map_mergeSort fun a _ b _ => (le_row (Pt.row a) (Pt.row b)).symm).symm
def chain : List Pt → Bool
  | p :: q :: r => decide (p.2 < q.1) && chain (q :: r)
  | _ => true
theorem chain_iff : ∀ {R : List Pt}, R.Pairwise (fun p q => p.1 ≤ q.1) → (∀ p ∈ R, p.1 ≤ p.2) → (chain R = true ↔ R.Pairwise Apart)
  | [], _, _ => by simp [chain]
  | [p], _, _ => by simp [chain]
  | p :: q :: r, s, ok => by
    rw [List.pairwise_cons] at s
    have ih := chain_iff (R := q :: r) s.2 (fun x m => ok x (by simp [m]))
    have sq := s.1 q (by simp)
    have s2 := s.2
    rw [List.pairwise_cons] at s2
    have okq := ok q (by simp)
    rw [chain, Bool.and_eq_true, decide_eq_true_eq, ih, List.pairwise_cons (l := q :: r)]
    constructor
    · rintro ⟨h1, h2⟩
      refine ⟨fun x m => .inl ?_, h2⟩
      rcases List.mem_cons.mp m with rfl | m
      · exact h1
      · have := s2.1 x m
        omega
    · rintro ⟨h1, h2⟩
      have := h1 q (by simp)
      unfold Apart at this
      exact ⟨by omega, h2⟩
theorem rising_iff {told : List Pt} (ok : OkP told) {as : List Int} (rng : ∀ a ∈ as, 0 ≤ a ∧ a < told.length) : chain (rising (as.map (tat told))) = true ↔ as.Pairwise fun i j => Apart (tat told i) (tat told j) := by
  unfold rising
  rw [chain_iff, (List.mergeSort_perm _ _).pairwise_iff (R := Apart) (fun h => Apart.symm h), List.pairwise_map]
  · exact (List.pairwise_mergeSort (le := fun (x y : Pt) => leR (Pt.row x) (Pt.row y)) (fun a b c => leR_tr _ _ _) (fun a b => leR_tot _ _) _).imp fun h => leR_head h
  · intro p m
    rw [List.mem_mergeSort, List.mem_map] at m
    obtain ⟨a, ma, rfl⟩ := m
    exact ok _ (tat_mem (rng a ma).1 (rng a ma).2)
theorem chain_range : ∀ R : List Pt, ((List.range (R.length - 1)).all fun k => decide ((R.getD k (0, 0)).2 < (R.getD (k + 1) (0, 0)).1)) = chain R
  | [] => rfl
  | [p] => rfl
  | p :: q :: r => by
    have ih := chain_range (q :: r)
    rw [chain, ← ih]
    show ((List.range (r.length + 1)).all _) = _
    rw [List.range_succ_eq_map, List.all_cons, List.all_map]
    rfl
end L2.AR.T
set_option Elab.async false
set_option linter.all false
set_option maxRecDepth 100000
set_option maxHeartbeats 4000000
namespace L2.AR.T
open PySem PySem.Spec PyProof.Rows
theorem sub_srt : ∀ {b a : List Int}, a.Pairwise (· < ·) → b.Pairwise (· < ·) → (∀ x ∈ a, x ∈ b) → a.Sublist b
  | [], a, _, _, h => by
    cases a with
    | nil => exact List.Sublist.refl _
    | cons x a => exact absurd (h x (by simp)) (by simp)
  | y :: b, [], _, _, _ => List.nil_sublist _
  | y :: b, x :: a, ha, hb, h => by
    rw [List.pairwise_cons] at ha hb
    have hx := List.mem_cons.mp (h x (by simp))
    by_cases e : x = y
    · subst e
      refine List.Sublist.cons₂ _ (sub_srt ha.2 hb.2 fun z m => ?_)
      rcases List.mem_cons.mp (h z (by simp [m])) with rfl | q
      · have := ha.1 _ m
        omega
      · exact q
    · have mx : x ∈ b := hx.resolve_left e
      have lx := hb.1 x mx
      refine List.Sublist.cons _ (sub_srt (List.pairwise_cons.mpr ha) hb.2 fun z m => ?_)
      rcases List.mem_cons.mp (h z m) with rfl | q
      · rcases List.mem_cons.mp m with rfl | m
        · omega
        · have := ha.1 _ m
          omega
      · exact q
/-! ### the lots, as data -/
def nestD (l : List Int) : D := .tuple [.int l.length, tupD l]
def flatT (l : List Int) : D := tupD ((l.length : Int) :: l)
theorem le_flat (a b : List Int) : leD (flatT a) (flatT b) = leLot a b := by
  unfold flatT
  rw [le_row]
  unfold leLot ltLot
  congr 1
  by_cases e : b.length = a.length
  · rw [if_pos e, e]
    exact decide_eq_decide.mpr ⟨fun h => by
      rcases List.cons_lt_cons_iff.mp h with z | ⟨_, z⟩
      · omega
      · exact z, fun h => List.cons_lt_cons_iff.mpr (.inr ⟨rfl, h⟩)⟩
  · rw [if_neg e]
    exact decide_eq_decide.mpr ⟨fun h => by
      rcases List.cons_lt_cons_iff.mp h with z | ⟨z, _⟩
      · omega
      · omega, fun h => List.cons_lt_cons_iff.mpr (.inl (by omega))⟩
theorem al_row (a b : List Int) : PySem.W.alike (tupD a) (tupD b) = true := by
  unfold tupD
  rw [PySem.W.alike]
  exact PySem.W.alike_ints a b
theorem eqv_lt {a b : List Int} (h : PyData.eqv (tupD a) (tupD b) = true) : decide (a < b) = false := by
  have t := (PySem.W.toks_eqv (tupD a) (tupD b) (al_row a b)).1 h
  have := lt_row a b
  unfold PySem.W.dataLt at this
  rw [t] at this
  have s := lt_row b b
  unfold PySem.W.dataLt at s
  rw [← this, s]
  simp
theorem le_nest (a b : List Int) : leD (nestD a) (nestD b) = leLot a b := by
  unfold leD nestD
  rw [PySem.W.dataLt_pair (by simp [PySem.W.alike]) (al_row b a), PySem.W.dataLt_int]
  unfold leLot ltLot
  congr 1
  by_cases e : b.length = a.length
  · rw [if_pos e]
    have : PyData.eqv (.int (b.length : Int)) (.int (a.length : Int)) = true := by simp [PyData.eqv, e]
    rw [if_pos this]
    by_cases q : PyData.eqv (tupD b) (tupD a) = true
    · rw [if_pos q, eqv_lt q]
    · rw [if_neg q, lt_row]
  · rw [if_neg e]
    have : ¬ PyData.eqv (.int (b.length : Int)) (.int (a.length : Int)) = true := by
      simp [PyData.eqv]
      omega
    rw [if_neg this]
    exact decide_eq_decide.mpr (by omega)
theorem sort_nest (ls : List (List Int)) : (ls.map nestD).mergeSort leD = (ls.mergeSort leLot).map nestD := (List.map_mergeSort fun a _ b _ => (le_nest a b).symm).symm
theorem sort_flat (ls : List (List Int)) : (ls.map flatT).mergeSort leD = (ls.mergeSort leLot).map flatT := (List.map_mergeSort fun a _ b _ => (le_flat a b).symm).symm
/-! ### may be sorted -/
theorem dep_nums (xs : List Int) : PyData.depthAll (xs.map .int) = 0 := PySem.W.depth_ints xs
theorem ok_nums {xs : List Int} (h : xs.length ≤ 1000000) : srtOk (xs.map .int) = true := by
  unfold srtOk
  have h1 : ((xs.map PyData.int).all tupNo) = true := by simp [tupNo]
  have h2 : ((xs.map PyData.int).all fun x => (xs.map PyData.int).all fun y => PySem.W.alike x y) = true := by simp [PySem.W.alike]
  have h3 : ((xs.map PyData.int).all fun x => decide (x.depth ≤ 40)) = true := by simp [PyData.depth]
  rw [h1, h2, h3]
  simp [h]
theorem ok_rows {β : Type} {f : β → D} {xs : List β} (al : ∀ a b, PySem.W.alike (f a) (f b) = true) (tn : ∀ a, tupN (f a) = true) (dp : ∀ a, (f a).depth ≤ 40) (h : xs.length ≤ 1000000) : srtOk (xs.map f) = true := by
  unfold srtOk
  have h1 : ((xs.map f).all tupN) = true := by simp [tn]
  have h2 : ((xs.map f).all fun x => (xs.map f).all fun y => PySem.W.alike x y) = true := by simp [al]
  have h3 : ((xs.map f).all fun x => decide (x.depth ≤ 40)) = true := by simp [dp]
  rw [h1, h2, h3]
  simp [h]
theorem dep_row (l : List Int) : (tupD l).depth ≤ 1 := by
  unfold tupD
  rw [PyData.depth, dep_nums]
  omega
theorem ok_nest {ls : List (List Int)} (h : ls.length ≤ 1000000) : srtOk (ls.map nestD) = true :=
  ok_rows (fun a b => by
    unfold nestD
    rw [PySem.W.alike, PySem.W.alikeAll, PySem.W.alikeAll, al_row]
    simp [PySem.W.alike, PySem.W.alikeAll]) (fun _ => rfl) (fun a => by
    have := dep_row a
    unfold nestD
    rw [PyData.depth, PyData.depthAll, PyData.depthAll, PyData.depthAll, PyData.depth]
    omega) h
theorem ok_flat {ls : List (List Int)} (h : ls.length ≤ 1000000) : srtOk (ls.map flatT) = true := ok_rows (fun a b => al_row _ _) (fun _ => rfl) (fun a => Nat.le_trans (dep_row _) (by decide)) h
theorem ok_trs {xs : List Tr} (h : xs.length ≤ 1000000) : srtOk (xs.map fun x => tupD x.row) = true := ok_rows (fun a b => al_row _ _) (fun _ => rfl) (fun a => Nat.le_trans (dep_row _) (by decide)) h
theorem ok_pts {xs : List Pt} (h : xs.length ≤ 1000000) : srtOk (xs.map fun p => tupD (Pt.row p)) = true := ok_rows (fun a b => al_row _ _) (fun _ => rfl) (fun a => Nat.le_trans (dep_row _) (by decide)) h
end L2.AR.T
set_option Elab.async false
set_option linter.all false
set_option maxRecDepth 100000
set_option maxHeartbeats 4000000
namespace L2.AR.T
open PySem PySem.Spec PyProof.Rows
theorem is_is_int (a0 : D) : m_is_int [a0] = endB (s_is_int [.dat a0]) := runB_is rfl
theorem is_plain_form (a0 : D) : m_plain_form [a0] = endB (s_plain_form [.dat a0]) := runB_is rfl
theorem is_told_stretches (a0 : D) : m_told_stretches [a0] = endB (s_told_stretches [.dat a0, .no, .no, .no]) := runB_is rfl
theorem is_greedy_hits (a0 : D) : m_greedy_hits [a0] = endB (s_greedy_hits [.dat a0, .no, .no, .no, .no, .no]) := runB_is rfl
theorem is_hit_number (a0 : D) : m_hit_number [a0] = endB (s_hit_number [.dat a0, .no]) := runB_is rfl
theorem is_fewest_hits (a0 : D) : m_fewest_hits [a0] = endB (s_fewest_hits [.dat a0, .no]) := runB_is rfl
theorem is_is_hit (a0 a1 : D) : m_is_hit [a0, a1] = endB (s_is_hit [.dat a0, .dat a1, .no]) := runB_is rfl
theorem is_lots_by_length (a0 : D) : m_lots_by_length [a0] = endB (s_lots_by_length [.dat a0, .no, .no, .no, .no, .no]) := runB_is rfl
theorem is_holds_one (a0 a1 : D) : m_holds_one [a0, a1] = endB (s_holds_one [.dat a0, .dat a1, .no, .no]) := runB_is rfl
theorem is_least_hits (a0 : D) : m_least_hits [a0] = endB (s_least_hits [.dat a0, .no, .no, .no, .no, .no]) := runB_is rfl
theorem is_are_unlike_integers (a0 : D) : m_are_unlike_integers [a0] = endB (s_are_unlike_integers [.dat a0, .no]) := runB_is rfl
theorem is_shows_hits (a0 a1 : D) : m_shows_hits [a0, a1] = endB (s_shows_hits [.dat a0, .dat a1, .no, .no, .no, .no, .no, .no, .no]) := runB_is rfl
theorem is__law_just (a0 a1 : D) : m__law_just [a0, a1] = endB (s__law_just [.dat a0, .dat a1]) := runB_is rfl
theorem is__law_drawn (a0 : D) : m__law_drawn [a0] = endB (s__law_drawn [.dat a0, .no, .no, .no, .no, .no, .no, .no]) := runB_is rfl
theorem is__law_is_hit (a0 a1 : D) : m__law_is_hit [a0, a1] = endB (s__law_is_hit [.dat a0, .dat a1, .no]) := runB_is rfl
theorem is__law_lots (a0 : D) : m__law_lots [a0] = endB (s__law_lots [.dat a0, .no, .no, .no]) := runB_is rfl
theorem is__law_least (a0 : D) : m__law_least [a0] = endB (s__law_least [.dat a0, .no, .no, .no, .no, .no, .no, .no]) := runB_is rfl
theorem is__law_are_apart (a0 a1 : D) : m__law_are_apart [a0, a1] = endB (s__law_are_apart [.dat a0, .dat a1, .no, .no, .no, .no]) := runB_is rfl
theorem is__law_most_apart (a0 : D) : m__law_most_apart [a0] = endB (s__law_most_apart [.dat a0, .no, .no]) := runB_is rfl
theorem is__law_whole (a0 : D) : m__law_whole [a0] = endB (s__law_whole [.dat a0]) := runB_is rfl
theorem is__law_is_right (a0 a1 : D) : m__law_is_right [a0, a1] = endB (s__law_is_right [.dat a0, .dat a1, .no, .no, .no, .no, .no]) := runB_is rfl
theorem is__law_heard (a0 a1 a2 : D) : m__law_heard [a0, a1, a2] = endB (s__law_heard [.dat a0, .dat a1, .dat a2, .no, .no]) := runB_is rfl
theorem is__law_said (a0 a1 : D) : m__law_said [a0, a1] = endB (s__law_said [.dat a0, .dat a1, .no]) := runB_is rfl
theorem is__law_papers_right (a0 a1 a2 a3 : D) : m__law_papers_right [a0, a1, a2, a3] = endB (s__law_papers_right [.dat a0, .dat a1, .dat a2, .dat a3, .no, .no, .no, .no, .no, .no, .no]) := runB_is rfl
theorem is__law_lots_right (a0 a1 : D) : m__law_lots_right [a0, a1] = endB (s__law_lots_right [.dat a0, .dat a1, .no, .no, .no, .no, .no]) := runB_is rfl
theorem is__law_refused (a0 a1 : D) : m__law_refused [a0, a1] = endB (s__law_refused [.dat a0, .dat a1, .no, .no, .no, .no, .no, .no, .no]) := runB_is rfl
theorem is__law_far (a0 : D) : m__law_far [a0] = endB (s__law_far [.dat a0, .no, .no, .no, .no, .no]) := runB_is rfl
@[simp high] theorem bnd_retN {α β : Type} (a : α) (f : α → M β) : bnd (ret a) f = f a := funext fun _ => rfl
theorem seq_to {s t : MS} {ρ ρ' : Rho} (e : s ρ = okS .nx ρ') : sSeq s t ρ = t ρ' := by rw [x_seq, e]; rfl
theorem seq_ends {s t : MS} {ρ : Rho} {Q : Rho → Prop} {P : Fl → Rho → Prop} (e : EndsS (s ρ) fun f r => f = .nx ∧ Q r) (k : ∀ r, Q r → EndsS (t r) P) : EndsS (sSeq s t ρ) P := EndsS.seq e k
theorem set_to {i : Nat} {g : Rho → M D} {ρ : Rho} {d : D} (e : g ρ = ret d) : sSet i g ρ = okS .nx (ρ.set i (.dat d)) := by rw [x_set, e]; rfl
theorem set_err {i : Nat} {g : Rho → M D} {ρ : Rho} {c : Nat} {d : D} (e : g ρ = fail c d) : sSet i g ρ = errS c d ρ := by rw [x_set, e]; rfl
theorem seq_err {s t : MS} {ρ ρ' : Rho} {c : Nat} {d : D} (e : s ρ = errS c d ρ') : sSeq s t ρ = errS c d ρ' := by rw [x_seq, e]; rfl
theorem ret_to {g : Rho → M D} {ρ : Rho} {d : D} (e : g ρ = ret d) : endB (sRet g ρ) = ret d := by rw [x_ret, e]; rfl
theorem cM1 {m : List D → M D} {g : Rho → M D} {ρ : Rho} {d : D} (e : g ρ = ret d) : cM m (aC g aN) ρ = m [d] := by
  rw [x_cM, x_aC, e]
  funext h
  rfl
theorem cM2 {m : List D → M D} {g g2 : Rho → M D} {ρ : Rho} {d d2 : D} (e : g ρ = ret d) (e2 : g2 ρ = ret d2) : cM m (aC g (aC g2 aN)) ρ = m [d, d2] := by
  rw [x_cM, x_aC, x_aC, e, e2]
  funext h
  rfl
theorem cM3 {m : List D → M D} {g g2 g3 : Rho → M D} {ρ : Rho} {d d2 d3 : D} (e : g ρ = ret d) (e2 : g2 ρ = ret d2) (e3 : g3 ρ = ret d3) : cM m (aC g (aC g2 (aC g3 aN))) ρ = m [d, d2, d3] := by
  rw [x_cM, x_aC, x_aC, x_aC, e, e2, e3]
  funext h
  rfl
theorem b2_of {f : D → D → Option D} {a b : Rho → M D} {ρ : Rho} {x y : D} (e : a ρ = ret x) (e2 : b ρ = ret y) : b2 f a b ρ = op2 f x y := by
  rw [x_b2, e, e2]
  funext h
  rfl
theorem cA1 {f : List D → Option D} {g : Rho → M D} {ρ : Rho} {d : D} (e : g ρ = ret d) : cA f (aC g aN) ρ = opA f [d] := by
  rw [x_cA, x_aC, e]
  funext h
  rfl
theorem cA2 {f : List D → Option D} {g g2 : Rho → M D} {ρ : Rho} {d d2 : D} (e : g ρ = ret d) (e2 : g2 ρ = ret d2) : cA f (aC g (aC g2 aN)) ρ = opA f [d, d2] := by
  rw [x_cA, x_aC, x_aC, e, e2]
  funext h
  rfl
theorem tV_of {g : Rho → M D} {ρ : Rho} {b : Bool} (e : g ρ = ret (.bool b)) : tV g ρ = ret b := by rw [x_tV, e]; rfl
theorem if_of {c : Rho → M Bool} {s t : MS} {ρ : Rho} {b : Bool} (e : c ρ = ret b) : sIf c s t ρ = if b = true then s ρ else t ρ := by
  rw [x_if, e]
  cases b <;> rfl
theorem draw (n : Int) (h0 : 0 < n) : Ends (m__law_draw [tok, .int n]) fun d => ∃ r, d = .int r ∧ 0 ≤ r ∧ r < n := draw_ends n h0
theorem x_frz_dat {i : Nat} {ρ : Rho} {d : D} (e : ρ[i]? = some (.dat d)) : sFrz i ρ = okS .nx ρ := by
  funext h
  unfold sFrz
  rw [e]
  rfl
/-! ### comprehensions -/
theorem comp_of' {α : Type} {i : Nat} {g : Rho → M D} {ρ : Rho} {e f : α → D} : ∀ (xs : List α) (acc : List D), (∀ x ∈ xs, g (ρ.set i (.dat (e x))) = ret (f x)) → (∀ x ∈ xs, isTok (f x) = false) → acc.length + xs.length ≤ 1000000 → comp1 (tgN i) tYs g ρ (xs.map e) acc = ret (.list (acc ++ xs.map f))
  | [], acc, _, _, _ => by simp
  | x :: xs, acc, h, t, l => by
    rw [List.map_cons, comp_cons, h x (by simp), nerr_ret, bnd_ret, if_pos ⟨t x (by simp), by simp at l; omega⟩, comp_of' xs _ (fun y m => h y (by simp [m])) (fun y m => t y (by simp [m])) (by simp at l ⊢; omega)]
    simp
theorem comp_of {α : Type} {i : Nat} {g : Rho → M D} {ρ : Rho} {e f : α → D} (xs : List α) (h : ∀ x ∈ xs, g (ρ.set i (.dat (e x))) = ret (f x)) (t : ∀ x ∈ xs, isTok (f x) = false) (l : xs.length ≤ 1000000) : comp1 (tgN i) tYs g ρ (xs.map e) [] = ret (.list (xs.map f)) := comp_of' xs [] h t (by simpa using l)
theorem comp_if' {α : Type} {i : Nat} {c : Rho → M Bool} {g : Rho → M D} {ρ : Rho} {e f : α → D} {p : α → Bool} : ∀ (xs : List α) (acc : List D), (∀ x ∈ xs, c (ρ.set i (.dat (e x))) = ret (p x)) → (∀ x ∈ xs, p x = true → g (ρ.set i (.dat (e x))) = ret (f x)) → (∀ x ∈ xs, isTok (f x) = false) → acc.length + xs.length ≤ 1000000 → comp1 (tgN i) c g ρ (xs.map e) acc = ret (.list (acc ++ (xs.filter p).map f))
  | [], acc, _, _, _, _ => by simp
  | x :: xs, acc, hc, h, t, l => by
    have step : comp1 (tgN i) c g ρ (e x :: xs.map e) acc = bnd (nerr (c (ρ.set i (.dat (e x))))) fun b => if b = true then bnd (nerr (g (ρ.set i (.dat (e x))))) fun y => if isTok y = false ∧ acc.length < 1000000 then comp1 (tgN i) c g ρ (xs.map e) (acc ++ [y]) else stk else comp1 (tgN i) c g ρ (xs.map e) acc := rfl
    rw [List.map_cons, step, hc x (by simp), nerr_ret, bnd_ret]
    by_cases b : p x = true
    · rw [if_pos b, h x (by simp) b, nerr_ret, bnd_ret, if_pos ⟨t x (by simp), by simp at l; omega⟩, comp_if' xs _ (fun y m => hc y (by simp [m])) (fun y m => h y (by simp [m])) (fun y m => t y (by simp [m])) (by simp at l ⊢; omega)]
      simp [b]
    · rw [if_neg b, comp_if' xs _ (fun y m => hc y (by simp [m])) (fun y m => h y (by simp [m])) (fun y m => t y (by simp [m])) (by simp at l ⊢; omega)]
      simp [b]
theorem comp_if {α : Type} {i : Nat} {c : Rho → M Bool} {g : Rho → M D} {ρ : Rho} {e f : α → D} {p : α → Bool} (xs : List α) (hc : ∀ x ∈ xs, c (ρ.set i (.dat (e x))) = ret (p x)) (h : ∀ x ∈ xs, p x = true → g (ρ.set i (.dat (e x))) = ret (f x)) (t : ∀ x ∈ xs, isTok (f x) = false) (l : xs.length ≤ 1000000) :
    comp1 (tgN i) c g ρ (xs.map e) [] = ret (.list ((xs.filter p).map f)) := comp_if' xs [] hc h t (by simpa using l)
theorem bools_of {α : Type} (p : α → Bool) : ∀ xs : List α, boolsOf (xs.map fun x => PyData.bool (p x)) = some (xs.map p)
  | [] => rfl
  | x :: xs => by
    rw [List.map_cons, List.map_cons, boolsOf, bools_of p xs]
    rfl
theorem o_all {α : Type} (p : α → Bool) (xs : List α) : opA fAll [.list (xs.map fun x => PyData.bool (p x))] = ret (.bool (xs.all p)) := by
  show lift ((boolsOf (xs.map fun x => PyData.bool (p x))).map fun bs => PyData.bool (bs.all id)) = _
  rw [bools_of, Option.map_some, List.all_map]
  rfl
theorem o_any {α : Type} (p : α → Bool) (xs : List α) : opA fAny [.list (xs.map fun x => PyData.bool (p x))] = ret (.bool (xs.any p)) := by
  show lift ((boolsOf (xs.map fun x => PyData.bool (p x))).map fun bs => PyData.bool (bs.any id)) = _
  rw [bools_of, Option.map_some, List.any_map]
  rfl
theorem upTo0 (n : Nat) : upTo 0 n = (List.range n).map fun (k : Nat) => PyData.int k := by
  unfold upTo
  refine List.map_congr_left fun k _ => ?_
  rw [Int.zero_add]
theorem upTo_add (s : Int) (n m : Nat) : upTo s (n + m) = upTo s n ++ upTo (s + n) m := by
  unfold upTo
  rw [List.range_add, List.map_append, List.map_map]
  congr 1
  refine List.map_congr_left fun k _ => ?_
  show PyData.int _ = PyData.int _
  congr 1
  simp
  omega
/-! ### is it a whole number -/
def isI : D → Bool
  | .int _ => true
  | _ => false
def ndD : D → Bool
  | .dict _ => false
  | _ => true
theorem isi {d : D} (h : ndD d = true) : m_is_int [d] = ret (.bool (isI d)) := by
  rw [is_is_int, s_is_int]
  cases d with
  | dict _ => cases h
  | _ => simp [isI]
theorem whole {d : D} (h : ndD d = true) : m__law_whole [d] = ret (.bool (isI d)) := by
  rw [is__law_whole, s__law_whole]
  cases d with
  | dict _ => cases h
  | _ => simp [isI]
/-! ### told -/
def pr (p : Pt) : D := tupD (Pt.row p)
def prL (p : Pt) : D := .list [.int p.1, .int p.2]
def tt (told : List Pt) : D := .tuple (told.map pr)
def tl (told : List Pt) : D := .list (told.map pr)
def ti (xs : List Int) : D := tupD xs
theorem pr_is (p : Pt) : pr p = .tuple [.int p.1, .int p.2] := rfl
theorem pr0 (p : Pt) : op2 fIx (pr p) (.int 0) = ret (.int p.1) := rfl
theorem pr1 (p : Pt) : op2 fIx (pr p) (.int 1) = ret (.int p.2) := rfl
theorem prN (p : Pt) : opA fLen [pr p] = ret (.int 2) := rfl
theorem prT (p : Pt) : gIsi ["tuple"] (pr p) = ret (.bool true) := i_tup_tuple _
theorem rangeN {j : Int} (n : Nat) (e : j = (n : Int)) (h : n ≤ 1000000) : rangeOf [.int j] = some (upTo 0 n) := by
  subst e
  have := range_1' (j := (n : Int)) (by omega) (by omega)
  rwa [Int.toNat_natCast] at this
theorem forN {g : Rho → M (List D)} {t : Tgt} {b : MS} {ρ : Rho} {n : Nat} (e : g ρ = ret [.int (n : Int)]) (h : n ≤ 1000000) : sForR g t b ρ = loopL t b (upTo 0 n) ρ := by
  rw [x_forR, e, bndS_ret, rangeN n rfl h, orStuck_some]
theorem compN {vs : List Nat} {gi : Rho → M (List D)} {t : Tgt} {c : Rho → M Bool} {g : Rho → M D} {ρ : Rho} {n : Nat} (e : gi ρ = ret [.int (n : Int)]) (h : n ≤ 1000000) : gCompR vs gi t c g ρ = comp1 t c g (wipeR ρ vs) ((List.range n).map fun (k : Nat) => PyData.int k) [] := by
  rw [x_compR, e, bnd_ret, rangeN n rfl h, orStk_some, upTo0]
theorem plain_form {d : D} (h : okP 12 d = true) : m_plain_form [d] = ret (plainD d) := by
  rw [is_plain_form, s_plain_form]
  simp [m_told_plainly, m_plain h]
abbrev tsB : MS := (sSeq (sSet 3 (b2 fIx (gVar 1) (gVar 2)))
 (sSeq (sIf (tOr' (tNo (tV (cI ["tuple"] (gVar 3)))) (tOr' (tV (b2 fNe (cA fLen (aC (gVar 3) aN)) (cK (.int 2)))) (tOr' (tNo (tV (cM m_is_int (aC (b2 fIx (gVar 3) (cK (.int 0))) aN)))) (tNo (tV (cM m_is_int (aC (b2 fIx (gVar 3) (cK (.int 1))) aN)))))))
 (sRaise 0 fun ρ => bnd ((gVar 2) ρ) fun d => nerr (bnd (m_told_plainly [d]) fun z => if isTok z then stk else ret z))
 sSkip)
 (sIf (tV (b2 fGt (b2 fIx (gVar 3) (cK (.int 0))) (b2 fIx (gVar 3) (cK (.int 1)))))
 (sRaise 0 fun ρ => bnd ((gVar 2) ρ) fun d => nerr (bnd (m_told_plainly [d]) fun z => if isTok z then stk else ret z))
 sSkip)))
theorem ts_ok {x0 x3 : Sl} {ds : List D} {i : Int} {p : Pt} (e : atI ds i = some (pr p)) (h : p.1 ≤ p.2) : tsB [x0, .dat (.tuple ds), .dat (.int i), x3] = okS .nx [x0, .dat (.tuple ds), .dat (.int i), .dat (pr p)] := by
  have h' : ¬ p.2 < p.1 := by omega
  have i1 : m_is_int [.int p.1] = ret (.bool true) := isi rfl
  have i2 : m_is_int [.int p.2] = ret (.bool true) := isi rfl
  unfold tsB
  simp [o_ixT e, pr0, pr1, prN, prT, i1, i2, h', o_neI]
theorem ts_loop {x0 : Sl} {rest : List D} (m : Nat) : ∀ (ps : List Pt) (pre : List D) (x2 x3 : Sl), OkP ps → ∃ y2 y3, loopL (tgN 2) tsB (upTo pre.length (ps.length + m)) [x0, .dat (.tuple (pre ++ (ps.map pr ++ rest))), x2, x3] = loopL (tgN 2) tsB (upTo (pre.length + ps.length) m) [x0, .dat (.tuple (pre ++ (ps.map pr ++ rest))), y2, y3]
  | [], pre, x2, x3, _ => ⟨x2, x3, by simp⟩
  | p :: ps, pre, x2, x3, ok => by
    obtain ⟨y2, y3, e⟩ := ts_loop m ps (pre ++ [pr p]) (.dat (.int pre.length)) (.dat (pr p)) (fun q mq => ok q (by simp [mq]))
    refine ⟨y2, y3, ?_⟩
    have at_ : atI (pre ++ ((p :: ps).map pr ++ rest)) (pre.length : Int) = some (pr p) := atI_nat (by simp)
    have l1 : (p :: ps).length + m = ps.length + m + 1 := by simp; omega
    have l2 : ((pre ++ [pr p]).length : Int) = (pre.length : Int) + 1 := by simp
    have l3 : pre ++ [pr p] ++ (ps.map pr ++ rest) = pre ++ ((p :: ps).map pr ++ rest) := by simp
    have l4 : (pre.length : Int) + 1 + (ps.length : Nat) = (pre.length : Int) + ((p :: ps).length : Nat) := by simp; omega
    rw [l2, l3, l4] at e
    rw [l1, upTo_succ, x_loopN]
    simp only [List.set_cons_succ, List.set_cons_zero]
    rw [ts_ok at_ (ok p (by simp)), turnS_nx]
    exact e
structure Src (told : List Pt) (x : D) : Prop where
  okp : okP 12 x = true
  pl : plainD x = tt told
theorem told_ok {told : List Pt} {x : D} (s : Src told x) (ok : OkP told) (l : told.length ≤ 1000) : m_told_stretches [x] = ret (tt told) := by
  obtain ⟨y2, y3, e⟩ := ts_loop (x0 := .dat x) (rest := []) 0 told [] .no .no ok
  have e' : loopL (tgN 2) tsB (upTo 0 told.length) [.dat x, .dat (tt told), .no, .no] = okS .nx [.dat x, .dat (tt told), y2, y3] := by
    simp only [List.length_nil, List.nil_append, List.append_nil, Nat.add_zero, upTo_zero, x_loop0] at e
    exact e
  rw [is_told_stretches, s_told_stretches]
  rw [seq_to (ρ' := [.dat x, .dat (tt told), .no, .no]) (by simp [plain_form s.okp, s.pl])]
  rw [seq_to (ρ' := [.dat x, .dat (tt told), .no, .no]) (by simp [tt])]
  rw [seq_to (ρ' := [.dat x, .dat (tt told), y2, y3]) ((forN (n := told.length) (by simp [tt]) (by omega)).trans e')]
  simp
/-- what is refused -/
def BadS (w : D) : Prop := ∀ (x0 : Sl) (ds : List D) (i : Int) (x3 : Sl), atI ds i = some w → ∃ ρ, tsB [x0, .dat (.tuple ds), .dat (.int i), x3] = errS 0 (.int i) ρ
theorem told_bad {told : List Pt} {x w : D} {rest : List D} (okp : okP 12 x = true) (pl : plainD x = .tuple (told.map pr ++ w :: rest)) (ok : OkP told) (l : told.length + rest.length ≤ 1000) (b : BadS w) : m_told_stretches [x] = fail 0 (.int told.length) := by
  obtain ⟨y2, y3, e⟩ := ts_loop (x0 := .dat x) (rest := w :: rest) (rest.length + 1) told [] .no .no ok
  obtain ⟨ρ, eb⟩ := b (.dat x) (told.map pr ++ w :: rest) told.length y3 (atI_nat (by simp))
  have e' : loopL (tgN 2) tsB (upTo 0 (told.length + (rest.length + 1))) [.dat x, .dat (.tuple (told.map pr ++ w :: rest)), .no, .no] = errS 0 (.int told.length) ρ := by
    simp only [List.length_nil, List.nil_append, Int.natCast_zero, Int.zero_add] at e
    refine e.trans ?_
    rw [upTo_succ, x_loopN]
    simp only [List.set_cons_succ, List.set_cons_zero]
    rw [eb, turnS_err]
  rw [is_told_stretches, s_told_stretches]
  rw [seq_to (ρ' := [.dat x, .dat (.tuple (told.map pr ++ w :: rest)), .no, .no]) (by simp [plain_form okp, pl])]
  rw [seq_to (ρ' := [.dat x, .dat (.tuple (told.map pr ++ w :: rest)), .no, .no]) (by simp)]
  rw [x_seq, show (sForR (aC (cA fLen (aC (gVar 1) aN)) aN) (tgN 2) tsB) [.dat x, .dat (.tuple (told.map pr ++ w :: rest)), .no, .no] = errS 0 (.int told.length) ρ from (forN (n := told.length + (rest.length + 1)) (by simp) (by omega)).trans e']
  rfl
theorem told_no {x : D} (okp : okP 12 x = true) (nt : gIsi ["tuple"] (plainD x) = ret (.bool false)) : m_told_stretches [x] = fail 0 (.int (-1)) := by
  have po : okP 12 (.int (-1)) = true := by simp [okP]
  have pi : plainD (.int (-1)) = .int (-1) := by simp [plainD]
  rw [is_told_stretches, s_told_stretches]
  simp [plain_form okp, nt, m_told_plainly, m_plain po, pi]
end L2.AR.T
set_option Elab.async false
set_option linter.all false
set_option maxRecDepth 100000
set_option maxHeartbeats 4000000
namespace L2.AR.T
open PySem PySem.Spec PyProof.Rows
theorem o_sortL {ds : List D} (h : srtOk ds = true) : opA fSortB [.list ds] = ret (.list (ds.mergeSort leD)) := by
  show lift (if srtOk ds = true then some (PyData.list (ds.mergeSort leD)) else none) = _
  rw [if_pos h]
  rfl
theorem o_sortT {ds : List D} (h : srtOk ds = true) : opA fSortB [.tuple ds] = ret (.list (ds.mergeSort leD)) := by
  show lift (if srtOk ds = true then some (PyData.list (ds.mergeSort leD)) else none) = _
  rw [if_pos h]
  rfl
theorem at_told {told : List Pt} {i : Int} (h0 : 0 ≤ i) (h1 : i < told.length) : atI (told.map pr) i = some (pr (tat told i)) := by
  obtain ⟨n, rfl⟩ : ∃ n : Nat, i = n := ⟨i.toNat, by omega⟩
  refine atI_nat ?_
  have hn : n < told.length := by omega
  unfold tat
  rw [List.getElem?_map, List.getD_eq_getElem?_getD, Int.toNat_natCast, List.getElem?_eq_getElem hn]
  rfl
theorem tt_ix {told : List Pt} {i : Int} (h0 : 0 ≤ i) (h1 : i < told.length) : op2 fIx (tt told) (.int i) = ret (pr (tat told i)) := o_ixT (at_told h0 h1)
theorem tl_ix {told : List Pt} {i : Int} (h0 : 0 ≤ i) (h1 : i < told.length) : op2 fIx (tl told) (.int i) = ret (pr (tat told i)) := o_ixL (at_told h0 h1)
theorem tt_len (told : List Pt) : opA fLen [tt told] = ret (.int told.length) := by simp [tt]
theorem tl_len (told : List Pt) : opA fLen [tl told] = ret (.int told.length) := by simp [tl]
theorem ti_len (xs : List Int) : opA fLen [ti xs] = ret (.int xs.length) := by simp [ti, tupD]
abbrev grC : Rho → M Bool := (tOr' (tV (b2 fEq (cA fLen (aC (gVar 1) aN)) (cK (.int 0)))) (tV (b2 fLt (b2 fIx (gVar 1) (b2 fSub (cA fLen (aC (gVar 1) aN)) (cK (.int 1)))) (gVar 4))))
abbrev grB : MS := (sIf (tPk 1 grC)
 (sSeq (sApp 1 (gVar 3))
 (sApp 2 (gVar 5)))
 sSkip)
theorem gr_cond {C : List Tr} {x : Tr} {x0 x2 x3 x5 : Sl} : grC [x0, .dat (.list (C.map fun c => .int c.l)), x2, x3, .dat (.int x.f), x5] = ret (grT C x) := by
  unfold grC grT
  cases e : C.getLast? with
  | none =>
    rw [List.getLast?_eq_none_iff] at e
    subst e
    simp [o_eqI]
  | some c =>
    obtain ⟨i, rfl⟩ := List.getLast?_eq_some_iff.mp e
    have l0 : (((((i ++ [c]).map fun c => PyData.int c.l).length : Nat) : Int) == 0) = false := by
      simp
      omega
    have at_ : atI ((i ++ [c]).map fun c => PyData.int c.l) ((((i ++ [c]).map fun c => PyData.int c.l).length : Nat) - 1) = some (.int c.l) := by
      have : ((((i ++ [c]).map fun c => PyData.int c.l).length : Nat) : Int) - 1 = (i.length : Nat) := by simp
      rw [this]
      exact atI_nat (by simp)
    simp only [x_tOr, x_tV, x_b2, x_cA, x_aC, x_aN, gVar0, gVarS, bnd_ret, o_lenL, x_cK, o_eqI, asB_bool, l0, o_sub, o_ixL at_, o_lt]
    simp
theorem gr_turn {C : List Tr} {x : Tr} {x0 : Sl} (l : C.length < 1000) : grB [x0, .own (C.map fun c => .int c.l), .own (C.map fun c => .int c.a), .dat (.int x.l), .dat (.int x.f), .dat (.int x.a)] =
    okS .nx (let C' := if grT C x = true then C ++ [x] else C; [x0, .own (C'.map fun c => .int c.l), .own (C'.map fun c => .int c.a), .dat (.int x.l), .dat (.int x.f), .dat (.int x.a)]) := by
  have c := x_tPk (i := 1) (u := grC) (ρ := [x0, .own (C.map fun c => .int c.l), .own (C.map fun c => .int c.a), .dat (.int x.l), .dat (.int x.f), .dat (.int x.a)]) (ds := C.map fun c => .int c.l) (b := grT C x) rfl (by
    simp only [viewR, List.set_cons_succ, List.set_cons_zero, List.map_cons, List.map_nil, unT_own, unT_dat (tok_int _), unT_dat (tok_list _)]
    exact gr_cond)
  unfold grB
  rw [x_if, c, bndS_ret]
  by_cases t : grT C x = true
  · rw [if_pos t, if_pos t]
    rw [seq_to (ρ' := [x0, .own ((C ++ [x]).map fun c => .int c.l), .own (C.map fun c => .int c.a), .dat (.int x.l), .dat (.int x.f), .dat (.int x.a)]) (by
      rw [x_app (ds := C.map fun c => .int c.l) (d := .int x.l) rfl (by simp) rfl (by simp; omega)]
      simp)]
    rw [x_app (ds := C.map fun c => .int c.a) (d := .int x.a) rfl (by simp) rfl (by simp; omega)]
    simp
  · rw [if_neg t, if_neg t]
    simp
theorem gr_loop {x0 : Sl} : ∀ (r C : List Tr) (x3 x4 x5 : Sl), C.length + r.length ≤ 1000 → ∃ y3 y4 y5, loopL (tgT [(tgN 3), (tgN 4), (tgN 5)]) grB (r.map fun x => tupD x.row) [x0, .own (C.map fun c => .int c.l), .own (C.map fun c => .int c.a), x3, x4, x5] =
    okS .nx [x0, .own ((gr r C).map fun c => .int c.l), .own ((gr r C).map fun c => .int c.a), y3, y4, y5]
  | [], C, x3, x4, x5, _ => ⟨x3, x4, x5, rfl⟩
  | x :: r, C, x3, x4, x5, l => by
    simp only [List.length_cons] at l
    obtain ⟨y3, y4, y5, e⟩ := gr_loop (x0 := x0) r (if grT C x = true then C ++ [x] else C) (.dat (.int x.l)) (.dat (.int x.f)) (.dat (.int x.a)) (by
      by_cases c : grT C x = true
      · rw [if_pos c, List.length_append, List.length_singleton]
        omega
      · rw [if_neg c]
        omega)
    refine ⟨y3, y4, y5, ?_⟩
    rw [List.map_cons, x_loop1 (ρ1 := [x0, .own (C.map fun c => .int c.l), .own (C.map fun c => .int c.a), .dat (.int x.l), .dat (.int x.f), .dat (.int x.a)]) rfl, gr_turn (by omega), turnS_nx]
    refine e.trans ?_
    have : gr (x :: r) C = gr r (if grT C x = true then C ++ [x] else C) := by
      rw [gr]
      split <;> rfl
    rw [this]
theorem gr_len : ∀ (r C : List Tr), (gr r C).length ≤ C.length + r.length
  | [], C => by simp [gr]
  | x :: r, C => by
    rw [gr]
    have h1 := gr_len r (C ++ [x])
    have h2 := gr_len r C
    rw [List.length_append, List.length_singleton] at h1
    rw [List.length_cons]
    split <;> omega
theorem grd_len (told : List Pt) : (grd told).length ≤ told.length := by
  have := gr_len (trO told) []
  unfold trO trs at this
  simpa [grd, trO, trs] using this
theorem greedy_hits {told : List Pt} (l : told.length ≤ 1000) : m_greedy_hits [tt told] = ret (.tuple [ti (gHits told), ti (gAp told)]) := by
  have lt : (trO told).length = told.length := by simp [trO, trs]
  have lg := grd_len told
  obtain ⟨y3, y4, y5, e⟩ := gr_loop (x0 := .dat (tt told)) (trO told) [] .no .no .no (by rw [lt]; simpa using l)
  have e' : loopL (tgT [(tgN 3), (tgN 4), (tgN 5)]) grB ((trO told).map fun x => tupD x.row) [.dat (tt told), .own [], .own [], .no, .no, .no] = okS .nx [.dat (tt told), .own ((grd told).map fun c => .int c.l), .own ((grd told).map fun c => .int c.a), y3, y4, y5] := e
  have srt : cA fSortB (aC (gCompR [5] (aC (cA fLen (aC (gVar 0) aN)) aN) (tgN 5) tYs (cA mkTup (aC (b2 fIx (b2 fIx (gVar 0) (gVar 5)) (cK (.int 1))) (aC (b2 fIx (b2 fIx (gVar 0) (gVar 5)) (cK (.int 0))) (aC (gVar 5) aN))))) aN) [.dat (tt told), .own [], .own [], .no, .no, .no] = ret (.list ((trO told).map fun x => tupD x.row)) := by
    rw [x_cA, x_aC, compN (n := told.length) (by simp [tt_len]) (by omega)]
    rw [comp_of (f := fun (k : Nat) => tupD (Tr.row ⟨(tat told k).2, (tat told k).1, k⟩)) (List.range told.length) (fun k m => by
      have hk := List.mem_range.mp m
      simp [wipeR, tt_ix (told := told) (i := (k : Int)) (by omega) (by omega), pr0, pr1, mkT]
      rfl) (fun k m => rfl) (by simp; omega)]
    have em : ((List.range told.length).map fun (k : Nat) => tupD (Tr.row ⟨(tat told k).2, (tat told k).1, k⟩)) = (trs told).map fun x => tupD x.row := by simp [trs]
    rw [em]
    have ok := ok_trs (xs := trs told) (by simp [trs]; omega)
    simp only [bnd_ret, x_aN, o_sortL ok, sort_trs]
  rw [is_greedy_hits, s_greedy_hits]
  rw [seq_to (ρ' := [.dat (tt told), .own [], .no, .no, .no, .no]) (x_new 1 _), seq_to (ρ' := [.dat (tt told), .own [], .own [], .no, .no, .no]) (x_new 2 _)]
  rw [seq_to (ρ' := [.dat (tt told), .own ((grd told).map fun c => .int c.l), .own ((grd told).map fun c => .int c.a), y3, y4, y5]) (by
    rw [x_for, srt, bndS_ret, items_list, orStuck_some]
    exact e')]
  rw [seq_to (ρ' := [.dat (tt told), .dat (.list ((grd told).map fun c => .int c.l)), .own ((grd told).map fun c => .int c.a), y3, y4, y5]) (x_frz_own rfl)]
  rw [seq_to (ρ' := [.dat (tt told), .dat (.list ((grd told).map fun c => .int c.l)), .dat (.list ((grd told).map fun c => .int c.a)), y3, y4, y5]) (x_frz_own rfl)]
  have m1 : ((grd told).map fun c => PyData.int c.l) = (gHits told).map .int := by simp [gHits]
  have m2 : ((grd told).map fun c => PyData.int c.a) = ((grd told).map (·.a)).map .int := by simp
  have ok2 : srtOk (((grd told).map (·.a)).map .int) = true := ok_nums (by simp; omega)
  rw [m1, m2]
  simp [-List.map_map, o_sortL ok2, sort_nums, mkT, gAp, ti, tupD]
theorem hit_number {told : List Pt} {x : D} (s : Src told x) (ok : OkP told) (l : told.length ≤ 1000) : m_hit_number [x] = ret (.int (gHits told).length) := by
  have i0 := o_ixT (show atI [ti (gHits told), ti (gAp told)] 0 = some (ti (gHits told)) from rfl)
  rw [is_hit_number, s_hit_number, seq_to (set_to ((cM1 (gVar0 x _)).trans (told_ok s ok l)))]
  exact ret_to ((cA1 ((b2_of ((cM1 (d := tt told) (by simp)).trans (greedy_hits l)) (x_cK _ _)).trans i0)).trans (ti_len _))
theorem fewest_hits {told : List Pt} {x : D} (s : Src told x) (ok : OkP told) (l : told.length ≤ 1000) : m_fewest_hits [x] = ret (.tuple [ti (gHits told), ti (gAp told)]) := by
  rw [is_fewest_hits, s_fewest_hits, seq_to (set_to ((cM1 (gVar0 x _)).trans (told_ok s ok l)))]
  exact ret_to ((cM1 (d := tt told) (by simp)).trans (greedy_hits l))
/-! ### is a stretch hit -/
theorem ch_in {p : Pt} {h : Int} {x1 : Sl} : ch3 fLe fLe (b2 fIx (gVar 0) (cK (.int 0))) (gVar 2) (b2 fIx (gVar 0) (cK (.int 1))) [.dat (pr p), x1, .dat (.int h)] = ret (.bool (inP p h)) := by
  unfold ch3 inP
  by_cases c : p.1 ≤ h <;> simp [pr0, pr1, c]
theorem hit_comp {p : Pt} {hs : List Int} {d : D} (hd : itemsOf d = some (hs.map .int)) (l : hs.length ≤ 1000) : (gComp [2] (gVar 1) (tgN 2) tYs (ch3 fLe fLe (b2 fIx (gVar 0) (cK (.int 0))) (gVar 2) (b2 fIx (gVar 0) (cK (.int 1))))) [.dat (pr p), .dat d, .no] = ret (.list (hs.map fun h => .bool (inP p h))) := by
  rw [x_comp]
  simp only [gVar0, gVarS, bnd_ret, hd, orStk_some]
  exact comp_of hs (fun h _ => ch_in) (fun _ _ => rfl) (by omega)
theorem is_hit {p : Pt} {hs : List Int} {d : D} (hd : itemsOf d = some (hs.map .int)) (l : hs.length ≤ 1000) : m_is_hit [pr p, d] = ret (.bool (hitP p hs)) := by
  rw [is_is_hit, s_is_hit]
  simp only [x_ret', x_cA, x_aC, x_aN, hit_comp hd l, bnd_ret, o_any, bndS_ret, endB_rt]
  rfl
theorem law_is_hit {p : Pt} {hs : List Int} {d : D} (hd : itemsOf d = some (hs.map .int)) (l : hs.length ≤ 1000) : m__law_is_hit [pr p, d] = ret (.bool (hitP p hs)) := by
  rw [is__law_is_hit, s__law_is_hit]
  simp only [x_ret', x_cA, x_aC, x_aN, hit_comp hd l, bnd_ret, o_any, bndS_ret, endB_rt]
  rfl
end L2.AR.T
set_option Elab.async false
set_option linter.all false
set_option maxRecDepth 100000
set_option maxHeartbeats 4000000
namespace L2.AR.T
open PySem PySem.Spec PyProof.Rows
theorem cut_from (ds : List D) (i : Nat) (h : i ≤ ds.length) : cutD ds (some (i : Int)) none = ds.drop i := by
  unfold cutD HT.sIx
  have e : ((i : Int) < 0) = False := by simp
  simp [e]
  rw [Nat.min_eq_left h]
  exact List.take_of_length_le (by simp)
theorem cut_to (ds : List D) (i : Nat) (h : i ≤ ds.length) : cutD ds none (some (i : Int)) = ds.take i := by
  unfold cutD HT.sIx
  have e : ((i : Int) < 0) = False := by simp
  simp [e]
theorem pick_range : ∀ (xs : List Int) (m : Nat), ((List.range xs.length).filter fun k => decide (m / 2 ^ k % 2 = 1)).map (fun k => xs.getD k 0) = pick xs m
  | [], m => rfl
  | x :: xs, m => by
    have ih := pick_range xs (m / 2)
    have e : (List.map (fun k => (x :: xs).getD k 0) (List.filter (fun k => decide (m / 2 ^ k % 2 = 1)) (List.map Nat.succ (List.range xs.length)))) = pick xs (m / 2) := by
      rw [← ih, List.filter_map, List.map_map]
      have f : ((fun k => decide (m / 2 ^ k % 2 = 1)) ∘ Nat.succ) = fun k => decide (m / 2 / 2 ^ k % 2 = 1) := by
        funext k
        show decide (m / 2 ^ (k + 1) % 2 = 1) = _
        rw [Nat.div_div_eq_div_mul, Nat.pow_succ, Nat.mul_comm]
      rw [f]
      rfl
    rw [List.length_cons, List.range_succ_eq_map, List.filter_cons]
    by_cases c : m % 2 = 1
    · have c' : decide (m / 2 ^ 0 % 2 = 1) = true := by simp [c]
      rw [if_pos c', List.map_cons, e, pick, if_pos c]
      rfl
    · have c' : ¬ decide (m / 2 ^ 0 % 2 = 1) = true := by simp [c]
      rw [if_neg c', e, pick, if_neg c]
theorem o_shr (m k : Nat) : op2 fShr (.int (m : Int)) (.int (k : Int)) = ret (.int ((m / 2 ^ k : Nat) : Int)) := by
  have : op2 fShr (.int (m : Int)) (.int (k : Int)) = ret (.int ((m : Int) / 2 ^ (k : Int).toNat)) := by
    show lift (if decide (0 ≤ (k : Int)) = true then some (PyData.int ((m : Int) / 2 ^ (k : Int).toNat)) else none) = _
    rw [if_pos (by simp)]
    rfl
  rw [this, Int.toNat_natCast]
  congr 2
theorem o_and1 (a : Nat) : op2 fAnd (.int (a : Int)) (.int 1) = ret (.int ((a % 2 : Nat) : Int)) := by
  have : op2 fAnd (.int (a : Int)) (.int 1) = ret (.int (Builtin.bitAnd (a : Int) 1)) := rfl
  rw [this]
  have e : Builtin.bitAnd (a : Int) 1 = ((a % 2 : Nat) : Int) := by
    show (((a &&& 1 : Nat)) : Int) = _
    rw [Nat.and_one_is_mod]
  rw [e]
theorem o_shl (n : Nat) (h : n ≤ 1000) : op2 fShl (.int 1) (.int (n : Int)) = ret (.int ((2 ^ n : Nat) : Int)) := by
  have : op2 fShl (.int 1) (.int (n : Int)) = ret (.int (1 * 2 ^ (n : Int).toNat)) := by
    show lift (if (decide (0 ≤ (n : Int)) && decide ((n : Int) ≤ 1000000) && small64 1) = true then some (PyData.int (1 * 2 ^ (n : Int).toNat)) else none) = _
    rw [if_pos (by
      have s : small64 1 = true := by decide
      rw [s]
      simp
      omega)]
    rfl
  rw [this, Int.toNat_natCast, Int.one_mul]
  congr 2
theorem at_num {xs : List Int} {k : Nat} (h : k < xs.length) : atI (xs.map PyData.int) (k : Int) = some (.int (xs.getD k 0)) := by
  refine atI_nat ?_
  rw [List.getElem?_map, List.getD_eq_getElem?_getD, List.getElem?_eq_getElem h]
  rfl
/-! ### by mask -/
abbrev blP : Rho → M D := (gCompR [5] (aC (cA fLen (aC (gVar 0) aN)) aN) (tgN 5) (tV (b2 fEq (b2 fAnd (b2 fShr (gVar 2) (gVar 5)) (cK (.int 1))) (cK (.int 1)))) (b2 fIx (gVar 0) (gVar 5)))
abbrev blB : MS := (sSeq (sSet 3 (cA fTuple (aC blP aN)))
 (sApp 1 (cA mkTup (aC (cA fLen (aC (gVar 3) aN)) (aC (gVar 3) aN)))))
theorem bl_pick {xs : List Int} {m : Nat} {x1 x3 x4 x5 : Sl} (l : xs.length ≤ 1000) : blP [.dat (.list (xs.map .int)), x1, .dat (.int (m : Int)), x3, x4, x5] = ret (.list ((pick xs m).map .int)) := by
  unfold blP
  rw [compN (n := xs.length) (by simp) (by omega)]
  rw [comp_if (p := fun k => decide (m / 2 ^ k % 2 = 1)) (f := fun (k : Nat) => PyData.int (xs.getD k 0)) (List.range xs.length) (fun k mk => ?_) (fun k mk _ => ?_) (fun k mk => rfl) (by simp; omega)]
  · rw [← pick_range, List.map_map]
    rfl
  · have e : ((((m / 2 ^ k % 2 : Nat) : Int)) == 1) = decide (m / 2 ^ k % 2 = 1) := by
      generalize m / 2 ^ k % 2 = z
      rw [Bool.eq_iff_iff, beq_iff_eq, decide_eq_true_eq]
      omega
    simp only [wipeR, List.foldl_cons, List.foldl_nil, List.set_cons_succ, List.set_cons_zero, x_tV, x_b2, gVarS, gVar0, bnd_ret, x_cK, o_shr, o_and1, o_eqI, asB_bool, e]
  · have := List.mem_range.mp mk
    simp only [wipeR, List.foldl_cons, List.foldl_nil, List.set_cons_succ, List.set_cons_zero, x_b2, gVarS, gVar0, bnd_ret, o_ixL (at_num this)]
theorem bl_loop {xs : List Int} {x4 x5 : Sl} (l : xs.length ≤ 1000) : ∀ (k s : Nat) (x2 x3 : Sl), s + k ≤ 10000 → ∃ y2 y3, loopL (tgN 2) blB (upTo (s : Int) k) [.dat (.list (xs.map .int)), .own ((List.range s).map fun m => nestD (pick xs m)), x2, x3, x4, x5] =
    okS .nx [.dat (.list (xs.map .int)), .own ((List.range (s + k)).map fun m => nestD (pick xs m)), y2, y3, x4, x5]
  | 0, s, x2, x3, _ => ⟨x2, x3, rfl⟩
  | k + 1, s, x2, x3, h => by
    obtain ⟨y2, y3, e⟩ := bl_loop (x4 := x4) (x5 := x5) l k (s + 1) (.dat (.int (s : Int))) (.dat (ti (pick xs s))) (by omega)
    refine ⟨y2, y3, ?_⟩
    have e1 : ((s + 1 : Nat) : Int) = (s : Int) + 1 := by simp
    have e2 : s + 1 + k = s + (k + 1) := by omega
    rw [e1, e2] at e
    rw [upTo_succ, x_loopN]
    simp only [List.set_cons_succ, List.set_cons_zero]
    have turn : blB [.dat (.list (xs.map .int)), .own ((List.range s).map fun m => nestD (pick xs m)), .dat (.int (s : Int)), x3, x4, x5] = okS .nx [.dat (.list (xs.map .int)), .own ((List.range (s + 1)).map fun m => nestD (pick xs m)), .dat (.int (s : Int)), .dat (ti (pick xs s)), x4, x5] := by
      unfold blB
      rw [seq_to (set_to ((cA1 (bl_pick l)).trans (o_tupL _)))]
      rw [x_app (ds := (List.range s).map fun m => nestD (pick xs m)) (d := nestD (pick xs s)) rfl (by
        simp [mkT, nestD, tupD]) rfl (by simp; omega)]
      rw [List.range_succ, List.map_append]
      rfl
    rw [turn, turnS_nx]
    exact e
theorem lots_by_length {xs : List Int} (l : xs.length ≤ 10) : m_lots_by_length [.list (xs.map .int)] = ret (.list ((sLots xs).map ti)) := by
  have p10 : 2 ^ xs.length ≤ 2 ^ 10 := Nat.pow_le_pow_right (by decide) l
  obtain ⟨y2, y3, e⟩ := bl_loop (xs := xs) (x4 := .no) (x5 := .no) (by omega) (2 ^ xs.length) 0 .no .no (by omega)
  rw [Nat.zero_add] at e
  rw [is_lots_by_length, s_lots_by_length, seq_to (ρ' := [.dat (.list (xs.map .int)), .own ((List.range 0).map fun m => nestD (pick xs m)), .no, .no, .no, .no]) (x_new 1 _)]
  rw [seq_to ((forN (n := 2 ^ xs.length) (by
    simp only [List.set_cons_succ, List.set_cons_zero, x_aC, x_b2, x_cK, x_cA, gVar0, bnd_ret, x_aN, o_lenL, List.length_map, o_shl xs.length (by omega)]) (by omega)).trans e)]
  rw [seq_to (x_frz_own rfl)]
  have em : ((List.range (2 ^ xs.length)).map fun m => nestD (pick xs m)) = (lotsL xs).map nestD := by
    rw [← lots_pick, List.map_map]
    rfl
  have ll := lots_len xs
  have sl := sLots_len xs
  refine ret_to ?_
  rw [x_comp]
  simp only [List.set_cons_succ, List.set_cons_zero]
  rw [cA1 (d := .list ((lotsL xs).map nestD)) (by simp only [gVarS, gVar0, em]), o_sortL (ok_nest (by omega)), sort_nest, bnd_ret, items_list, orStk_some]
  exact comp_of (sLots xs) (fun x _ => rfl) (fun x _ => rfl) (by omega)
/-! ### by doubling -/
abbrev lwB : MS := (sSet 1 (b2 fAdd (gVar 1) (gComp [3] (gVar 1) (tgN 3) tYs (b2 fAdd (gVar 3) (cA mkTup (aC (gVar 2) aN))))))
theorem lw_loop {x0 x3 : Sl} : ∀ (xs pre : List Int) (x2 : Sl), pre.length + xs.length ≤ 10 → ∃ y2, loopL (tgN 2) lwB (xs.map .int) [x0, .dat (.list ((lotsL pre).map ti)), x2, x3] = okS .nx [x0, .dat (.list ((lotsL (pre ++ xs)).map ti)), y2, x3]
  | [], pre, x2, _ => ⟨x2, by simp⟩
  | x :: xs, pre, x2, h => by
    rw [List.length_cons] at h
    obtain ⟨y2, e⟩ := lw_loop (x0 := x0) (x3 := x3) xs (pre ++ [x]) (.dat (.int x)) (by simp; omega)
    refine ⟨y2, ?_⟩
    have ll := lots_len pre
    have p10 : 2 ^ pre.length ≤ 2 ^ 10 := Nat.pow_le_pow_right (by decide) (by omega)
    have short : ∀ l ∈ lotsL pre, l.length ≤ 10 := fun l m => by
      have := (lots_mem.mp m).length_le
      omega
    rw [List.map_cons, x_loopN]
    simp only [List.set_cons_succ, List.set_cons_zero]
    have turn : lwB [x0, .dat (.list ((lotsL pre).map ti)), .dat (.int x), x3] = okS .nx [x0, .dat (.list ((lotsL (pre ++ [x])).map ti)), .dat (.int x), x3] := by
      unfold lwB
      have c : (gComp [3] (gVar 1) (tgN 3) tYs (b2 fAdd (gVar 3) (cA mkTup (aC (gVar 2) aN)))) [x0, .dat (.list ((lotsL pre).map ti)), .dat (.int x), x3] = ret (.list ((lotsL pre).map fun l => ti (l ++ [x]))) := by
        rw [x_comp]
        simp only [gVarS, gVar0, bnd_ret, items_list, orStk_some]
        refine comp_of (lotsL pre) (fun l m => ?_) (fun _ _ => rfl) (by omega)
        have := short l m
        simp [wipeR, mkT, ti, tupD, o_addT]
        omega
      rw [set_to ((b2_of (x := .list ((lotsL pre).map ti)) (by simp) c).trans ((o_addL _ _).trans (if_pos (by simp; omega))))]
      rw [lots_snoc, List.map_append, List.map_map]
      rfl
    rw [turn, turnS_nx]
    rw [List.append_assoc] at e
    exact e
theorem law_lots {xs : List Int} (l : xs.length ≤ 10) : m__law_lots [.list (xs.map .int)] = ret (.list ((sLots xs).map ti)) := by
  obtain ⟨y2, e⟩ := lw_loop (x0 := .dat (.list (xs.map .int))) (x3 := .no) xs [] .no (by simpa using l)
  have p10 : 2 ^ xs.length ≤ 2 ^ 10 := Nat.pow_le_pow_right (by decide) l
  have ll := lots_len xs
  have sl := sLots_len xs
  have short : ∀ l ∈ lotsL xs, l.length ≤ 10 := fun l m => by
    have := (lots_mem.mp m).length_le
    omega
  rw [is__law_lots, s__law_lots]
  rw [seq_to (set_to (d := .list ((lotsL []).map ti)) (by simp [mkT, mkL, lotsL, ti, tupD]))]
  simp only [List.set_cons_succ, List.set_cons_zero]
  rw [seq_to (ρ' := [.dat (.list (xs.map .int)), .dat (.list ((lotsL xs).map ti)), y2, .no]) (by
    rw [x_for, gVar0, bndS_ret, items_list, orStuck_some]
    exact e)]
  refine ret_to ?_
  have c : (gComp [3] (gVar 1) (tgN 3) tYs (b2 fAdd (cA mkTup (aC (cA fLen (aC (gVar 3) aN)) aN)) (gVar 3))) [.dat (.list (xs.map .int)), .dat (.list ((lotsL xs).map ti)), y2, .no] = ret (.list ((lotsL xs).map flatT)) := by
    rw [x_comp]
    simp only [gVarS, gVar0, bnd_ret, items_list, orStk_some]
    refine comp_of (lotsL xs) (fun l m => ?_) (fun _ _ => rfl) (by omega)
    have := short l m
    simp [wipeR, mkT, ti, flatT, tupD, o_addT]
    omega
  rw [x_comp, cA1 c, o_sortL (ok_flat (by omega)), sort_flat, bnd_ret, items_list, orStk_some]
  refine comp_of (lotsL xs |>.mergeSort leLot) (fun l m => ?_) (fun _ _ => rfl) (by simp; omega)
  have hm : l.length ≤ 10 := short l (List.mem_mergeSort.mp m)
  have c := cut_from (.int (l.length : Int) :: l.map PyData.int) 1 (by simp)
  have c' : sliceD (.tuple (.int (l.length : Int) :: l.map PyData.int)) (some 1) none = ret (.tuple (l.map PyData.int)) := by
    show ret (PyData.tuple (cutD _ _ _)) = _
    rw [show (1 : Int) = ((1 : Nat) : Int) from rfl, c]
    rfl
  simp [wipeR, flatT, tupD, ti, c']
end L2.AR.T
set_option Elab.async false
set_option linter.all false
set_option maxRecDepth 100000
set_option maxHeartbeats 4000000
namespace L2.AR.T
open PySem PySem.Spec PyProof.Rows
theorem o_in (t : Int) (l : List Int) : op2 (fIn false) (.int t) (ti l) = ret (.bool (decide (t ∈ l))) := by
  have fl : (l.map PyData.int).all flatD = true := by simp [flatD]
  have iv : inV (toV (.int t)) ((l.map PyData.int).map toV) = decide (t ∈ l) := by
    induction l with
    | nil => simp [inV]
    | cons x l ih =>
      have ih := ih (by simp [flatD])
      unfold inV at ih ⊢
      rw [List.map_cons, List.map_cons, List.any_cons, ih]
      have e : eqV (toV (.int x)) (toV (.int t)) = decide (x = t) := by
        show (x == t) = decide (x = t)
        rw [Bool.eq_iff_iff, beq_iff_eq, decide_eq_true_eq]
      rw [e, Bool.eq_iff_iff]
      simp
      exact or_congr_left ⟨fun z => z.symm, fun z => z.symm⟩
  show lift (if flatD (.int t) = true ∧ (l.map PyData.int).all flatD = true then some (PyData.bool (inV (toV (.int t)) ((l.map PyData.int).map toV))) else none) = _
  rw [if_pos ⟨rfl, fl⟩, iv]
  rfl
theorem has_comp {o l : List Int} {ρ : Rho} {go gl gt : Rho → M D} {i : Nat} (ho : go ρ = ret (ti o)) (hx : ∀ x, gt ((wipeR ρ [i]).set i (.dat (.int x))) = ret (.int x)) (hl : ∀ x, gl ((wipeR ρ [i]).set i (.dat (.int x))) = ret (ti l)) (ln : o.length ≤ 1000) :
    cA fAll (aC (gComp [i] go (tgN i) tYs (b2 (fIn false) gt gl)) aN) ρ = ret (.bool (has o l)) := by
  have c : gComp [i] go (tgN i) tYs (b2 (fIn false) gt gl) ρ = ret (.list (o.map fun x => .bool (decide (x ∈ l)))) := by
    rw [x_comp, ho, bnd_ret]
    show orStk _ (itemsOf (.tuple (o.map PyData.int))) = _
    rw [items_tuple, orStk_some]
    exact comp_of o (fun x _ => (b2_of (hx x) (hl x)).trans (o_in x l)) (fun _ _ => rfl) (by omega)
  rw [cA1 c, o_all]
  rfl
theorem holds_one {l : List Int} {ks : List (List Int)} (hk : ∀ o ∈ ks, o.length ≤ 1000) (ln : ks.length ≤ 10000) : m_holds_one [ti l, .list (ks.map ti)] = ret (.bool (ks.any fun o => has o l)) := by
  rw [is_holds_one, s_holds_one]
  refine ret_to ?_
  have c : (gComp [2] (gVar 1) (tgN 2) tYs (cA fAll (aC (gComp [3] (gVar 2) (tgN 3) tYs (b2 (fIn false) (gVar 3) (gVar 0))) aN))) [.dat (ti l), .dat (.list (ks.map ti)), .no, .no] = ret (.list (ks.map fun o => .bool (has o l))) := by
    rw [x_comp]
    simp only [gVarS, gVar0, bnd_ret, items_list, orStk_some]
    refine comp_of ks (fun o m => ?_) (fun _ _ => rfl) (by omega)
    exact has_comp (by simp [wipeR]) (fun x => by simp [wipeR]) (fun x => by simp [wipeR]) (hk o m)
  rw [cA1 c, o_any]
/-! ### the lasts -/
def lastsL (told : List Pt) : List Int := sortI (dedI (told.map (·.2)))
theorem lasts_mem {told : List Pt} {x : Int} : x ∈ lastsL told ↔ ∃ p ∈ told, p.2 = x := by
  unfold lastsL
  rw [(sortI_perm _).mem_iff, (dedI_ok _).2, List.mem_map]
theorem lasts_lt (told : List Pt) : (lastsL told).Pairwise (· < ·) := by
  have nd : (lastsL told).Nodup := (sortI_perm _).nodup_iff.mpr (dedI_ok _).1
  have le := sortI_srt (dedI (told.map (·.2)))
  have both : (lastsL told).Pairwise fun a b => a ≤ b ∧ a ≠ b := (show (lastsL told).Pairwise (· ≤ ·) from le).and nd
  exact both.imp fun {x y} h => by omega
theorem lasts_len (told : List Pt) : (lastsL told).length ≤ told.length := by
  unfold lastsL
  rw [(sortI_perm _).length_eq]
  have := dedI_len (told.map (·.2))
  rwa [List.length_map] at this
def sndD : D → Int
  | .tuple [_, .int l] => l
  | _ => 0
theorem snds (told : List Pt) : (told.map pr).map sndD = told.map (·.2) := by
  rw [List.map_map]
  rfl
theorem lasts_set {ρ : Rho} {gi : Rho → M D} {told : List Pt} {ga : Rho → M D} (e : gi ρ = ret (tt told)) (ha : ∀ p, ga ((wipeR ρ [5]).set 5 (.dat (pr p))) = ret (.int p.2)) (l : told.length < 64) : gSortC [5] gi (tgN 5) tYs ga ρ = ret (.list ((lastsL told).map .int)) := by
  unfold gSortC
  rw [e, bnd_ret]
  show orStk _ (itemsOf (.tuple (told.map pr))) = _
  rw [items_tuple, orStk_some, compS_map (f := sndD) (told.map pr) [] (fun d m => by
    obtain ⟨p, _, rfl⟩ := List.mem_map.mp m
    exact ha p) (by simp; omega), bnd_ret, List.nil_append, snds]
  unfold srtS
  rw [if_pos (by simpa using l)]
  rfl
theorem lasts_srt {ρ : Rho} {g : Rho → M D} {told : List Pt} (e : g ρ = ret (.list ((told.map (·.2)).map .int))) (l : told.length < 64) : cA fSortSet (aC g aN) ρ = ret (.list ((lastsL told).map .int)) := by
  rw [cA1 e]
  show lift ((intsOf ((told.map (·.2)).map PyData.int)).bind fun ns => if ns.length < 64 then some (PyData.list ((sortI (dedI ns)).map .int)) else none) = _
  rw [intsOf_map, Option.bind_some, if_pos (by simpa using l)]
  rfl
/-! ### does a lot hit all -/
theorem hit_all {m : List D → M D} {ρ : Rho} {gi gp gl : Rho → M D} {i : Nat} {d : D} {told : List Pt} {l : List Int} (hm : ∀ p, m [pr p, ti l] = ret (.bool (hitP p l))) (e : gi ρ = ret d) (ed : itemsOf d = some (told.map pr)) (hp : ∀ p, gp ((wipeR ρ [i]).set i (.dat (pr p))) = ret (pr p)) (hl : ∀ p, gl ((wipeR ρ [i]).set i (.dat (pr p))) = ret (ti l))
    (ln : told.length ≤ 1000) : cA fAll (aC (gComp [i] gi (tgN i) tYs (cM m (aC gp (aC gl aN)))) aN) ρ = ret (.bool (hitAll told l)) := by
  have c : gComp [i] gi (tgN i) tYs (cM m (aC gp (aC gl aN))) ρ = ret (.list (told.map fun p => .bool (hitP p l))) := by
    rw [x_comp, e, bnd_ret, ed, orStk_some]
    exact comp_of told (fun p _ => (cM2 (hp p) (hl p)).trans (hm p)) (fun _ _ => rfl) (by omega)
  rw [cA1 c, o_all]
  rfl
theorem items_ti (l : List Int) : itemsOf (ti l) = some (l.map .int) := rfl
/-! ### the least sets, the program -/
abbrev lhC : Rho → M Bool := (tAn (tNo (tV (cM m_holds_one (aC (gVar 4) (aC (gVar 3) aN))))) (tV (cA fAll (aC (gComp [5] (gVar 1) (tgN 5) tYs (cM m_is_hit (aC (gVar 5) (aC (gVar 4) aN)))) aN))))
abbrev lhB : MS := (sIf (tPk 3 lhC)
 (sApp 3 (gVar 4))
 sSkip)
def kpT (told : List Pt) (k : List (List Int)) (l : List Int) : Bool := !(k.any fun o => has o l) && hitAll told l
theorem keep_T (told : List Pt) (l : List Int) (r k : List (List Int)) : keep told (l :: r) k = if kpT told k l = true then keep told r (k ++ [l]) else keep told r k := by
  rw [keep]
  unfold kpT
  cases hitAll told l <;> cases (k.any fun o => has o l) <;> simp
theorem lh_cond {told : List Pt} {ks : List (List Int)} {l : List Int} {x0 x2 x5 : Sl} (hk : ∀ o ∈ ks, o.length ≤ 1000) (ll : l.length ≤ 1000) (lk : ks.length ≤ 10000) (lt : told.length ≤ 1000) : lhC [x0, .dat (tt told), x2, .dat (.list (ks.map ti)), .dat (ti l), x5] = ret (kpT told ks l) := by
  have h1 : cM m_holds_one (aC (gVar 4) (aC (gVar 3) aN)) [x0, .dat (tt told), x2, .dat (.list (ks.map ti)), .dat (ti l), x5] = ret (.bool (ks.any fun o => has o l)) := (cM2 (d := ti l) (d2 := .list (ks.map ti)) (by simp) (by simp)).trans (holds_one hk lk)
  have h2 : cA fAll (aC (gComp [5] (gVar 1) (tgN 5) tYs (cM m_is_hit (aC (gVar 5) (aC (gVar 4) aN)))) aN) [x0, .dat (tt told), x2, .dat (.list (ks.map ti)), .dat (ti l), x5] = ret (.bool (hitAll told l)) :=
    hit_all (fun p => is_hit (items_ti l) ll) (d := tt told) (by simp) rfl (fun p => by simp [wipeR]) (fun p => by simp [wipeR]) lt
  unfold lhC kpT
  rw [x_tAn, x_tNo, tV_of h1, bnd_ret, bnd_ret]
  cases (ks.any fun o => has o l)
  · exact tV_of h2
  · rfl
theorem lh_turn {told : List Pt} {ks : List (List Int)} {l : List Int} {x0 x2 x5 : Sl} (hk : ∀ o ∈ ks, o.length ≤ 1000) (ll : l.length ≤ 1000) (lk : ks.length ≤ 10000) (lt : told.length ≤ 1000) : lhB [x0, .dat (tt told), x2, .own (ks.map ti), .dat (ti l), x5] =
    okS .nx [x0, .dat (tt told), x2, .own ((if kpT told ks l = true then ks ++ [l] else ks).map ti), .dat (ti l), x5] := by
  have c := x_tPk (i := 3) (u := lhC) (ρ := [x0, .dat (tt told), x2, .own (ks.map ti), .dat (ti l), x5]) (ds := ks.map ti) (b := kpT told ks l) rfl (by
    have v : viewR 3 (ks.map ti) [x0, .dat (tt told), x2, .own (ks.map ti), .dat (ti l), x5] = [unT x0, .dat (tt told), unT x2, .dat (.list (ks.map ti)), .dat (ti l), unT x5] := by
      simp only [viewR, List.set_cons_succ, List.set_cons_zero, List.map_cons, List.map_nil, unT_own, unT_dat (show isTok (tt told) = false from rfl), unT_dat (show isTok (ti l) = false from rfl), unT_dat (tok_list _)]
    rw [v]
    exact lh_cond hk ll lk lt)
  unfold lhB
  rw [if_of c]
  by_cases t : kpT told ks l = true
  · rw [if_pos t, if_pos t, x_app (ds := ks.map ti) (d := ti l) rfl (by simp) rfl (by simp; omega), List.map_append]
    rfl
  · rw [if_neg t, if_neg t]
    rfl
theorem lh_loop {told : List Pt} {x0 x2 x5 : Sl} (lt : told.length ≤ 1000) : ∀ (r ks : List (List Int)) (x4 : Sl), (∀ o ∈ r, o.length ≤ 1000) → (∀ o ∈ ks, o.length ≤ 1000) → ks.length + r.length ≤ 10000 → ∃ y4, loopL (tgN 4) lhB (r.map ti) [x0, .dat (tt told), x2, .own (ks.map ti), x4, x5] = okS .nx [x0, .dat (tt told), x2, .own ((keep told r ks).map ti), y4, x5]
  | [], ks, x4, _, _, _ => ⟨x4, rfl⟩
  | l :: r, ks, x4, hr, hk, ln => by
    rw [List.length_cons] at ln
    have ll := hr l (by simp)
    obtain ⟨y4, e⟩ := lh_loop (x0 := x0) (x2 := x2) (x5 := x5) lt r (if kpT told ks l = true then ks ++ [l] else ks) (.dat (ti l)) (fun o m => hr o (by simp [m])) (fun o m => by
      split at m
      · rcases List.mem_append.mp m with m | m
        · exact hk o m
        · simp at m
          rw [m]
          exact ll
      · exact hk o m) (by split <;> (try rw [List.length_append, List.length_singleton]) <;> omega)
    refine ⟨y4, ?_⟩
    rw [List.map_cons, x_loopN]
    simp only [List.set_cons_succ, List.set_cons_zero]
    rw [lh_turn hk ll (by omega) lt, turnS_nx]
    refine e.trans ?_
    rw [keep_T]
    split <;> rfl
def leastL (told : List Pt) : List (List Int) := keep told (sLots (lastsL told)) []
theorem least_hits {told : List Pt} {x : D} (s : Src told x) (ok : OkP told) (l : told.length < 64) (ll : (lastsL told).length ≤ 10) : m_least_hits [x] = ret (.tuple ((leastL told).map ti)) := by
  have p10 : 2 ^ (lastsL told).length ≤ 2 ^ 10 := Nat.pow_le_pow_right (by decide) ll
  have sl := sLots_len (lastsL told)
  have short : ∀ o ∈ sLots (lastsL told), o.length ≤ 1000 := fun o m => by
    have := (sLots_mem.mp m).length_le
    omega
  obtain ⟨y4, e⟩ := lh_loop (told := told) (x0 := .dat x) (x2 := .dat (.list ((lastsL told).map .int))) (x5 := .no) (by omega) (sLots (lastsL told)) [] .no short (fun o m => by cases m) (by rw [sl]; simp; omega)
  rw [is_least_hits, s_least_hits, seq_to (set_to ((cM1 (gVar0 x _)).trans (told_ok s ok (by omega))))]
  simp only [List.set_cons_succ, List.set_cons_zero]
  rw [seq_to (set_to (lasts_set (told := told) (by simp) (fun p => by simp [wipeR, pr1]) l))]
  simp only [List.set_cons_succ, List.set_cons_zero]
  rw [seq_to (ρ' := [.dat x, .dat (tt told), .dat (.list ((lastsL told).map .int)), .no, .no, .no]) (by
    have c : b2 fGt (b2 fShl (cK (.int 1)) (cA fLen (aC (gVar 2) aN))) (cK (.int 1024)) [.dat x, .dat (tt told), .dat (.list ((lastsL told).map .int)), .no, .no, .no] = ret (.bool false) := by
      have n : ¬ (1024 : Int) < ((2 ^ (lastsL told).length : Nat) : Int) := by omega
      rw [b2_of (x := .int ((2 ^ (lastsL told).length : Nat) : Int)) ((b2_of (x_cK _ _) (cA1 (d := .list ((lastsL told).map .int)) (by simp))).trans (by rw [List.length_map]; exact o_shl _ (by omega))) (x_cK _ _), o_gt, decide_eq_false n]
    rw [if_of (tV_of c)]
    rfl)]
  rw [seq_to (ρ' := [.dat x, .dat (tt told), .dat (.list ((lastsL told).map .int)), .own (([] : List (List Int)).map ti), .no, .no]) (x_new 3 _)]
  rw [seq_to (ρ' := [.dat x, .dat (tt told), .dat (.list ((lastsL told).map .int)), .own ((leastL told).map ti), y4, .no]) (by
    rw [x_for, (cM1 (d := .list ((lastsL told).map .int)) (by simp)).trans (lots_by_length ll), bndS_ret, items_list, orStuck_some]
    exact e)]
  rw [seq_to (x_frz_own rfl)]
  exact ret_to ((cA1 (d := .list ((leastL told).map ti)) (by simp)).trans (o_tupL _))
theorem least_many {told : List Pt} {x : D} (s : Src told x) (ok : OkP told) (l : told.length < 64) (ll : 11 ≤ (lastsL told).length) : m_least_hits [x] = fail 1 (.int 1024) := by
  have p10 : 2 ^ 11 ≤ 2 ^ (lastsL told).length := Nat.pow_le_pow_right (by decide) ll
  have le := lasts_len told
  have ei : mId [.int 1024] = ret (.int 1024) := rfl
  rw [is_least_hits, s_least_hits, seq_to (set_to ((cM1 (gVar0 x _)).trans (told_ok s ok (by omega))))]
  simp only [List.set_cons_succ, List.set_cons_zero]
  rw [seq_to (set_to (lasts_set (told := told) (by simp) (fun p => by simp [wipeR, pr1]) l))]
  simp only [List.set_cons_succ, List.set_cons_zero]
  rw [seq_err (ρ' := [.dat x, .dat (tt told), .dat (.list ((lastsL told).map .int)), .no, .no, .no]) (c := 1) (d := .int 1024) (by
    have c : b2 fGt (b2 fShl (cK (.int 1)) (cA fLen (aC (gVar 2) aN))) (cK (.int 1024)) [.dat x, .dat (tt told), .dat (.list ((lastsL told).map .int)), .no, .no, .no] = ret (.bool true) := by
      have n : (1024 : Int) < ((2 ^ (lastsL told).length : Nat) : Int) := by omega
      rw [b2_of (x := .int ((2 ^ (lastsL told).length : Nat) : Int)) ((b2_of (x_cK _ _) (cA1 (d := .list ((lastsL told).map .int)) (by simp))).trans (by rw [List.length_map]; exact o_shl _ (by omega))) (x_cK _ _), o_gt, decide_eq_true n]
    rw [if_of (tV_of c), if_pos rfl, x_raise]
    simp [ei])]
  rfl
end L2.AR.T
set_option Elab.async false
set_option linter.all false
set_option maxRecDepth 100000
set_option maxHeartbeats 4000000
namespace L2.AR.T
open PySem PySem.Spec PyProof.Rows
/-! ### the least sets, the law -/
theorem noLs_nums : ∀ l : List Int, noLs (l.map PyData.int) = true
  | [] => rfl
  | x :: l => by
    rw [List.map_cons, noLs, noLs_nums l]
    rfl
theorem noL_ti (l : List Int) : noL (ti l) = true := noLs_nums l
theorem noLs_ti : ∀ ks : List (List Int), noLs (ks.map ti) = true
  | [] => rfl
  | k :: ks => by
    rw [List.map_cons, noLs, noLs_ti ks, noL_ti]
    rfl
abbrev llF : Rho → M D := (gComp [6] (gVar 2) (tgN 6) (tV (cA fAll (aC (gComp [7] (gVar 6) (tgN 7) tYs (b2 (fIn false) (gVar 7) (gVar 3))) aN))) (gVar 6))
abbrev llI : MS := (sIf (tV (b2 fEq (cA fLen (aC (gVar 4) aN)) (cK (.int 0))))
 (sApp 2 (gVar 3))
 sSkip)
abbrev llB : MS := (sIf (tV (cA fAll (aC (gComp [5] (gVar 0) (tgN 5) tYs (cM m__law_is_hit (aC (gVar 5) (aC (gVar 3) aN)))) aN)))
 (sSeq (sSet 4 (gPkC 2 llF))
 llI)
 sSkip)
theorem ll_turn {told : List Pt} {ks : List (List Int)} {l : List Int} {x1 x4 x5 x6 x7 : Sl} (hk : ∀ o ∈ ks, o.length ≤ 1000) (ll : l.length ≤ 1000) (lk : ks.length ≤ 10000) (lt : told.length ≤ 1000) : ∃ y4, llB [.dat (tl told), x1, .own (ks.map ti), .dat (ti l), x4, x5, x6, x7] =
    okS .nx [.dat (tl told), x1, .own ((if kpT told ks l = true then ks ++ [l] else ks).map ti), .dat (ti l), y4, x5, x6, x7] := by
  have h2 : cA fAll (aC (gComp [5] (gVar 0) (tgN 5) tYs (cM m__law_is_hit (aC (gVar 5) (aC (gVar 3) aN)))) aN) [.dat (tl told), x1, .own (ks.map ti), .dat (ti l), x4, x5, x6, x7] = ret (.bool (hitAll told l)) :=
    hit_all (fun p => law_is_hit (items_ti l) ll) (d := tl told) (by simp) rfl (fun p => by simp [wipeR]) (fun p => by simp [wipeR]) lt
  unfold llB kpT
  rw [if_of (tV_of h2)]
  cases hitAll told l
  · refine ⟨x4, ?_⟩
    simp
  · have f : gPkC 2 llF [.dat (tl told), x1, .own (ks.map ti), .dat (ti l), x4, x5, x6, x7] = ret (.list ((ks.filter fun o => has o l).map ti)) := by
      refine x_gPkC (ds := ks.map ti) rfl ?_ (noLs_ti _)
      have v : viewR 2 (ks.map ti) [.dat (tl told), x1, .own (ks.map ti), .dat (ti l), x4, x5, x6, x7] = [.dat (tl told), unT x1, .dat (.list (ks.map ti)), .dat (ti l), unT x4, unT x5, unT x6, unT x7] := by
        simp only [viewR, List.set_cons_succ, List.set_cons_zero, List.map_cons, List.map_nil, unT_own, unT_dat (show isTok (tl told) = false from rfl), unT_dat (show isTok (ti l) = false from rfl), unT_dat (tok_list _)]
      rw [v]
      unfold llF
      rw [x_comp]
      simp only [gVarS, gVar0, bnd_ret, items_list, orStk_some]
      refine comp_if ks (fun o m => ?_) (fun o m _ => ?_) (fun _ _ => rfl) (by omega)
      · exact tV_of (has_comp (by simp [wipeR]) (fun x => by simp [wipeR]) (fun x => by simp [wipeR]) (hk o m))
      · simp [wipeR]
    refine ⟨.dat (.list ((ks.filter fun o => has o l).map ti)), ?_⟩
    rw [if_pos rfl, seq_to (set_to f)]
    simp only [List.set_cons_succ, List.set_cons_zero]
    unfold llI
    have c : b2 fEq (cA fLen (aC (gVar 4) aN)) (cK (.int 0)) [.dat (tl told), x1, .own (ks.map ti), .dat (ti l), .dat (.list ((ks.filter fun o => has o l).map ti)), x5, x6, x7] = ret (.bool (!(ks.any fun o => has o l))) := by
      rw [b2_of (cA1 (d := .list ((ks.filter fun o => has o l).map ti)) (by simp)) (x_cK _ _), o_eqI, List.length_map]
      congr 2
      rw [Bool.eq_iff_iff, beq_iff_eq, Bool.not_eq_true', List.any_eq_false]
      constructor
      · intro z o m q
        have : o ∈ ks.filter fun o => has o l := List.mem_filter.mpr ⟨m, q⟩
        have e : (ks.filter fun o => has o l) = [] := List.eq_nil_of_length_eq_zero (by omega)
        rw [e] at this
        cases this
      · intro z
        have e : (ks.filter fun o => has o l) = [] := List.filter_eq_nil_iff.mpr z
        rw [e]
        rfl
    rw [if_of (tV_of c), Bool.and_true]
    by_cases t : (!(ks.any fun o => has o l)) = true
    · rw [if_pos t, if_pos t, x_app (ds := ks.map ti) (d := ti l) rfl (by simp) rfl (by simp; omega), List.map_append]
      rfl
    · rw [if_neg t, if_neg t]
      rfl
theorem ll_loop {told : List Pt} {x1 x5 x6 x7 : Sl} (lt : told.length ≤ 1000) : ∀ (r ks : List (List Int)) (x3 x4 : Sl), (∀ o ∈ r, o.length ≤ 1000) → (∀ o ∈ ks, o.length ≤ 1000) → ks.length + r.length ≤ 10000 → ∃ y3 y4, loopL (tgN 3) llB (r.map ti) [.dat (tl told), x1, .own (ks.map ti), x3, x4, x5, x6, x7] = okS .nx [.dat (tl told), x1, .own ((keep told r ks).map ti), y3, y4, x5, x6, x7]
  | [], ks, x3, x4, _, _, _ => ⟨x3, x4, rfl⟩
  | l :: r, ks, x3, x4, hr, hk, ln => by
    rw [List.length_cons] at ln
    have ll := hr l (by simp)
    obtain ⟨z4, t⟩ := ll_turn (told := told) (ks := ks) (l := l) (x1 := x1) (x4 := x4) (x5 := x5) (x6 := x6) (x7 := x7) hk ll (by omega) lt
    obtain ⟨y3, y4, e⟩ := ll_loop (x1 := x1) (x5 := x5) (x6 := x6) (x7 := x7) lt r (if kpT told ks l = true then ks ++ [l] else ks) (.dat (ti l)) z4 (fun o m => hr o (by simp [m])) (fun o m => by
      split at m
      · rcases List.mem_append.mp m with m | m
        · exact hk o m
        · simp at m
          rw [m]
          exact ll
      · exact hk o m) (by split <;> (try rw [List.length_append, List.length_singleton]) <;> omega)
    refine ⟨y3, y4, ?_⟩
    rw [List.map_cons, x_loopN]
    simp only [List.set_cons_succ, List.set_cons_zero]
    rw [t, turnS_nx]
    refine e.trans ?_
    rw [keep_T]
    split <;> rfl
theorem law_least {told : List Pt} (l : told.length < 64) (ll : (lastsL told).length ≤ 10) : m__law_least [tl told] = ret (.tuple ((leastL told).map ti)) := by
  have p10 : 2 ^ (lastsL told).length ≤ 2 ^ 10 := Nat.pow_le_pow_right (by decide) ll
  have sl := sLots_len (lastsL told)
  have short : ∀ o ∈ sLots (lastsL told), o.length ≤ 1000 := fun o m => by
    have := (sLots_mem.mp m).length_le
    omega
  obtain ⟨y3, y4, e⟩ := ll_loop (told := told) (x1 := .dat (.list ((lastsL told).map .int))) (x5 := .no) (x6 := .no) (x7 := .no) (by omega) (sLots (lastsL told)) [] .no .no short (fun o m => by cases m) (by rw [sl]; simp; omega)
  rw [is__law_least, s__law_least]
  have c : gComp [5] (gVar 0) (tgN 5) tYs (b2 fIx (gVar 5) (cK (.int 1))) [.dat (tl told), .no, .no, .no, .no, .no, .no, .no] = ret (.list ((told.map (·.2)).map .int)) := by
    rw [x_comp]
    show bnd (ret (tl told)) _ = _
    rw [bnd_ret]
    show orStk _ (some (told.map pr)) = _
    rw [orStk_some, List.map_map]
    exact comp_of told (fun p _ => (b2_of (x := pr p) (by simp [wipeR]) (x_cK _ _)).trans (pr1 p)) (fun _ _ => rfl) (by omega)
  rw [seq_to (set_to (lasts_srt c l))]
  simp only [List.set_cons_succ, List.set_cons_zero]
  rw [seq_to (ρ' := [.dat (tl told), .dat (.list ((lastsL told).map .int)), .own (([] : List (List Int)).map ti), .no, .no, .no, .no, .no]) (x_new 2 _)]
  rw [seq_to (ρ' := [.dat (tl told), .dat (.list ((lastsL told).map .int)), .own ((leastL told).map ti), y3, y4, .no, .no, .no]) (by
    rw [x_for, (cM1 (d := .list ((lastsL told).map .int)) (by simp)).trans (law_lots ll), bndS_ret, items_list, orStuck_some]
    exact e)]
  rw [seq_to (x_frz_own rfl)]
  exact ret_to ((cA1 (d := .list ((leastL told).map ti)) (by simp)).trans (o_tupL _))
/-! ### apart -/
def apP (p q : Pt) : Bool := !(decide (p.1 ≤ q.2) && decide (q.1 ≤ p.2))
theorem apP_iff {p q : Pt} : apP p q = true ↔ Apart p q := by
  unfold apP Apart
  simp
  omega
def apB (told : List Pt) : List Int → Bool
  | [] => true
  | a :: r => (r.all fun b => apP (tat told a) (tat told b)) && apB told r
theorem apB_iff {told : List Pt} : ∀ {as : List Int}, apB told as = true ↔ as.Pairwise fun i j => Apart (tat told i) (tat told j)
  | [] => by simp [apB]
  | a :: r => by
    rw [apB, Bool.and_eq_true, List.pairwise_cons, apB_iff, List.all_eq_true]
    exact and_congr_left fun _ => forall_congr' fun b => imp_congr_right fun _ => apP_iff
abbrev apI : MS := (sSeq (sPar 4 5 (aC (b2 fIx (gVar 0) (b2 fIx (gVar 1) (gVar 2))) (aC (b2 fIx (gVar 0) (gVar 3)) aN)))
 (sIf (tAn (tV (b2 fLe (b2 fIx (gVar 4) (cK (.int 0))) (b2 fIx (gVar 5) (cK (.int 1))))) (tV (b2 fLe (b2 fIx (gVar 5) (cK (.int 0))) (b2 fIx (gVar 4) (cK (.int 1))))))
 (sRet (cK (.bool false)))
 sSkip))
abbrev apO : MS := (sFor (sl (gVar 1) (oSo (b2 fAdd (gVar 2) (cK (.int 1)))) oNo) (tgN 3) apI)
theorem ap_test {p q : Pt} {x0 x1 x2 x3 : Sl} : (tAn (tV (b2 fLe (b2 fIx (gVar 4) (cK (.int 0))) (b2 fIx (gVar 5) (cK (.int 1))))) (tV (b2 fLe (b2 fIx (gVar 5) (cK (.int 0))) (b2 fIx (gVar 4) (cK (.int 1)))))) [x0, x1, x2, x3, .dat (pr p), .dat (pr q)] = ret (!apP p q) := by
  unfold apP
  by_cases c : p.1 ≤ q.2 <;> simp [pr0, pr1, c]
theorem ap_in {told : List Pt} {X N : D} {s a : Int} (hX : ∀ i : Int, 0 ≤ i → i < told.length → op2 fIx X (.int i) = ret (pr (tat told i))) (hN : op2 fIx N (.int s) = ret (.int a)) (ha : 0 ≤ a ∧ a < told.length) :
    ∀ (r : List Int) (x3 x4 x5 : Sl), (∀ b ∈ r, 0 ≤ b ∧ b < told.length) → ∃ y3 y4 y5, loopL (tgN 3) apI (r.map .int) [.dat X, .dat N, .dat (.int s), x3, x4, x5] = (if (r.all fun b => apP (tat told a) (tat told b)) = true then okS .nx [.dat X, .dat N, .dat (.int s), y3, y4, y5] else okS (.rt (.bool false)) [.dat X, .dat N, .dat (.int s), y3, y4, y5])
  | [], x3, x4, x5, _ => ⟨x3, x4, x5, rfl⟩
  | b :: r, x3, x4, x5, hr => by
    have hb := hr b (by simp)
    have turn : apI [.dat X, .dat N, .dat (.int s), .dat (.int b), x4, x5] = (if apP (tat told a) (tat told b) = true then okS .nx [.dat X, .dat N, .dat (.int s), .dat (.int b), .dat (pr (tat told a)), .dat (pr (tat told b))] else okS (.rt (.bool false)) [.dat X, .dat N, .dat (.int s), .dat (.int b), .dat (pr (tat told a)), .dat (pr (tat told b))]) := by
      unfold apI
      rw [seq_to (ρ' := [.dat X, .dat N, .dat (.int s), .dat (.int b), .dat (pr (tat told a)), .dat (pr (tat told b))]) (by simp [hN, hX a ha.1 ha.2, hX b hb.1 hb.2])]
      rw [if_of ap_test]
      cases apP (tat told a) (tat told b) <;> simp
    obtain ⟨y3, y4, y5, e⟩ := ap_in hX hN ha r (.dat (.int b)) (.dat (pr (tat told a))) (.dat (pr (tat told b))) (fun z m => hr z (by simp [m]))
    rw [List.map_cons, x_loopN]
    simp only [List.set_cons_succ, List.set_cons_zero]
    rw [turn]
    by_cases c : apP (tat told a) (tat told b) = true
    · have ec : ((b :: r).all fun b => apP (tat told a) (tat told b)) = (r.all fun b => apP (tat told a) (tat told b)) := by rw [List.all_cons, c, Bool.true_and]
      refine ⟨y3, y4, y5, ?_⟩
      rw [if_pos c, turnS_nx, ec]
      exact e
    · refine ⟨.dat (.int b), .dat (pr (tat told a)), .dat (pr (tat told b)), ?_⟩
      rw [if_neg c, turnS_rt, if_neg (by rw [List.all_cons]; simp [c])]
theorem ap_out {told : List Pt} {X N : D} {all : List Int} (hX : ∀ i : Int, 0 ≤ i → i < told.length → op2 fIx X (.int i) = ret (pr (tat told i))) (hN : ∀ k : Nat, k < all.length → op2 fIx N (.int (k : Int)) = ret (.int (all.getD k 0)))
    (hS : ∀ k : Nat, k ≤ all.length → ∃ d, sliceD N (some (k : Int)) none = ret d ∧ itemsOf d = some ((all.drop k).map .int)) (hr : ∀ b ∈ all, 0 ≤ b ∧ b < told.length) :
    ∀ (r pre : List Int) (x2 x3 x4 x5 : Sl), pre ++ r = all → ∃ ρ, loopL (tgN 2) apO (upTo pre.length r.length) [.dat X, .dat N, x2, x3, x4, x5] = (if apB told r = true then okS .nx ρ else okS (.rt (.bool false)) ρ)
  | [], pre, x2, x3, x4, x5, _ => ⟨_, rfl⟩
  | a :: r, pre, x2, x3, x4, x5, e => by
    have ha : all.getD pre.length 0 = a := by
      rw [← e]
      simp [List.getD_eq_getElem?_getD]
    have ra := hr a (by rw [← e]; simp)
    have n := hN pre.length (by rw [← e]; simp)
    rw [ha] at n
    have l1 : (pre.length : Int) + 1 = ((pre ++ [a]).length : Nat) := by simp
    obtain ⟨d, s1, s2⟩ := hS (pre ++ [a]).length (by rw [← e]; simp)
    have dr : all.drop (pre ++ [a]).length = r := by
      rw [← e, show pre ++ a :: r = (pre ++ [a]) ++ r by simp, List.drop_left]
    rw [dr] at s2
    obtain ⟨y3, y4, y5, ei⟩ := ap_in hX n ra r x3 x4 x5 (fun b m => hr b (by rw [← e]; simp [m]))
    obtain ⟨ρ, eo⟩ := ap_out hX hN hS hr r (pre ++ [a]) (.dat (.int pre.length)) y3 y4 y5 (by simp [e])
    have turn : apO [.dat X, .dat N, .dat (.int pre.length), x3, x4, x5] = (if (r.all fun b => apP (tat told a) (tat told b)) = true then okS .nx [.dat X, .dat N, .dat (.int pre.length), y3, y4, y5] else okS (.rt (.bool false)) [.dat X, .dat N, .dat (.int pre.length), y3, y4, y5]) := by
      unfold apO
      rw [x_for]
      have es : sl (gVar 1) (oSo (b2 fAdd (gVar 2) (cK (.int 1)))) oNo [.dat X, .dat N, .dat (.int pre.length), x3, x4, x5] = ret d := by
        simp only [x_sl, gVarS, gVar0, bnd_ret, x_oSo, x_b2, x_cK, o_add, asI_int, x_oNo, l1]
        exact s1
      rw [es, bndS_ret, s2, orStuck_some]
      exact ei
    rw [List.length_cons, upTo_succ, x_loopN]
    simp only [List.set_cons_succ, List.set_cons_zero]
    rw [turn, apB]
    cases (r.all fun b => apP (tat told a) (tat told b))
    · exact ⟨_, rfl⟩
    · rw [if_pos rfl, turnS_nx, l1]
      exact ⟨ρ, eo⟩
theorem are_apart {told : List Pt} {X N : D} {as : List Int} (hX : ∀ i : Int, 0 ≤ i → i < told.length → op2 fIx X (.int i) = ret (pr (tat told i))) (hN : N = ti as ∨ N = .list (as.map .int)) (hr : ∀ b ∈ as, 0 ≤ b ∧ b < told.length) (l : as.length ≤ 1000) : m__law_are_apart [X, N] = ret (.bool (apB told as)) := by
  have n1 : ∀ k : Nat, k < as.length → op2 fIx N (.int (k : Int)) = ret (.int (as.getD k 0)) := fun k h => by
    rcases hN with rfl | rfl
    · exact o_ixT (at_num h)
    · exact o_ixL (at_num h)
  have n2 : ∀ k : Nat, k ≤ as.length → ∃ d, sliceD N (some (k : Int)) none = ret d ∧ itemsOf d = some ((as.drop k).map .int) := fun k h => by
    have c := cut_from (as.map PyData.int) k (by simpa using h)
    rw [← List.map_drop] at c
    rcases hN with rfl | rfl
    · refine ⟨.tuple ((as.drop k).map .int), ?_, rfl⟩
      show ret (PyData.tuple (cutD (as.map PyData.int) (some (k : Int)) none)) = _
      rw [c]
    · refine ⟨.list ((as.drop k).map .int), ?_, rfl⟩
      show ret (PyData.list (cutD (as.map PyData.int) (some (k : Int)) none)) = _
      rw [c]
  have n3 : opA fLen [N] = ret (.int as.length) := by
    rcases hN with rfl | rfl
    · exact ti_len as
    · simp
  obtain ⟨ρ, e⟩ := ap_out hX n1 n2 hr as [] .no .no .no .no rfl
  rw [is__law_are_apart, s__law_are_apart, x_seq, forN (n := as.length) (by simp [n3]) (by omega)]
  rw [show loopL (tgN 2) apO (upTo 0 as.length) [.dat X, .dat N, .no, .no, .no, .no] = _ from e]
  cases apB told as
  · rfl
  · rfl
/-! ### the greatest family apart -/
def mostL (told : List Pt) : List (List Int) → List Int → List Int
  | [], b => b
  | l :: r, b => mostL told r (if (decide (b.length < l.length) && apB told l) = true then l else b)
theorem most_ok {told : List Pt} : ∀ (r : List (List Int)) (b : List Int), apB told b = true → apB told (mostL told r b) = true ∧ (mostL told r b = b ∨ mostL told r b ∈ r) ∧ b.length ≤ (mostL told r b).length ∧ ∀ l ∈ r, apB told l = true → l.length ≤ (mostL told r b).length
  | [], b, h => ⟨h, .inl rfl, Nat.le_refl _, fun l m => by cases m⟩
  | x :: r, b, h => by
    rw [mostL]
    by_cases c : (decide (b.length < x.length) && apB told x) = true
    · rw [if_pos c]
      rw [Bool.and_eq_true, decide_eq_true_eq] at c
      obtain ⟨h1, h2, h3, h4⟩ := most_ok r x c.2
      refine ⟨h1, .inr ?_, by omega, fun l m hl => ?_⟩
      · rcases h2 with z | z
        · rw [z]
          simp
        · simp [z]
      · rcases List.mem_cons.mp m with rfl | m
        · exact h3
        · exact h4 l m hl
    · rw [if_neg c]
      obtain ⟨h1, h2, h3, h4⟩ := most_ok r b h
      refine ⟨h1, h2.imp id fun z => by simp [z], h3, fun l m hl => ?_⟩
      rcases List.mem_cons.mp m with rfl | m
      · have : ¬ b.length < l.length := fun z => c (by simp [z, hl])
        omega
      · exact h4 l m hl
abbrev moB : MS := (sIf (tAn (tV (b2 fGt (cA fLen (aC (gVar 2) aN)) (cA fLen (aC (gVar 1) aN)))) (tV (cM m__law_are_apart (aC (gVar 0) (aC (gVar 2) aN)))))
 (sSet 1 (gVar 2))
 sSkip)
theorem mo_loop {told : List Pt} : ∀ (r : List (List Int)) (b : List Int) (x2 : Sl), (∀ l ∈ r, l.length ≤ 1000 ∧ ∀ a ∈ l, 0 ≤ a ∧ a < told.length) → ∃ y2, loopL (tgN 2) moB (r.map ti) [.dat (tl told), .dat (ti b), x2] = okS .nx [.dat (tl told), .dat (ti (mostL told r b)), y2]
  | [], b, x2, _ => ⟨x2, rfl⟩
  | l :: r, b, x2, hr => by
    have hl := hr l (by simp)
    obtain ⟨y2, e⟩ := mo_loop r (if (decide (b.length < l.length) && apB told l) = true then l else b) (.dat (ti l)) (fun z m => hr z (by simp [m]))
    refine ⟨y2, ?_⟩
    have turn : moB [.dat (tl told), .dat (ti b), .dat (ti l)] = okS .nx [.dat (tl told), .dat (ti (if (decide (b.length < l.length) && apB told l) = true then l else b)), .dat (ti l)] := by
      have c1 : b2 fGt (cA fLen (aC (gVar 2) aN)) (cA fLen (aC (gVar 1) aN)) [.dat (tl told), .dat (ti b), .dat (ti l)] = ret (.bool (decide (b.length < l.length))) := by
        rw [b2_of ((cA1 (d := ti l) (by simp)).trans (ti_len l)) ((cA1 (d := ti b) (by simp)).trans (ti_len b)), o_gt]
        congr 2
        exact decide_eq_decide.mpr (by omega)
      have c2 : cM m__law_are_apart (aC (gVar 0) (aC (gVar 2) aN)) [.dat (tl told), .dat (ti b), .dat (ti l)] = ret (.bool (apB told l)) := (cM2 (d := tl told) (d2 := ti l) (by simp) (by simp)).trans (are_apart (fun i => tl_ix) (.inl rfl) hl.2 hl.1)
      have c : (tAn (tV (b2 fGt (cA fLen (aC (gVar 2) aN)) (cA fLen (aC (gVar 1) aN)))) (tV (cM m__law_are_apart (aC (gVar 0) (aC (gVar 2) aN))))) [.dat (tl told), .dat (ti b), .dat (ti l)] = ret (decide (b.length < l.length) && apB told l) := by
        rw [x_tAn, tV_of c1, bnd_ret]
        cases decide (b.length < l.length)
        · rfl
        · exact tV_of c2
      unfold moB
      rw [if_of c]
      cases (decide (b.length < l.length) && apB told l)
      · rfl
      · rw [if_pos rfl, set_to (d := ti l) (by simp)]
        rfl
    rw [List.map_cons, x_loopN]
    simp only [List.set_cons_succ, List.set_cons_zero]
    rw [turn, turnS_nx]
    exact e
def idx (n : Nat) : List Int := (List.range n).map fun (k : Nat) => (k : Int)
def mostA (told : List Pt) : List Int := mostL told (sLots (idx told.length)) []
theorem idx_lt (n : Nat) : (idx n).Pairwise (· < ·) := by
  unfold idx
  rw [List.pairwise_map]
  exact List.pairwise_lt_range.imp fun h => by omega
theorem idx_mem {n : Nat} {a : Int} : a ∈ idx n ↔ 0 ≤ a ∧ a < n := by
  unfold idx
  rw [List.mem_map]
  constructor
  · rintro ⟨k, m, rfl⟩
    have := List.mem_range.mp m
    omega
  · rintro ⟨h0, h1⟩
    exact ⟨a.toNat, List.mem_range.mpr (by omega), by omega⟩
theorem most_apart {told : List Pt} (l : told.length ≤ 10) : m__law_most_apart [tl told] = ret (ti (mostA told)) := by
  have le : (idx told.length).length = told.length := by simp [idx]
  obtain ⟨y2, e⟩ := mo_loop (told := told) (sLots (idx told.length)) [] .no (fun z m => by
    have s := sLots_mem.mp m
    refine ⟨by have := s.length_le; omega, fun a ma => idx_mem.mp (s.subset ma)⟩)
  have lr : opA fLrg [.int (told.length : Int)] = ret (.list ((idx told.length).map .int)) := by
    have : fLrg [.int (told.length : Int)] = some (.list (upTo 0 (told.length : Int).toNat)) := if_pos ⟨by omega, by omega⟩
    show lift (fLrg [.int (told.length : Int)]) = _
    rw [this, Int.toNat_natCast, upTo0]
    unfold idx
    rw [List.map_map]
    rfl
  rw [is__law_most_apart, s__law_most_apart, seq_to (set_to (d := ti []) (by simp [mkT, ti, tupD]))]
  simp only [List.set_cons_succ, List.set_cons_zero]
  rw [seq_to (ρ' := [.dat (tl told), .dat (ti (mostA told)), y2]) (by
    rw [x_for, (cM1 ((cA1 ((cA1 (d := tl told) (by simp)).trans (tl_len told))).trans lr)).trans (law_lots (by rw [le]; exact l)), bndS_ret, items_list, orStuck_some]
    exact e)]
  exact ret_to (by simp)
end L2.AR.T
set_option Elab.async false
set_option linter.all false
set_option maxRecDepth 100000
set_option maxHeartbeats 4000000
namespace L2.AR.T
open PySem PySem.Spec PyProof.Rows
/-! ### is it a tuple or a list -/
def isS : D → Bool
  | .list _ => true
  | .tuple _ => true
  | _ => false
def isT : D → Bool
  | .tuple _ => true
  | _ => false
theorem i_tl {d : D} (h : ndD d = true) : gIsi ["tuple", "list"] d = ret (.bool (isS d)) := by
  cases d with
  | dict _ => cases h
  | none => exact i_of rfl (by simp [isiAny, kindD, kit_nl, kit_nt, isS])
  | bool _ => exact i_of rfl (by simp [isiAny, kindD, kit_bl, kit_bt, isS])
  | int _ => exact i_of rfl (by simp [isiAny, kindD, kit_il, kit_it, isS])
  | str _ => exact i_of rfl (by simp [isiAny, kindD, kit_sl, kit_st, isS])
  | list _ => exact i_of rfl (by simp [isiAny, kindD, kit_ll, kit_lt, isS])
  | tuple _ => exact i_of rfl (by simp [isiAny, kindD, kit_tl, kit_tt, isS])
theorem i_t {d : D} (h : ndD d = true) : gIsi ["tuple"] d = ret (.bool (isT d)) := by
  cases d with
  | dict _ => cases h
  | _ => simp [isT]
/-! ### unlike whole numbers -/
theorem ded_nodup (l : List Int) : (dedI l).length = l.length ↔ l.Nodup := by
  refine snoc_cases (P := fun l => (dedI l).length = l.length ↔ l.Nodup) ⟨fun _ => List.Pairwise.nil, fun _ => rfl⟩ (fun l k ih => ?_) l
  have le := dedI_len l
  rw [dedI_snoc, List.length_append, List.length_singleton]
  have mem := (dedI_ok l).2 k
  have nd : (l ++ [k]).Nodup ↔ l.Nodup ∧ k ∉ l := by
    rw [List.nodup_append]
    constructor
    · rintro ⟨h1, _, h3⟩
      exact ⟨h1, fun m => h3 k m k (by simp) rfl⟩
    · rintro ⟨h1, h2⟩
      exact ⟨h1, by simp, fun a ma b mb e => by
        simp at mb
        subst mb
        subst e
        exact h2 ma⟩
  rw [nd, ← ih, ← mem]
  by_cases c : k ∈ dedI l
  · rw [if_pos c]
    constructor
    · intro z
      omega
    · rintro ⟨_, z⟩
      exact absurd c z
  · rw [if_neg c, List.length_append, List.length_singleton]
    constructor
    · intro z
      exact ⟨by omega, c⟩
    · rintro ⟨z, _⟩
      omega
def toI : D → Int
  | .int i => i
  | _ => 0
theorem ints_of {h : List D} (a : h.all isI = true) : h = (h.map toI).map .int := by
  rw [List.map_map]
  refine (List.map_id h).symm.trans (List.map_congr_left fun d m => ?_)
  have := List.all_eq_true.mp a d m
  cases d with
  | int i => rfl
  | _ => cases this
def unl (h : List D) : Bool := h.all isI && decide (h.map toI).Nodup
theorem all_isi {m : List D → M D} (hm : ∀ d, ndD d = true → m [d] = ret (.bool (isI d))) {ρ : Rho} {gi gx : Rho → M D} {i : Nat} {d : D} {h : List D} (e : gi ρ = ret d) (ed : itemsOf d = some h) (hx : ∀ x ∈ h, gx ((wipeR ρ [i]).set i (.dat x)) = ret x) (nd : ∀ x ∈ h, ndD x = true) (l : h.length ≤ 1000) :
    cA fAll (aC (gComp [i] gi (tgN i) tYs (cM m (aC gx aN))) aN) ρ = ret (.bool (h.all isI)) := by
  have c : gComp [i] gi (tgN i) tYs (cM m (aC gx aN)) ρ = ret (.list (h.map fun x => .bool (isI x))) := by
    rw [x_comp, e, bnd_ret, ed, orStk_some]
    have := comp_of (i := i) (g := cM m (aC gx aN)) (ρ := wipeR ρ [i]) (e := id) (f := fun x => PyData.bool (isI x)) h (fun x mx => (cM1 (hx x mx)).trans (hm x (nd x mx))) (fun _ _ => rfl) (by omega)
    rw [List.map_id] at this
    exact this
  rw [cA1 c, o_all]
theorem unlike_no {d : D} (h : ndD d = true) (n : isT d = false) : m_are_unlike_integers [d] = ret (.bool false) := by
  rw [is_are_unlike_integers, s_are_unlike_integers, x_seq]
  simp [i_t h, n]
theorem unlike {h : List D} (nd : ∀ x ∈ h, ndD x = true) (l : h.length ≤ 1000) : m_are_unlike_integers [.tuple h] = ret (.bool (unl h)) := by
  have a := all_isi (m := m_is_int) (ρ := [.dat (.tuple h), .no]) (gi := gVar 0) (gx := gVar 1) (i := 1) (fun d => isi) (d := .tuple h) (by simp) rfl (fun x _ => by simp [wipeR]) nd l
  rw [is_are_unlike_integers, s_are_unlike_integers]
  by_cases c : h.all isI = true
  · rw [c] at a
    rw [seq_to (ρ' := [.dat (.tuple h), .no]) (by
      rw [if_of (b := false) (by
        rw [x_tOr, x_tNo, x_tNo, tV_of a]
        simp)]
      rfl)]
    have n : numsOf (.tuple h) = some (h.map toI) := by
      have := intsOf_map (h.map toI)
      rw [← ints_of c] at this
      exact this
    have ls : opA fLenSet [.tuple h] = ret (.int ((dedI (h.map toI)).length : Nat)) := by
      show lift ((numsOf (.tuple h)).bind fun ns => if ns.length ≤ 4000 then some (PyData.int (dedI ns).length) else none) = _
      rw [n, Option.bind_some, if_pos (by rw [List.length_map]; omega)]
      rfl
    refine ret_to ?_
    rw [b2_of ((cA1 (gVar0 _ _)).trans ls) ((cA1 (gVar0 _ _)).trans (o_lenT h)), o_eqI]
    unfold unl
    rw [c, Bool.true_and]
    congr 2
    rw [Bool.eq_iff_iff, beq_iff_eq, decide_eq_true_eq, ← ded_nodup, List.length_map]
    omega
  · have cf : h.all isI = false := by simpa using c
    rw [cf] at a
    have t : (tOr' (tNo (tV (cI ["tuple"] (gVar 0)))) (tNo (tV (cA fAll (aC (gComp [1] (gVar 0) (tgN 1) tYs (cM m_is_int (aC (gVar 1) aN))) aN))))) [.dat (.tuple h), .no] = ret true := by
      rw [x_tOr, x_tNo, x_tNo, tV_of a]
      simp
    unfold unl
    rw [cf, Bool.false_and, x_seq, if_of t]
    simp
/-! ### does a paper show it: the program -/
def rightB (told : List Pt) (hs as : List Int) : Bool := decide hs.Nodup && decide as.Nodup && decide (hs.length = as.length) && hitAll told hs && (as.all fun a => decide (0 ≤ a) && decide (a < told.length)) && apB told as
theorem rightB_iff {told : List Pt} {hs as : List Int} : rightB told hs as = true ↔ Right told hs as := by
  unfold rightB
  simp only [Bool.and_eq_true, decide_eq_true_eq, List.all_eq_true, apB_iff]
  exact ⟨fun ⟨⟨⟨⟨⟨h1, h2⟩, h3⟩, h4⟩, h5⟩, h6⟩ => ⟨h3, h1, h2, h4, h5, h6⟩, fun r => ⟨⟨⟨⟨⟨r.nh, r.na⟩, r.len⟩, r.hit⟩, r.rng⟩, r.ap⟩⟩
theorem compZ {vs : List Nat} {gi : Rho → M (List D)} {t : Tgt} {c : Rho → M Bool} {g : Rho → M D} {ρ : Rho} {n : Nat} (e : gi ρ = ret [.int ((n : Int) - 1)]) (h : n ≤ 1000000) : gCompR vs gi t c g ρ = comp1 t c g (wipeR ρ vs) ((List.range (n - 1)).map fun (k : Nat) => PyData.int k) [] := by
  have r := range_1' (j := (n : Int) - 1) (by omega) (by omega)
  have z : ((n : Int) - 1).toNat = n - 1 := by omega
  rw [z] at r
  rw [x_compR, e, bnd_ret, r, orStk_some, upTo0]
theorem in_range {told : List Pt} {ρ : Rho} {gi gx gl : Rho → M D} {i : Nat} {d : D} {as : List Int} (e : gi ρ = ret d) (ed : itemsOf d = some (as.map .int)) (hx : ∀ x, gx ((wipeR ρ [i]).set i (.dat (.int x))) = ret (.int x)) (hl : ∀ x, gl ((wipeR ρ [i]).set i (.dat (.int x))) = ret (.int told.length)) (l : as.length ≤ 1000) :
    cA fAll (aC (gComp [i] gi (tgN i) tYs (ch3 fLe fLt (cK (.int 0)) gx gl)) aN) ρ = ret (.bool (as.all fun a => decide (0 ≤ a) && decide (a < told.length))) := by
  have c : gComp [i] gi (tgN i) tYs (ch3 fLe fLt (cK (.int 0)) gx gl) ρ = ret (.list (as.map fun (a : Int) => .bool (decide (0 ≤ a) && decide (a < (told.length : Int))))) := by
    rw [x_comp, e, bnd_ret, ed, orStk_some]
    refine comp_of as (fun x _ => ?_) (fun _ _ => rfl) (by omega)
    unfold ch3
    by_cases c : 0 ≤ x <;> simp [hx, hl, c]
  rw [cA1 c, o_all]
theorem shows_true {told : List Pt} {x paper : D} {hs as : List Int} (s : Src told x) (ok : OkP told) (l : told.length ≤ 1000) (okp : okP 12 paper = true) (pl : plainD paper = .tuple [ti hs, ti as]) (lh : hs.length ≤ 1000) (la : as.length ≤ 1000) : m_shows_hits [x, paper] = ret (.bool (rightB told hs as)) := by
  have uh : m_are_unlike_integers [ti hs] = ret (.bool (decide hs.Nodup)) := by
    have := unlike (h := hs.map .int) (fun d m => by obtain ⟨i, _, rfl⟩ := List.mem_map.mp m; rfl) (by simpa using lh)
    have e : unl (hs.map .int) = decide hs.Nodup := by
      unfold unl
      rw [List.map_map, show (toI ∘ PyData.int) = id from rfl, List.map_id]
      simp [isI]
    rwa [e] at this
  have ua : m_are_unlike_integers [ti as] = ret (.bool (decide as.Nodup)) := by
    have := unlike (h := as.map .int) (fun d m => by obtain ⟨i, _, rfl⟩ := List.mem_map.mp m; rfl) (by simpa using la)
    have e : unl (as.map .int) = decide as.Nodup := by
      unfold unl
      rw [List.map_map, show (toI ∘ PyData.int) = id from rfl, List.map_id]
      simp [isI]
    rwa [e] at this
  let ρ : Rho := [.dat x, .dat paper, .dat (tt told), .dat (.tuple [ti hs, ti as]), .no, .dat (ti hs), .dat (ti as), .no, .no]
  rw [is_shows_hits, s_shows_hits]
  rw [seq_to (set_to ((cM1 (gVar0 x _)).trans (told_ok s ok l)))]
  simp only [List.set_cons_succ, List.set_cons_zero]
  rw [seq_to (set_to ((cM1 (d := paper) (by simp)).trans ((plain_form okp).trans (congrArg ret pl))))]
  simp only [List.set_cons_succ, List.set_cons_zero]
  rw [seq_to (ρ' := [.dat x, .dat paper, .dat (tt told), .dat (.tuple [ti hs, ti as]), .no, .no, .no, .no, .no]) (by simp [o_neI])]
  rw [seq_to (ρ' := ρ) (by simp [ρ])]
  have c1 : (tOr' (tNo (tV (cM m_are_unlike_integers (aC (gVar 5) aN)))) (tOr' (tNo (tV (cM m_are_unlike_integers (aC (gVar 6) aN)))) (tV (b2 fNe (cA fLen (aC (gVar 5) aN)) (cA fLen (aC (gVar 6) aN)))))) ρ = ret (!(decide hs.Nodup && decide as.Nodup && decide (hs.length = as.length))) := by
    have c3 : b2 fNe (cA fLen (aC (gVar 5) aN)) (cA fLen (aC (gVar 6) aN)) ρ = ret (.bool (!decide (hs.length = as.length))) := by
      rw [b2_of ((cA1 (d := ti hs) (by simp [ρ])).trans (ti_len hs)) ((cA1 (d := ti as) (by simp [ρ])).trans (ti_len as)), o_neI]
      congr 3
      rw [Bool.eq_iff_iff, beq_iff_eq, decide_eq_true_eq]
      omega
    rw [x_tOr, x_tOr, x_tNo, x_tNo, tV_of ((cM1 (d := ti hs) (by simp [ρ])).trans uh), tV_of ((cM1 (d := ti as) (by simp [ρ])).trans ua), tV_of c3]
    cases decide hs.Nodup <;> cases decide as.Nodup <;> cases decide (hs.length = as.length) <;> rfl
  have c2 : cA fAll (aC (gComp [8] (gVar 2) (tgN 8) tYs (cM m_is_hit (aC (gVar 8) (aC (gVar 5) aN)))) aN) ρ = ret (.bool (hitAll told hs)) :=
    hit_all (fun p => is_hit (items_ti hs) lh) (d := tt told) (by simp [ρ]) rfl (fun p => by simp [wipeR, ρ]) (fun p => by simp [wipeR, ρ]) l
  have c3 : cA fAll (aC (gComp [7] (gVar 6) (tgN 7) tYs (ch3 fLe fLt (cK (.int 0)) (gVar 7) (cA fLen (aC (gVar 2) aN)))) aN) ρ = ret (.bool (as.all fun a => decide (0 ≤ a) && decide (a < told.length))) :=
    in_range (d := ti as) (by simp [ρ]) rfl (fun x => by simp [wipeR, ρ]) (fun x => by simp [wipeR, ρ, tt_len]) la
  unfold rightB
  cases w1 : (decide hs.Nodup && decide as.Nodup && decide (hs.length = as.length)) with
  | false =>
    rw [w1] at c1
    rw [x_seq, if_of c1]
    simp
  | true =>
    rw [w1] at c1
    rw [seq_to (ρ' := ρ) (by rw [if_of c1]; rfl)]
    cases w2 : hitAll told hs with
    | false =>
      rw [w2] at c2
      rw [x_seq, if_of (b := true) (by rw [x_tNo, tV_of c2]; rfl)]
      simp
    | true =>
      rw [w2] at c2
      rw [seq_to (ρ' := ρ) (by rw [if_of (b := false) (by rw [x_tNo, tV_of c2]; rfl)]; rfl)]
      cases w3 : (as.all fun a => decide (0 ≤ a) && decide (a < told.length)) with
      | false =>
        rw [w3] at c3
        rw [x_seq, if_of (b := true) (by rw [x_tNo, tV_of c3]; rfl)]
        simp
      | true =>
        rw [w3] at c3
        rw [seq_to (ρ' := ρ) (by rw [if_of (b := false) (by rw [x_tNo, tV_of c3]; rfl)]; rfl)]
        have rng : ∀ a ∈ as, 0 ≤ a ∧ a < told.length := fun a m => by
          have := List.all_eq_true.mp w3 a m
          simpa using this
        have cs : gComp [7] (gVar 6) (tgN 7) tYs (b2 fIx (gVar 2) (gVar 7)) ρ = ret (.list ((as.map (tat told)).map fun p => tupD (Pt.row p))) := by
          rw [x_comp, show gVar 6 ρ = ret (ti as) by simp [ρ], bnd_ret, items_ti, orStk_some, List.map_map]
          refine comp_of as (fun a m => ?_) (fun _ _ => rfl) (by omega)
          exact (b2_of (x := tt told) (y := .int a) (by simp [wipeR, ρ]) (by simp [wipeR, ρ])).trans (tt_ix (rng a m).1 (rng a m).2)
        have srt := o_sortL (ok_pts (xs := as.map (tat told)) (by simp; omega))
        rw [sort_pts] at srt
        rw [seq_to (set_to ((cA1 cs).trans srt))]
        let R := rising (as.map (tat told))
        have lR : R.length = as.length := by simp [R, rising]
        refine ret_to ?_
        simp only [ρ, List.set_cons_succ, List.set_cons_zero]
        have cz : gCompR [7] (aC (b2 fSub (cA fLen (aC (gVar 4) aN)) (cK (.int 1))) aN) (tgN 7) tYs (b2 fLt (b2 fIx (b2 fIx (gVar 4) (gVar 7)) (cK (.int 1))) (b2 fIx (b2 fIx (gVar 4) (b2 fAdd (gVar 7) (cK (.int 1)))) (cK (.int 0)))) [.dat x, .dat paper, .dat (tt told), .dat (.tuple [ti hs, ti as]), .dat (tl R), .dat (ti hs), .dat (ti as), .no, .no] = ret (.list ((List.range (R.length - 1)).map fun k => .bool (decide ((R.getD k (0, 0)).2 < (R.getD (k + 1) (0, 0)).1)))) := by
          rw [compZ (n := R.length) (by simp [tl_len]) (by omega)]
          refine comp_of (List.range (R.length - 1)) (fun k m => ?_) (fun _ _ => rfl) (by simp; omega)
          have hk := List.mem_range.mp m
          have i1 := tl_ix (told := R) (i := (k : Int)) (by omega) (by omega)
          have i2 := tl_ix (told := R) (i := (k : Int) + 1) (by omega) (by omega)
          have t1 : tat R (k : Int) = R.getD k (0, 0) := by simp [tat]
          have t2 : tat R ((k : Int) + 1) = R.getD (k + 1) (0, 0) := by
            unfold tat
            rw [show ((k : Int) + 1).toNat = k + 1 by omega]
          simp only [wipeR, List.foldl_cons, List.foldl_nil, List.set_cons_succ, List.set_cons_zero, x_b2, gVarS, gVar0, bnd_ret, x_cK, o_add, i1, i2, pr0, pr1, o_lt, t1, t2]
        refine (cA1 cz).trans ?_
        rw [o_all, chain_range R]
        congr 2
        rw [Bool.true_and, Bool.true_and, Bool.true_and, Bool.eq_iff_iff, rising_iff ok rng, apB_iff]
end L2.AR.T
set_option Elab.async false
set_option linter.all false
set_option maxRecDepth 100000
set_option maxHeartbeats 4000000
namespace L2.AR.T
open PySem PySem.Spec PyProof.Rows
/-! ### papers that show nothing: the program -/
section
variable {told : List Pt} {x paper : D} (s : Src told x) (ok : OkP told) (l : told.length ≤ 1000) (okp : okP 12 paper = true)
include s ok l okp
theorem shows_start (t : MS) : endB (sSeq (sSet 2 (cM m_told_stretches (aC (gVar 0) aN))) (sSeq (sSet 3 (cM m_plain_form (aC (gVar 1) aN))) t) [.dat x, .dat paper, .no, .no, .no, .no, .no, .no, .no]) = endB (t [.dat x, .dat paper, .dat (tt told), .dat (plainD paper), .no, .no, .no, .no, .no]) := by
  rw [seq_to (set_to ((cM1 (gVar0 x _)).trans (told_ok s ok l)))]
  simp only [List.set_cons_succ, List.set_cons_zero]
  rw [seq_to (set_to ((cM1 (d := paper) (by simp)).trans (plain_form okp)))]
  rfl
theorem shows_no {P : D} (pl : plainD paper = P) (nd : ndD P = true) (n : isT P = false) : m_shows_hits [x, paper] = ret (.bool false) := by
  have t := i_t nd
  rw [n] at t
  rw [is_shows_hits, s_shows_hits, shows_start s ok l okp, pl, x_seq, if_of (b := true) (by
    rw [x_tOr, x_tNo, tV_of (b := false) (by
      rw [x_cI]
      simp [t])]
    rfl)]
  simp
theorem shows_len {ds : List D} (pl : plainD paper = .tuple ds) (n : ds.length ≠ 2) : m_shows_hits [x, paper] = ret (.bool false) := by
  have e : ((ds.length : Int) == 2) = false := by
    rw [beq_eq_false_iff_ne]
    omega
  rw [is_shows_hits, s_shows_hits, shows_start s ok l okp, pl, x_seq, if_of (b := true) (by simp [o_neI, e])]
  simp
theorem shows_unl {H A : D} {u1 u2 : Bool} (pl : plainD paper = .tuple [H, A]) (h1 : m_are_unlike_integers [H] = ret (.bool u1)) (h2 : m_are_unlike_integers [A] = ret (.bool u2)) (n : (u1 && u2) = false) : m_shows_hits [x, paper] = ret (.bool false) := by
  rw [is_shows_hits, s_shows_hits, shows_start s ok l okp, pl]
  rw [seq_to (ρ' := [.dat x, .dat paper, .dat (tt told), .dat (.tuple [H, A]), .no, .no, .no, .no, .no]) (by simp [o_neI])]
  rw [seq_to (ρ' := [.dat x, .dat paper, .dat (tt told), .dat (.tuple [H, A]), .no, .dat H, .dat A, .no, .no]) (by simp)]
  have c1 : (tOr' (tNo (tV (cM m_are_unlike_integers (aC (gVar 5) aN)))) (tOr' (tNo (tV (cM m_are_unlike_integers (aC (gVar 6) aN)))) (tV (b2 fNe (cA fLen (aC (gVar 5) aN)) (cA fLen (aC (gVar 6) aN)))))) [.dat x, .dat paper, .dat (tt told), .dat (.tuple [H, A]), .no, .dat H, .dat A, .no, .no] = ret true := by
    rw [x_tOr, x_tOr, x_tNo, x_tNo, tV_of ((cM1 (d := H) (by simp)).trans h1), tV_of ((cM1 (d := A) (by simp)).trans h2)]
    cases u1
    · rfl
    · cases u2
      · rfl
      · cases n
  rw [x_seq, if_of c1]
  simp
theorem shows_lens {h a : List D} (pl : plainD paper = .tuple [.tuple h, .tuple a]) (nh : ∀ d ∈ h, ndD d = true) (na : ∀ d ∈ a, ndD d = true) (lh : h.length ≤ 1000) (la : a.length ≤ 1000) (n : h.length ≠ a.length) : m_shows_hits [x, paper] = ret (.bool false) := by
  have h1 := unlike nh lh
  have h2 := unlike na la
  by_cases c : (unl h && unl a) = true
  · rw [Bool.and_eq_true] at c
    rw [c.1] at h1
    rw [c.2] at h2
    rw [is_shows_hits, s_shows_hits, shows_start s ok l okp, pl]
    rw [seq_to (ρ' := [.dat x, .dat paper, .dat (tt told), .dat (.tuple [.tuple h, .tuple a]), .no, .no, .no, .no, .no]) (by simp [o_neI])]
    rw [seq_to (ρ' := [.dat x, .dat paper, .dat (tt told), .dat (.tuple [.tuple h, .tuple a]), .no, .dat (.tuple h), .dat (.tuple a), .no, .no]) (by simp)]
    have e : ((h.length : Int) == a.length) = false := by
      rw [beq_eq_false_iff_ne]
      omega
    have c1 : (tOr' (tNo (tV (cM m_are_unlike_integers (aC (gVar 5) aN)))) (tOr' (tNo (tV (cM m_are_unlike_integers (aC (gVar 6) aN)))) (tV (b2 fNe (cA fLen (aC (gVar 5) aN)) (cA fLen (aC (gVar 6) aN)))))) [.dat x, .dat paper, .dat (tt told), .dat (.tuple [.tuple h, .tuple a]), .no, .dat (.tuple h), .dat (.tuple a), .no, .no] = ret true := by
      rw [x_tOr, x_tOr, x_tNo, x_tNo, tV_of ((cM1 (d := .tuple h) (by simp)).trans h1), tV_of ((cM1 (d := .tuple a) (by simp)).trans h2)]
      simp [o_neI, e]
    rw [x_seq, if_of c1]
    simp
  · exact shows_unl s ok l okp pl h1 h2 (by simpa using c)
end
/-! ### the law's own judgement -/
def Sq (d : D) (ds : List D) : Prop := d = .tuple ds ∨ d = .list ds
theorem Sq.items {d : D} {ds : List D} (h : Sq d ds) : itemsOf d = some ds := by rcases h with rfl | rfl <;> rfl
theorem Sq.len {d : D} {ds : List D} (h : Sq d ds) : opA fLen [d] = ret (.int ds.length) := by rcases h with rfl | rfl <;> simp
theorem Sq.isS {d : D} {ds : List D} (h : Sq d ds) : isS d = true := by rcases h with rfl | rfl <;> rfl
theorem Sq.nd {d : D} {ds : List D} (h : Sq d ds) : ndD d = true := by rcases h with rfl | rfl <;> rfl
theorem Sq.isSeq {d : D} {ds : List D} (h : Sq d ds) : L2.AR.isSeq d = true := by rcases h with rfl | rfl <;> rfl
theorem Sq.nums {d : D} {xs : List Int} (h : Sq d (xs.map .int)) : numsOf d = some xs := by rcases h with rfl | rfl <;> exact intsOf_map xs
theorem Sq.list {d : D} {ds : List D} (h : Sq d ds) : opA fList [d] = ret (.list ds) := by rcases h with rfl | rfl <;> simp
theorem right_no {X paper : D} (nd : ndD paper = true) (n : isS paper = false) : m__law_is_right [X, paper] = ret (.bool false) := by
  have t := i_tl nd
  rw [n] at t
  rw [is__law_is_right, s__law_is_right, x_seq, if_of (b := true) (by
    rw [x_tOr, x_tNo, tV_of (b := false) (by
      rw [x_cI]
      simp [t])]
    rfl)]
  simp
theorem right_len {X paper : D} {ds : List D} (q : Sq paper ds) (n : ds.length ≠ 2) : m__law_is_right [X, paper] = ret (.bool false) := by
  have t := i_tl q.nd
  rw [q.isS] at t
  have e : ((ds.length : Int) == 2) = false := by
    rw [beq_eq_false_iff_ne]
    omega
  rw [is__law_is_right, s__law_is_right, x_seq, if_of (b := true) (by simp [t, q.len, o_neI, e])]
  simp
abbrev riA : Rho → M Bool := (tOr' (tNo (tV (cI ["tuple", "list"] (gVar 2)))) (tOr' (tNo (tV (cI ["tuple", "list"] (gVar 3)))) (tV (b2 fNe (cA fLen (aC (gVar 2) aN)) (cA fLen (aC (gVar 3) aN))))))
theorem right_start {X paper H A : D} (q : Sq paper [H, A]) (t : MS) : endB (sSeq (sIf (tOr' (tNo (tV (cI ["tuple", "list"] (gVar 1)))) (tV (b2 fNe (cA fLen (aC (gVar 1) aN)) (cK (.int 2)))))
 (sRet (cK (.bool false)))
 sSkip)
 (sSeq (sAsg (gVar 1) (tgL [(tgN 2), (tgN 3)])) t) [.dat X, .dat paper, .no, .no, .no, .no, .no]) = endB (t [.dat X, .dat paper, .dat H, .dat A, .no, .no, .no]) := by
  have i := i_tl q.nd
  rw [q.isS] at i
  rw [seq_to (ρ' := [.dat X, .dat paper, .no, .no, .no, .no, .no]) (by simp [i, q.len, o_neI])]
  rw [seq_to (ρ' := [.dat X, .dat paper, .dat H, .dat A, .no, .no, .no]) (by rcases q with rfl | rfl <;> simp)]
theorem right_nonseq {X paper H A : D} (q : Sq paper [H, A]) (nh : ndD H = true) (na : ndD A = true) (n : (isS H && isS A) = false) : m__law_is_right [X, paper] = ret (.bool false) := by
  have h1 := i_tl nh
  have h2 := i_tl na
  rw [is__law_is_right, s__law_is_right, right_start q, x_seq, if_of (b := true) (by
    cases w1 : isS H
    · rw [w1] at h1
      simp [h1]
    · cases w2 : isS A
      · rw [w1] at h1
        rw [w2] at h2
        simp [h1, h2]
      · rw [w1, w2] at n
        cases n)]
  simp
theorem ri_a {X paper H A : D} {h a : List D} (qh : Sq H h) (qa : Sq A a) : riA [.dat X, .dat paper, .dat H, .dat A, .no, .no, .no] = ret (!decide (h.length = a.length)) := by
  have h1 := i_tl qh.nd
  have h2 := i_tl qa.nd
  rw [qh.isS] at h1
  rw [qa.isS] at h2
  have e : ((h.length : Int) == a.length) = decide (h.length = a.length) := by
    rw [Bool.eq_iff_iff, beq_iff_eq, decide_eq_true_eq]
    omega
  simp [h1, h2, qh.len, qa.len, o_neI, e]
theorem right_lens {X paper H A : D} {h a : List D} (q : Sq paper [H, A]) (qh : Sq H h) (qa : Sq A a) (n : h.length ≠ a.length) : m__law_is_right [X, paper] = ret (.bool false) := by
  have r := ri_a (X := X) (paper := paper) qh qa
  rw [decide_eq_false n] at r
  rw [is__law_is_right, s__law_is_right, right_start q, x_seq, if_of r]
  simp
abbrev riW : Rho → M Bool := (tOr' (tNo (tV (cA fAll (aC (gComp [4] (gVar 2) (tgN 4) tYs (cM m__law_whole (aC (gVar 4) aN))) aN)))) (tNo (tV (cA fAll (aC (gComp [4] (gVar 3) (tgN 4) tYs (cM m__law_whole (aC (gVar 4) aN))) aN)))))
theorem ri_w {X paper H A : D} {h a : List D} (qh : Sq H h) (qa : Sq A a) (nh : ∀ d ∈ h, ndD d = true) (na : ∀ d ∈ a, ndD d = true) (lh : h.length ≤ 1000) (la : a.length ≤ 1000) : riW [.dat X, .dat paper, .dat H, .dat A, .no, .no, .no] = ret (!(h.all isI && a.all isI)) := by
  have w1 := all_isi (m := m__law_whole) (ρ := [.dat X, .dat paper, .dat H, .dat A, .no, .no, .no]) (gi := gVar 2) (gx := gVar 4) (i := 4) (fun d => whole) (d := H) (by simp) qh.items (fun x _ => by simp [wipeR]) nh lh
  have w2 := all_isi (m := m__law_whole) (ρ := [.dat X, .dat paper, .dat H, .dat A, .no, .no, .no]) (gi := gVar 3) (gx := gVar 4) (i := 4) (fun d => whole) (d := A) (by simp) qa.items (fun x _ => by simp [wipeR]) na la
  unfold riW
  rw [x_tOr, x_tNo, x_tNo, tV_of w1, tV_of w2]
  cases h.all isI <;> cases a.all isI <;> rfl
theorem right_not {X paper H A : D} {h a : List D} (q : Sq paper [H, A]) (qh : Sq H h) (qa : Sq A a) (nh : ∀ d ∈ h, ndD d = true) (na : ∀ d ∈ a, ndD d = true) (lh : h.length ≤ 1000) (la : a.length ≤ 1000) (n : (h.all isI && a.all isI) = false) : m__law_is_right [X, paper] = ret (.bool false) := by
  have r := ri_a (X := X) (paper := paper) qh qa
  have w := ri_w (X := X) (paper := paper) qh qa nh na lh la
  rw [n] at w
  by_cases c : h.length = a.length
  · rw [decide_eq_true c] at r
    rw [is__law_is_right, s__law_is_right, right_start q]
    rw [seq_to (ρ' := [.dat X, .dat paper, .dat H, .dat A, .no, .no, .no]) (by rw [if_of r]; rfl)]
    rw [x_seq, if_of w]
    simp
  · exact right_lens q qh qa c
theorem cnt_nodup (hs : List Int) : (hs.any fun x => decide (1 < hs.count x)) = !decide hs.Nodup := by
  rw [Bool.eq_iff_iff]
  simp only [List.any_eq_true, decide_eq_true_eq, Bool.not_eq_true', decide_eq_false_iff_not, List.nodup_iff_count]
  constructor
  · rintro ⟨x, _, h⟩ z
    have := z x
    omega
  · intro z
    have : ∃ x, ¬ hs.count x ≤ 1 := Classical.not_forall.mp z
    obtain ⟨x, hx⟩ := this
    exact ⟨x, List.count_pos_iff.mp (by omega), by omega⟩
theorem ri_c {ρ : Rho} {H : D} {hs : List Int} {gi gx : Rho → M D} {i : Nat} (q : Sq H (hs.map .int)) (e : gi ρ = ret H) (e2 : ∀ x, gi ((wipeR ρ [i]).set i (.dat (.int x))) = ret H) (hx : ∀ x, gx ((wipeR ρ [i]).set i (.dat (.int x))) = ret (.int x)) (l : hs.length ≤ 1000) :
    cA fAny (aC (gComp [i] gi (tgN i) tYs (b2 fGt (gCnt gi gx) (cK (.int 1)))) aN) ρ = ret (.bool (!decide hs.Nodup)) := by
  have c : gComp [i] gi (tgN i) tYs (b2 fGt (gCnt gi gx) (cK (.int 1))) ρ = ret (.list (hs.map fun (x : Int) => .bool (decide (1 < hs.count x)))) := by
    rw [x_comp, e, bnd_ret, q.items, orStk_some]
    refine comp_of hs (fun x _ => ?_) (fun _ _ => rfl) (by omega)
    have f : op2 fCnt H (.int x) = ret (.int (hs.count x : Nat)) := by
      have nt : isTok H = false := by rcases q with rfl | rfl <;> rfl
      have fc : fCnt H (.int x) = some (.int (hs.count x : Nat)) := by
        unfold fCnt
        rw [q.nums]
      unfold op2
      rw [nt, fc]
      rfl
    have g : gCnt gi gx ((wipeR ρ [i]).set i (.dat (.int x))) = ret (.int (hs.count x : Nat)) := by
      rw [x_gCnt, e2 x, bnd_ret, if_pos q.isSeq, hx x, bnd_ret, f]
    rw [b2_of g (x_cK _ _), o_gt]
    congr 2
    exact decide_eq_decide.mpr (by omega)
  rw [cA1 c, o_any, cnt_nodup]
theorem right_true {told : List Pt} {paper H A : D} {hs as : List Int} (q : Sq paper [H, A]) (qh : Sq H (hs.map .int)) (qa : Sq A (as.map .int)) (l : told.length ≤ 1000) (lh : hs.length ≤ 1000) (la : as.length ≤ 1000) : m__law_is_right [tl told, paper] = ret (.bool (rightB told hs as)) := by
  have nd : ∀ xs : List Int, ∀ d ∈ xs.map PyData.int, ndD d = true := fun xs d m => by obtain ⟨i, _, rfl⟩ := List.mem_map.mp m; rfl
  have r := ri_a (X := tl told) (paper := paper) qh qa
  have w := ri_w (X := tl told) (paper := paper) qh qa (nd hs) (nd as) (by simpa using lh) (by simpa using la)
  have ai : ∀ xs : List Int, (xs.map PyData.int).all isI = true := fun xs => by simp [isI]
  rw [ai, ai] at w
  rw [List.length_map, List.length_map] at r
  have c1 := ri_c (ρ := [.dat (tl told), .dat paper, .dat H, .dat A, .no, .no, .no]) (gi := gVar 2) (gx := gVar 4) (i := 4) qh (by simp) (fun x => by simp [wipeR]) (fun x => by simp [wipeR]) lh
  have c2 := ri_c (ρ := [.dat (tl told), .dat paper, .dat H, .dat A, .no, .no, .no]) (gi := gVar 3) (gx := gVar 4) (i := 4) qa (by simp) (fun x => by simp [wipeR]) (fun x => by simp [wipeR]) la
  have c3 : cA fAll (aC (gComp [5] (gVar 0) (tgN 5) tYs (cM m__law_is_hit (aC (gVar 5) (aC (gVar 2) aN)))) aN) [.dat (tl told), .dat paper, .dat H, .dat A, .no, .no, .no] = ret (.bool (hitAll told hs)) := by
    have c : gComp [5] (gVar 0) (tgN 5) tYs (cM m__law_is_hit (aC (gVar 5) (aC (gVar 2) aN))) [.dat (tl told), .dat paper, .dat H, .dat A, .no, .no, .no] = ret (.list (told.map fun p => .bool (hitP p hs))) := by
      rw [x_comp, gVar0, bnd_ret]
      show orStk _ (some (told.map pr)) = _
      rw [orStk_some]
      exact comp_of told (fun p _ => (cM2 (d := pr p) (d2 := H) (by simp [wipeR]) (by simp [wipeR])).trans (law_is_hit qh.items lh)) (fun _ _ => rfl) (by omega)
    rw [cA1 c, o_all]
    rfl
  have c4 : cA fAll (aC (gComp [6] (gVar 3) (tgN 6) tYs (ch3 fLe fLt (cK (.int 0)) (gVar 6) (cA fLen (aC (gVar 0) aN)))) aN) [.dat (tl told), .dat paper, .dat H, .dat A, .no, .no, .no] = ret (.bool (as.all fun a => decide (0 ≤ a) && decide (a < told.length))) :=
    in_range (d := A) (by simp) qa.items (fun x => by simp [wipeR]) (fun x => by simp [wipeR, tl_len]) la
  have rb : rightB told hs as = (decide (hs.length = as.length) && (decide hs.Nodup && decide as.Nodup) && (hitAll told hs && (as.all fun a => decide (0 ≤ a) && decide (a < told.length))) && apB told as) := by
    unfold rightB
    cases decide hs.Nodup <;> cases decide as.Nodup <;> cases decide (hs.length = as.length) <;> cases hitAll told hs <;> simp
  rw [rb, is__law_is_right, s__law_is_right, right_start q]
  cases w1 : decide (hs.length = as.length) with
  | false =>
    rw [w1] at r
    rw [x_seq, if_of r]
    simp
  | true =>
    rw [w1] at r
    rw [seq_to (ρ' := [.dat (tl told), .dat paper, .dat H, .dat A, .no, .no, .no]) (by rw [if_of r]; rfl)]
    rw [seq_to (ρ' := [.dat (tl told), .dat paper, .dat H, .dat A, .no, .no, .no]) (by rw [if_of w]; rfl)]
    cases w2 : (decide hs.Nodup && decide as.Nodup) with
    | false =>
      rw [x_seq, if_of (b := true) (by
        rw [x_tOr, tV_of c1, tV_of c2]
        revert w2
        cases decide hs.Nodup <;> cases decide as.Nodup <;> intro w2 <;> first | rfl | cases w2)]
      simp
    | true =>
      rw [Bool.and_eq_true] at w2
      rw [w2.1] at c1
      rw [w2.2] at c2
      rw [seq_to (ρ' := [.dat (tl told), .dat paper, .dat H, .dat A, .no, .no, .no]) (by
        rw [if_of (b := false) (by
          rw [x_tOr, tV_of c1, tV_of c2]
          rfl)]
        rfl)]
      cases w3 : (hitAll told hs && (as.all fun a => decide (0 ≤ a) && decide (a < told.length))) with
      | false =>
        rw [x_seq, if_of (b := true) (by
          rw [x_tOr, x_tNo, x_tNo, tV_of c3, tV_of c4]
          revert w3
          cases hitAll told hs <;> cases (as.all fun a => decide (0 ≤ a) && decide (a < told.length)) <;> intro w3 <;> first | rfl | cases w3)]
        simp
      | true =>
        rw [Bool.and_eq_true] at w3
        rw [w3.1] at c3
        have w4 := w3.2
        rw [w4] at c4
        rw [seq_to (ρ' := [.dat (tl told), .dat paper, .dat H, .dat A, .no, .no, .no]) (by
          rw [if_of (b := false) (by
            rw [x_tOr, x_tNo, x_tNo, tV_of c3, tV_of c4]
            rfl)]
          rfl)]
        have rng : ∀ a ∈ as, 0 ≤ a ∧ a < told.length := fun a m => by
          have := List.all_eq_true.mp w4 a m
          simpa using this
        refine ret_to ((cM2 (d := tl told) (d2 := .list (as.map .int)) (by simp) ((cA1 (d := A) (by simp)).trans qa.list)).trans ?_)
        rw [are_apart (fun i => tl_ix) (.inr rfl) rng la]
        rfl
theorem said_of {X paper : D} {b : Bool} (h1 : m_shows_hits [X, paper] = ret (.bool b)) (h2 : m__law_is_right [X, paper] = ret (.bool b)) : m__law_said [X, paper] = ret (.bool true) := by
  rw [is__law_said, s__law_said, seq_to (set_to ((cM2 (d := X) (d2 := paper) (by simp) (by simp)).trans h1))]
  simp only [List.set_cons_succ, List.set_cons_zero]
  have c : cA fInt (aC (cM m__law_is_right (aC (gVar 0) (aC (gVar 1) aN))) aN) [.dat X, .dat paper, .dat (.bool b)] = ret (.int (if b then 1 else 0)) := (cA1 ((cM2 (d := X) (d2 := paper) (by simp) (by simp)).trans h2)).trans (by cases b <;> rfl)
  have i1 : op2 fIs (.bool b) (.bool false) = ret (.bool (decide (b = false))) := rfl
  have i2 : op2 fIs (.bool b) (.bool true) = ret (.bool (decide (b = true))) := rfl
  refine ret_to ?_
  rw [b2_of (x := .tuple [.bool (decide (b = false)), .bool (decide (b = true))]) (by simp [i1, i2, mkT]) c]
  cases b <;> rfl
end L2.AR.T
set_option Elab.async false
set_option linter.all false
set_option maxRecDepth 100000
set_option maxHeartbeats 4000000
namespace L2.AR.T
open PySem PySem.Spec PyProof.Rows
/-! ### plain forms -/
theorem plainL_map : ∀ ds : List D, plainL ds = ds.map plainD
  | [] => by simp [plainL]
  | d :: ds => by simp [plainL, plainL_map ds]
theorem plain_tup (ds : List D) : plainD (.tuple ds) = .tuple (ds.map plainD) := by rw [plainD, plainL_map]
theorem plain_lst (ds : List D) : plainD (.list ds) = .tuple (ds.map plainD) := by rw [plainD, plainL_map]
theorem ok_tup {n : Nat} {ds : List D} (h : ∀ d ∈ ds, okP n d = true) (l : ds.length ≤ 100000) : okP (n + 1) (.tuple ds) = true := by
  rw [okP, Bool.and_eq_true, decide_eq_true_eq, List.all_eq_true]
  exact ⟨l, h⟩
theorem ok_lst {n : Nat} {ds : List D} (h : ∀ d ∈ ds, okP n d = true) (l : ds.length ≤ 100000) : okP (n + 1) (.list ds) = true := by
  rw [okP, Bool.and_eq_true, decide_eq_true_eq, List.all_eq_true]
  exact ⟨l, h⟩
theorem plain_pr (p : Pt) : plainD (pr p) = pr p := by
  rw [pr_is, plain_tup]
  simp [plainD]
theorem plain_prL (p : Pt) : plainD (prL p) = pr p := by
  unfold prL
  rw [plain_lst, pr_is]
  simp [plainD]
theorem ok_pr {n : Nat} (p : Pt) : okP (n + 2) (pr p) = true := by
  rw [pr_is]
  exact ok_tup (fun d m => by
    simp at m
    rcases m with rfl | rfl <;> simp [okP]) (by simp)
theorem ok_prL {n : Nat} (p : Pt) : okP (n + 2) (prL p) = true := ok_lst (fun d m => by
    simp at m
    rcases m with rfl | rfl <;> simp [okP]) (by simp)
theorem map_pl (told : List Pt) : (told.map pr).map plainD = told.map pr := by
  rw [List.map_map]
  exact List.map_congr_left fun p _ => plain_pr p
theorem map_plL (told : List Pt) : (told.map prL).map plainD = told.map pr := by
  rw [List.map_map]
  exact List.map_congr_left fun p _ => plain_prL p
theorem src_tl {told : List Pt} (l : told.length ≤ 1000) : Src told (tl told) :=
  ⟨ok_lst (fun d m => by obtain ⟨p, _, rfl⟩ := List.mem_map.mp m; exact ok_pr p) (by simp; omega), by unfold tl tt; rw [plain_lst, map_pl]⟩
theorem src_tt {told : List Pt} (l : told.length ≤ 1000) : Src told (tt told) :=
  ⟨ok_tup (fun d m => by obtain ⟨p, _, rfl⟩ := List.mem_map.mp m; exact ok_pr p) (by simp; omega), by unfold tt; rw [plain_tup, map_pl]⟩
theorem src_hd {told : List Pt} (l : told.length ≤ 1000) : Src told (.list (told.map prL)) :=
  ⟨ok_lst (fun d m => by obtain ⟨p, _, rfl⟩ := List.mem_map.mp m; exact ok_prL p) (by simp; omega), by rw [plain_lst, map_plL]; rfl⟩
/-- what may stand in a paper's rows -/
structure Fl (d : D) : Prop where
  nd : ndD d = true
  pl : plainD d = d
  ok : okP 10 d = true
theorem Fl.int (i : Int) : Fl (.int i) := ⟨rfl, by simp [plainD], by simp [okP]⟩
theorem Fl.bool (i : Bool) : Fl (.bool i) := ⟨rfl, by simp [plainD], by simp [okP]⟩
theorem Fl.none : Fl .none := ⟨rfl, by simp [plainD], by simp [okP]⟩
theorem Fl.one : Fl (.tuple [.int 0]) := ⟨rfl, by simp [plainD, plainL], by simp [okP]⟩
theorem fl_map {h : List D} (f : ∀ d ∈ h, Fl d) : h.map plainD = h := (List.map_congr_left fun d m => (f d m).pl).trans (List.map_id h)
theorem fl_sq {H : D} {h : List D} (q : Sq H h) (f : ∀ d ∈ h, Fl d) (l : h.length ≤ 1000) : plainD H = .tuple h ∧ okP 11 H = true := by
  rcases q with rfl | rfl
  · exact ⟨by rw [plain_tup, fl_map f], ok_tup (fun d m => (f d m).ok) (by omega)⟩
  · exact ⟨by rw [plain_lst, fl_map f], ok_lst (fun d m => (f d m).ok) (by omega)⟩
def Sd (told : List Pt) (p : D) : Prop := m__law_said [tl told, p] = ret (.bool true) ∧ isTok p = false
section
variable {told : List Pt} (ok : OkP told) (l : told.length ≤ 1000)
include ok l
theorem said_seq {paper H A : D} {h a : List D} (q : Sq paper [H, A]) (qh : Sq H h) (qa : Sq A a) (fh : ∀ d ∈ h, Fl d) (fa : ∀ d ∈ a, Fl d) (lh : h.length ≤ 1000) (la : a.length ≤ 1000) : Sd told paper := by
  obtain ⟨p1, o1⟩ := fl_sq qh fh lh
  obtain ⟨p2, o2⟩ := fl_sq qa fa la
  have o : ∀ d ∈ [H, A], okP 11 d = true := fun d m => by
    simp at m
    rcases m with rfl | rfl
    · exact o1
    · exact o2
  have okp : okP 12 paper = true := by
    rcases q with rfl | rfl
    · exact ok_tup o (by simp)
    · exact ok_lst o (by simp)
  have pl : plainD paper = .tuple [.tuple h, .tuple a] := by
    rcases q with rfl | rfl
    · rw [plain_tup, List.map_cons, List.map_cons, List.map_nil, p1, p2]
    · rw [plain_lst, List.map_cons, List.map_cons, List.map_nil, p1, p2]
  have nt : isTok paper = false := by rcases q with rfl | rfl <;> rfl
  have nh : ∀ d ∈ h, ndD d = true := fun d m => (fh d m).nd
  have na : ∀ d ∈ a, ndD d = true := fun d m => (fa d m).nd
  refine ⟨?_, nt⟩
  by_cases c : (h.all isI && a.all isI) = true
  · rw [Bool.and_eq_true] at c
    have e1 := ints_of c.1
    have e2 := ints_of c.2
    rw [e1, e2] at pl
    rw [e1] at qh
    rw [e2] at qa
    exact said_of (shows_true (src_tl l) ok l okp pl (by simpa using lh) (by simpa using la)) (right_true q qh qa l (by simpa using lh) (by simpa using la))
  · have c : (h.all isI && a.all isI) = false := by simpa using c
    refine said_of (shows_unl (src_tl l) ok l okp pl (unlike nh lh) (unlike na la) ?_) (right_not q qh qa nh na lh la c)
    unfold unl
    cases w1 : h.all isI
    · simp
    · cases w2 : a.all isI
      · simp
      · rw [w1, w2] at c
        cases c
theorem said_tt {h a : List D} (fh : ∀ d ∈ h, Fl d) (fa : ∀ d ∈ a, Fl d) (lh : h.length ≤ 1000) (la : a.length ≤ 1000) : Sd told (.tuple [.tuple h, .tuple a]) := said_seq ok l (.inl rfl) (.inl rfl) (.inl rfl) fh fa lh la
theorem said_len {ds : List D} (okp : okP 12 (.tuple ds) = true) (n : ds.length ≠ 2) : Sd told (.tuple ds) :=
  ⟨said_of (shows_len (src_tl l) ok l okp (plain_tup ds) (by rw [List.length_map]; exact n)) (right_len (.inl rfl) n), rfl⟩
theorem said_no {p : D} (okp : okP 12 p = true) (pl : plainD p = p) (nd : ndD p = true) (n : isS p = false) : Sd told p := by
  have t : isT p = false := by cases p <;> first | rfl | cases n
  refine ⟨said_of (shows_no (src_tl l) ok l okp pl nd t) (right_no nd n), ?_⟩
  cases p <;> first | rfl | cases nd
theorem said_half1 {h : List D} {A : D} (fh : ∀ d ∈ h, Fl d) (lh : h.length ≤ 1000) (fa : Fl A) (n : isS A = false) : Sd told (.tuple [.tuple h, A]) := by
  obtain ⟨p1, o1⟩ := fl_sq (.inl rfl) fh lh
  have t : isT A = false := by cases A <;> first | rfl | cases n
  have oa : okP 11 A = true := by
    have nd := fa.nd
    cases A <;> first | (simp [okP]; done) | (cases n; done) | (cases nd; done)
  have okp : okP 12 (.tuple [.tuple h, A]) = true := ok_tup (fun d m => by
    simp at m
    rcases m with rfl | rfl
    · exact o1
    · exact oa) (by simp)
  refine ⟨said_of (shows_unl (src_tl l) ok l okp (by rw [plain_tup, List.map_cons, List.map_cons, List.map_nil, p1, fa.pl]) (unlike (fun d m => (fh d m).nd) lh) (unlike_no fa.nd t) (Bool.and_false _)) (right_nonseq (.inl rfl) rfl fa.nd (by rw [n, Bool.and_false])), rfl⟩
theorem said_half2 {a : List D} {H : D} (fa : ∀ d ∈ a, Fl d) (la : a.length ≤ 1000) (fh : Fl H) (n : isS H = false) : Sd told (.tuple [H, .tuple a]) := by
  obtain ⟨p1, o1⟩ := fl_sq (.inl rfl) fa la
  have t : isT H = false := by cases H <;> first | rfl | cases n
  have oa : okP 11 H = true := by
    have nd := fh.nd
    cases H <;> first | (simp [okP]; done) | (cases n; done) | (cases nd; done)
  have okp : okP 12 (.tuple [H, .tuple a]) = true := ok_tup (fun d m => by
    simp at m
    rcases m with rfl | rfl
    · exact oa
    · exact o1) (by simp)
  refine ⟨said_of (shows_unl (src_tl l) ok l okp (by rw [plain_tup, List.map_cons, List.map_cons, List.map_nil, p1, fh.pl]) (unlike_no fh.nd t) (unlike (fun d m => (fa d m).nd) la) (Bool.false_and _)) (right_nonseq (.inl rfl) fh.nd rfl (by rw [n, Bool.false_and])), rfl⟩
end
/-! ### the papers of the law -/
theorem tok_ti (xs : List Int) : isTok (ti xs) = false := rfl
theorem ti_add {xs ys : List Int} (h : xs.length + ys.length ≤ 1000) : op2 fAdd (ti xs) (ti ys) = ret (ti (xs ++ ys)) := by
  unfold ti tupD
  rw [o_addT, if_pos (by simp; omega), List.map_append]
theorem ti_one {xs : List Int} {d : D} (h : xs.length ≤ 1000) : op2 fAdd (ti xs) (.tuple [d]) = ret (.tuple (xs.map .int ++ [d])) := by
  unfold ti tupD
  rw [o_addT, if_pos (by simp; omega)]
theorem ti_to {xs : List Int} {k : Nat} (h : k ≤ xs.length) : sliceD (ti xs) none (some (k : Int)) = ret (ti (xs.take k)) := by
  show ret (PyData.tuple (cutD (xs.map PyData.int) none (some (k : Int)))) = _
  rw [cut_to _ _ (by simpa using h), ← List.map_take]
  rfl
theorem ti_from {xs : List Int} {k : Nat} (h : k ≤ xs.length) : sliceD (ti xs) (some (k : Int)) none = ret (ti (xs.drop k)) := by
  show ret (PyData.tuple (cutD (xs.map PyData.int) (some (k : Int)) none)) = _
  rw [cut_from _ _ (by simpa using h), ← List.map_drop]
  rfl
theorem ti_ix {xs : List Int} {k : Nat} (h : k < xs.length) : op2 fIx (ti xs) (.int (k : Int)) = ret (.int (xs.getD k 0)) := o_ixT (at_num h)
theorem ti_back (xs : List Int) : revD (ti xs) = ret (ti xs.reverse) := by
  unfold ti tupD
  rw [revD_tuple, List.map_reverse]
theorem fl_ints (xs : List Int) : ∀ d ∈ xs.map PyData.int, Fl d := fun d m => by obtain ⟨i, _, rfl⟩ := List.mem_map.mp m; exact .int i
theorem fl_snoc {xs : List Int} {x : D} (f : Fl x) : ∀ d ∈ xs.map PyData.int ++ [x], Fl d := fun d m => by
  rcases List.mem_append.mp m with m | m
  · exact fl_ints xs d m
  · simp at m
    rw [m]
    exact f
theorem ok_ti {n : Nat} {xs : List Int} (l : xs.length ≤ 1000) : okP (n + 2) (ti xs) = true := ok_tup (fun d m => by obtain ⟨i, _, rfl⟩ := List.mem_map.mp m; simp [okP]) (by simp; omega)
end L2.AR.T
set_option Elab.async false
set_option linter.all false
set_option maxRecDepth 100000
set_option maxHeartbeats 4000000
namespace L2.AR.T
open PySem PySem.Spec PyProof.Rows
theorem ti_list (xs : List Int) : opA fList [ti xs] = ret (.list (xs.map .int)) := by simp [ti, tupD]
theorem cutout {i j : Nat} {ρ : Rho} {xs : List Int} {k : Nat} (e : gVar i ρ = ret (ti xs)) (ej : gVar j ρ = ret (.int (k : Int))) (h : k < xs.length) (lx : xs.length ≤ 500) :
    b2 fAdd (sl (gVar i) oNo (oSo (gVar j))) (sl (gVar i) (oSo (b2 fAdd (gVar j) (cK (.int 1)))) oNo) ρ = ret (ti (xs.take k ++ xs.drop (k + 1))) := by
  have k1 : (k : Int) + 1 = ((k + 1 : Nat) : Int) := by simp
  rw [b2_of (x := ti (xs.take k)) (y := ti (xs.drop (k + 1))) (by
    rw [x_sl, e, bnd_ret, x_oNo, bnd_ret, x_oSo, ej, bnd_ret, asI_int, bnd_ret]
    exact ti_to (by omega)) (by
    rw [x_sl, e, bnd_ret, x_oSo, b2_of ej (x_cK _ _), o_add, bnd_ret, asI_int, bnd_ret, x_oNo, bnd_ret, k1]
    exact ti_from (by omega))]
  exact ti_add (by simp; omega)
theorem add_step {ρ : Rho} {g : Rho → M D} {W V : List D} (hρ : gVar 5 ρ = ret (.list W)) (e : g ρ = ret (.list V)) (l : W.length + V.length ≤ 1000000) : sSet 5 (b2 fAdd (gVar 5) g) ρ = okS .nx (ρ.set 5 (.dat (.list (W ++ V)))) := set_to ((b2_of hρ e).trans ((o_addL _ _).trans (if_pos l)))
def W0 (hs as : List Int) : List D := [.none, .tuple [], .int 5, .str "ab", .tuple [ti hs], .tuple [ti hs, ti as, .tuple []], .tuple [ti as, ti hs], .tuple [ti hs, .none], .tuple [.int 7, ti as], .list [.list (hs.map .int), .list (as.map .int)], .tuple [ti hs.reverse, ti as.reverse]]
theorem w0_sd {told : List Pt} (ok : OkP told) (l : told.length ≤ 1000) {hs as : List Int} (lh : hs.length ≤ 500) (la : as.length ≤ 500) : ∀ p ∈ W0 hs as, Sd told p := by
  have o1 : okP 11 (ti hs) = true := ok_ti (by omega)
  have o2 : okP 11 (ti as) = true := ok_ti (by omega)
  have o3 : okP 11 (.tuple []) = true := by simp [okP]
  intro p m
  simp only [W0, List.mem_cons, List.not_mem_nil, or_false] at m
  rcases m with rfl | rfl | rfl | rfl | rfl | rfl | rfl | rfl | rfl | rfl | rfl
  · exact said_no ok l (by simp [okP]) (by simp [plainD]) rfl rfl
  · exact said_len ok l (by simp [okP]) (by decide)
  · exact said_no ok l (by simp [okP]) (by simp [plainD]) rfl rfl
  · exact said_no ok l (by simp [okP]) (by simp [plainD]) rfl rfl
  · exact said_len ok l (ok_tup (fun d m => by simp at m; rw [m]; exact o1) (by simp)) (by simp)
  · exact said_len ok l (ok_tup (fun d m => by
      simp at m
      rcases m with rfl | rfl | rfl
      · exact o1
      · exact o2
      · exact o3) (by simp)) (by simp)
  · exact said_tt ok l (fl_ints as) (fl_ints hs) (by simp; omega) (by simp; omega)
  · exact said_half1 ok l (fl_ints hs) (by simp; omega) .none rfl
  · exact said_half2 ok l (fl_ints as) (by simp; omega) (.int 7) rfl
  · exact said_seq ok l (.inr rfl) (.inr rfl) (.inr rfl) (fl_ints hs) (fl_ints as) (by simp; omega) (by simp; omega)
  · exact said_tt ok l (fl_ints _) (fl_ints _) (by simp; omega) (by simp; omega)
theorem all_said {told : List Pt} {W : List D} {x1 x2 x3 x4 x6 x7 x8 x9 x10 : Sl} (h : ∀ p ∈ W, Sd told p) (l : W.length ≤ 1000000) :
    cA fAll (aC (gComp [9] (gVar 5) (tgN 9) tYs (cM m__law_said (aC (gVar 0) (aC (gVar 9) aN)))) aN) [.dat (tl told), x1, x2, x3, x4, .dat (.list W), x6, x7, x8, x9, x10] = ret (.bool true) := by
  have c : gComp [9] (gVar 5) (tgN 9) tYs (cM m__law_said (aC (gVar 0) (aC (gVar 9) aN))) [.dat (tl told), x1, x2, x3, x4, .dat (.list W), x6, x7, x8, x9, x10] = ret (.list (W.map fun _ => .bool true)) := by
    rw [x_comp]
    simp only [gVarS, gVar0, bnd_ret, items_list, orStk_some]
    have := comp_of (i := 9) (g := cM m__law_said (aC (gVar 0) (aC (gVar 9) aN))) (ρ := wipeR [.dat (tl told), x1, x2, x3, x4, .dat (.list W), x6, x7, x8, x9, x10] [9]) (e := id) (f := fun _ => PyData.bool true) W (fun p m => (cM2 (d := tl told) (d2 := p) (by simp [wipeR]) (by simp [wipeR])).trans (h p m).1) (fun _ _ => rfl) l
    rw [List.map_id] at this
    exact this
  rw [cA1 c, o_all (fun _ => true)]
  have t : (W.all fun _ => true) = true := List.all_eq_true.mpr fun _ _ => rfl
  rw [t]
abbrev ppV1 : Rho → M D := (cA mkLst (aC (cA mkTup (aC (gVar 7) (aC (gVar 2) aN))) (aC (cA mkTup (aC (gVar 1) (aC (gVar 8) aN))) (aC (cA mkTup (aC (gVar 7) (aC (gVar 8) aN))) (aC (cA mkTup (aC (b2 fAdd (gVar 1) (sl (gVar 1) oNo (oSo (cK (.int 1))))) (aC (b2 fAdd (gVar 2) (sl (gVar 2) oNo (oSo (cK (.int 1))))) aN))) (aC (cA mkTup (aC (b2 fAdd (gVar 1) (sl (gVar 1) oNo (oSo (cK (.int 1))))) (aC (b2 fAdd (gVar 2) (cA mkTup (aC (gVar 4) aN))) aN))) aN))))))
abbrev ppV2 : Rho → M D := (cA mkLst (aC (cA mkTup (aC (b2 fAdd (gVar 7) (cA mkTup (aC (b2 fAdd (b2 fIx (gVar 1) (gVar 6)) (cK (.int 1))) aN))) (aC (gVar 2) aN))) (aC (cA mkTup (aC (b2 fAdd (gVar 7) (cA mkTup (aC (b2 fSub (b2 fIx (gVar 1) (gVar 6)) (cK (.int 1))) aN))) (aC (gVar 2) aN))) (aC (cA mkTup (aC (b2 fAdd (gVar 7) (cA mkTup (aC (b2 fAdd (b2 fIx (gVar 1) (gVar 6)) (b2 fPow (cK (.int 10)) (cK (.int 13)))) aN))) (aC (gVar 2) aN))) (aC (cA mkTup (aC (b2 fAdd (gVar 7) (cA mkTup (aC (cK (.bool true)) aN))) (aC (gVar 2) aN))) aN)))))
abbrev ppV3 : Rho → M D := (cA mkLst (aC (cA mkTup (aC (gVar 1) (aC (b2 fAdd (gVar 8) (cA mkTup (aC (gVar 4) aN))) aN))) (aC (cA mkTup (aC (gVar 1) (aC (b2 fAdd (gVar 8) (cA mkTup (aC (vNeg (cK (.int 1))) aN))) aN))) (aC (cA mkTup (aC (gVar 1) (aC (b2 fAdd (gVar 8) (cA mkTup (aC (cK .none) aN))) aN))) (aC (cA mkTup (aC (gVar 1) (aC (b2 fAdd (gVar 8) (cA mkTup (aC (cK (.bool false)) aN))) aN))) (aC (cA mkTup (aC (gVar 1) (aC (b2 fAdd (gVar 8) (cA mkTup (aC (cA mkTup (aC (cK (.int 0)) aN)) aN))) aN))) aN))))))
abbrev ppV4 : Rho → M D := (gCompR [10] (aC (gVar 4) aN) (tgN 10) tYs (cA mkTup (aC (gVar 1) (aC (b2 fAdd (gVar 8) (cA mkTup (aC (gVar 10) aN))) aN))))
abbrev ppV5 : Rho → M D := (gCompR [10] (aC (gVar 4) aN) (tgN 10) tYs (cA mkTup (aC (b2 fAdd (gVar 1) (cA mkTup (aC (b2 fAdd (b2 fIx (gVar 1) (b2 fSub (cA fLen (aC (gVar 1) aN)) (cK (.int 1)))) (cK (.int 77))) aN))) (aC (b2 fAdd (gVar 2) (cA mkTup (aC (gVar 10) aN))) aN))))
section
variable {told : List Pt} (ok : OkP told) (l : told.length ≤ 100) {hs as h1 a1 : List Int} {k : Nat} (hk : k < hs.length) (ha : 0 < as.length) (lh : hs.length ≤ 200) (la : as.length ≤ 200) (lh1 : h1.length ≤ 400) (la1 : a1.length ≤ 400) {W : List D} {x9 x10 : Sl}
include ok l hk ha lh la lh1 la1
abbrev ppR (told : List Pt) (hs as : List Int) (W : List D) (k : Nat) (h1 a1 : List Int) (x9 x10 : Sl) : Rho := [.dat (tl told), .dat (ti hs), .dat (ti as), .dat tok, .dat (.int (told.length : Int)), .dat (.list W), .dat (.int (k : Int)), .dat (ti h1), .dat (ti a1), x9, x10]
theorem pp1 : ∃ V, ppV1 (ppR told hs as W k h1 a1 x9 x10) = ret (.list V) ∧ V.length ≤ 1000 ∧ ∀ p ∈ V, Sd told p := by
  have s1 := ti_to (xs := hs) (k := 1) (by omega)
  have s2 := ti_to (xs := as) (k := 1) (by omega)
  rw [show ((1 : Nat) : Int) = 1 from rfl] at s1 s2
  have t1 := ti_add (xs := hs) (ys := hs.take 1) (by simp; omega)
  have t2 := ti_add (xs := as) (ys := as.take 1) (by simp; omega)
  have t3 := ti_one (xs := as) (d := .int (told.length : Int)) (by omega)
  refine ⟨[.tuple [ti h1, ti as], .tuple [ti hs, ti a1], .tuple [ti h1, ti a1], .tuple [ti (hs ++ hs.take 1), ti (as ++ as.take 1)], .tuple [ti (hs ++ hs.take 1), .tuple (as.map .int ++ [.int (told.length : Int)])]], ?_, by simp, ?_⟩
  · simp [ppV1, ppR, mkT, mkL, tok_ti, s1, s2, t1, t2, t3]
  · intro p m
    simp only [List.mem_cons, List.not_mem_nil, or_false] at m
    rcases m with rfl | rfl | rfl | rfl | rfl
    · exact said_tt ok (by omega) (fl_ints _) (fl_ints _) (by simp; omega) (by simp; omega)
    · exact said_tt ok (by omega) (fl_ints _) (fl_ints _) (by simp; omega) (by simp; omega)
    · exact said_tt ok (by omega) (fl_ints _) (fl_ints _) (by simp; omega) (by simp; omega)
    · exact said_tt ok (by omega) (fl_ints _) (fl_ints _) (by simp; omega) (by simp; omega)
    · exact said_tt ok (by omega) (fl_ints _) (fl_snoc (.int _)) (by simp; omega) (by simp; omega)
theorem pp2 : ∃ V, ppV2 (ppR told hs as W k h1 a1 x9 x10) = ret (.list V) ∧ V.length ≤ 1000 ∧ ∀ p ∈ V, Sd told p := by
  have i := ti_ix (xs := hs) hk
  have t : ∀ d, op2 fAdd (ti h1) (.tuple [d]) = ret (.tuple (h1.map .int ++ [d])) := fun d => ti_one (by omega)
  have p13 : op2 fPow (.int 10) (.int 13) = ret (.int (10 ^ 13)) := rfl
  refine ⟨[.tuple [.tuple (h1.map .int ++ [.int (hs.getD k 0 + 1)]), ti as], .tuple [.tuple (h1.map .int ++ [.int (hs.getD k 0 - 1)]), ti as], .tuple [.tuple (h1.map .int ++ [.int (hs.getD k 0 + 10 ^ 13)]), ti as], .tuple [.tuple (h1.map .int ++ [.bool true]), ti as]], ?_, by simp, ?_⟩
  · simp [ppV2, ppR, mkT, mkL, tok_ti, i, t, p13, -List.getD_eq_getElem?_getD]
  · intro p m
    simp only [List.mem_cons, List.not_mem_nil, or_false] at m
    rcases m with rfl | rfl | rfl | rfl
    · exact said_tt ok (by omega) (fl_snoc (.int _)) (fl_ints _) (by simp; omega) (by simp; omega)
    · exact said_tt ok (by omega) (fl_snoc (.int _)) (fl_ints _) (by simp; omega) (by simp; omega)
    · exact said_tt ok (by omega) (fl_snoc (.int _)) (fl_ints _) (by simp; omega) (by simp; omega)
    · exact said_tt ok (by omega) (fl_snoc (.bool _)) (fl_ints _) (by simp; omega) (by simp; omega)
theorem pp3 : ∃ V, ppV3 (ppR told hs as W k h1 a1 x9 x10) = ret (.list V) ∧ V.length ≤ 1000 ∧ ∀ p ∈ V, Sd told p := by
  have t : ∀ d, op2 fAdd (ti a1) (.tuple [d]) = ret (.tuple (a1.map .int ++ [d])) := fun d => ti_one (by omega)
  refine ⟨[.tuple [ti hs, .tuple (a1.map .int ++ [.int (told.length : Int)])], .tuple [ti hs, .tuple (a1.map .int ++ [.int (-1)])], .tuple [ti hs, .tuple (a1.map .int ++ [.none])], .tuple [ti hs, .tuple (a1.map .int ++ [.bool false])], .tuple [ti hs, .tuple (a1.map .int ++ [.tuple [.int 0]])]], ?_, by simp, ?_⟩
  · simp [ppV3, ppR, mkT, mkL, tok_ti, t]
  · intro p m
    simp only [List.mem_cons, List.not_mem_nil, or_false] at m
    rcases m with rfl | rfl | rfl | rfl | rfl
    · exact said_tt ok (by omega) (fl_ints _) (fl_snoc (.int _)) (by simp; omega) (by simp; omega)
    · exact said_tt ok (by omega) (fl_ints _) (fl_snoc (.int _)) (by simp; omega) (by simp; omega)
    · exact said_tt ok (by omega) (fl_ints _) (fl_snoc .none) (by simp; omega) (by simp; omega)
    · exact said_tt ok (by omega) (fl_ints _) (fl_snoc (.bool _)) (by simp; omega) (by simp; omega)
    · exact said_tt ok (by omega) (fl_ints _) (fl_snoc .one) (by simp; omega) (by simp; omega)
theorem pp4 : ∃ V, ppV4 (ppR told hs as W k h1 a1 x9 x10) = ret (.list V) ∧ V.length ≤ 1000 ∧ ∀ p ∈ V, Sd told p := by
  have t : ∀ d, op2 fAdd (ti a1) (.tuple [d]) = ret (.tuple (a1.map .int ++ [d])) := fun d => ti_one (by omega)
  refine ⟨(List.range told.length).map fun (j : Nat) => .tuple [ti hs, .tuple (a1.map .int ++ [.int (j : Int)])], ?_, by simp; omega, ?_⟩
  · unfold ppV4
    rw [compN (n := told.length) (by simp [ppR]) (by omega)]
    exact comp_of (List.range told.length) (fun j _ => by simp [wipeR, ppR, mkT, tok_ti, t]) (fun _ _ => rfl) (by simp; omega)
  · intro p m
    obtain ⟨j, _, rfl⟩ := List.mem_map.mp m
    exact said_tt ok (by omega) (fl_ints _) (fl_snoc (.int _)) (by simp; omega) (by simp; omega)
theorem pp5 : ∃ V, ppV5 (ppR told hs as W k h1 a1 x9 x10) = ret (.list V) ∧ V.length ≤ 1000 ∧ ∀ p ∈ V, Sd told p := by
  have th : ∀ d, op2 fAdd (ti hs) (.tuple [d]) = ret (.tuple (hs.map .int ++ [d])) := fun d => ti_one (by omega)
  have ta : ∀ d, op2 fAdd (ti as) (.tuple [d]) = ret (.tuple (as.map .int ++ [d])) := fun d => ti_one (by omega)
  have i := ti_ix (xs := hs) (k := hs.length - 1) (by omega)
  have e : ((hs.length - 1 : Nat) : Int) = (hs.length : Int) - 1 := by omega
  rw [e] at i
  refine ⟨(List.range told.length).map fun (j : Nat) => .tuple [.tuple (hs.map .int ++ [.int (hs.getD (hs.length - 1) 0 + 77)]), .tuple (as.map .int ++ [.int (j : Int)])], ?_, by simp; omega, ?_⟩
  · unfold ppV5
    rw [compN (n := told.length) (by simp [ppR]) (by omega)]
    exact comp_of (List.range told.length) (fun j _ => by simp [wipeR, ppR, mkT, tok_ti, ti_len, i, th, ta, -List.getD_eq_getElem?_getD]) (fun _ _ => rfl) (by simp; omega)
  · intro p m
    obtain ⟨j, _, rfl⟩ := List.mem_map.mp m
    exact said_tt ok (by omega) (fl_snoc (.int _)) (fl_snoc (.int _)) (by simp; omega) (by simp; omega)
end
theorem papers_right {told : List Pt} (ok : OkP told) (l : told.length ≤ 100) {hs as : List Int} (eq : hs.length = as.length) (lh : hs.length ≤ 200) : Ends (m__law_papers_right [tl told, ti hs, ti as, tok]) fun d => d = .bool true := by
  have la : as.length ≤ 200 := by omega
  have w0 := w0_sd ok (by omega) (hs := hs) (as := as) (by omega) (by omega)
  rw [is__law_papers_right, s__law_papers_right]
  refine Ends.endB ?_
  rw [seq_to (ρ' := [.dat (tl told), .dat (ti hs), .dat (ti as), .dat tok, .dat (.int (told.length : Int)), .no, .no, .no, .no, .no, .no]) (set_to ((cA1 (gVar0 _ _)).trans (tl_len told)))]
  rw [seq_to (ρ' := [.dat (tl told), .dat (ti hs), .dat (ti as), .dat tok, .dat (.int (told.length : Int)), .dat (.list (W0 hs as)), .no, .no, .no, .no, .no]) (set_to (d := .list (W0 hs as)) (by simp [mkT, mkL, tok_ti, ti_list, ti_back, W0]))]
  have gt : (tV (b2 fGt (cA fLen (aC (gVar 1) aN)) (cK (.int 0)))) [.dat (tl told), .dat (ti hs), .dat (ti as), .dat tok, .dat (.int (told.length : Int)), .dat (.list (W0 hs as)), .no, .no, .no, .no, .no] = ret (decide (0 < hs.length)) := by
    refine tV_of ?_
    rw [b2_of ((cA1 (d := ti hs) (by simp)).trans (ti_len hs)) (x_cK _ _), o_gt]
    congr 2
    exact decide_eq_decide.mpr (by omega)
  refine seq_ends (Q := fun r => ∃ W x6 x7 x8 x9 x10, r = [.dat (tl told), .dat (ti hs), .dat (ti as), .dat tok, .dat (.int (told.length : Int)), .dat (.list W), x6, x7, x8, x9, x10] ∧ W.length ≤ 10000 ∧ ∀ p ∈ W, Sd told p) ?_ ?_
  · rw [if_of gt]
    by_cases c : 0 < hs.length
    · rw [decide_eq_true c, if_pos rfl]
      refine seq_ends (Q := fun r => ∃ k : Nat, k < hs.length ∧ r = [.dat (tl told), .dat (ti hs), .dat (ti as), .dat tok, .dat (.int (told.length : Int)), .dat (.list (W0 hs as)), .dat (.int (k : Int)), .no, .no, .no, .no]) ?_ ?_
      · rw [x_set, cM2 (d := tok) (d2 := .int (hs.length : Int)) (by simp) ((cA1 (d := ti hs) (by simp)).trans (ti_len hs))]
        refine EndsS.bnd (draw _ (by omega)) ?_
        rintro _ ⟨r, rfl, r0, r1⟩
        obtain ⟨k, rfl⟩ : ∃ k : Nat, r = k := ⟨r.toNat, by omega⟩
        exact EndsS.ok ⟨rfl, k, by omega, rfl⟩
      rintro _ ⟨k, hk, rfl⟩
      have cut1 := cutout (i := 1) (j := 6) (ρ := [.dat (tl told), .dat (ti hs), .dat (ti as), .dat tok, .dat (.int (told.length : Int)), .dat (.list (W0 hs as)), .dat (.int (k : Int)), .no, .no, .no, .no]) (xs := hs) (k := k) (by simp) (by simp) hk (by omega)
      have cut2 := cutout (i := 2) (j := 6) (ρ := [.dat (tl told), .dat (ti hs), .dat (ti as), .dat tok, .dat (.int (told.length : Int)), .dat (.list (W0 hs as)), .dat (.int (k : Int)), .no, .no, .no, .no]) (xs := as) (k := k) (by simp) (by simp) (by omega) (by omega)
      rw [seq_to (ρ' := ppR told hs as (W0 hs as) k (hs.take k ++ hs.drop (k + 1)) (as.take k ++ as.drop (k + 1)) .no .no) (by
        rw [x_asg, cA2 cut1 cut2, mkT, if_pos ⟨rfl, by simp⟩, bndS_ret]
        rfl)]
      have lh1 : (hs.take k ++ hs.drop (k + 1)).length ≤ 400 := by simp; omega
      have la1 : (as.take k ++ as.drop (k + 1)).length ≤ 400 := by simp; omega
      generalize hs.take k ++ hs.drop (k + 1) = h1 at *
      generalize as.take k ++ as.drop (k + 1) = a1 at *
      obtain ⟨V1, e1, l1, s1⟩ := pp1 (W := W0 hs as) (x9 := .no) (x10 := .no) ok l hk (by omega) lh la lh1 la1
      rw [seq_to (ρ' := ppR told hs as (W0 hs as ++ V1) k h1 a1 .no .no) (add_step (by simp [ppR]) e1 (by simp [W0]; omega))]
      obtain ⟨V2, e2, l2, s2⟩ := pp2 (W := W0 hs as ++ V1) (x9 := .no) (x10 := .no) ok l hk (by omega) lh la lh1 la1
      rw [seq_to (ρ' := ppR told hs as (W0 hs as ++ V1 ++ V2) k h1 a1 .no .no) (add_step (by simp [ppR]) e2 (by simp [W0]; omega))]
      obtain ⟨V3, e3, l3, s3⟩ := pp3 (W := W0 hs as ++ V1 ++ V2) (x9 := .no) (x10 := .no) ok l hk (by omega) lh la lh1 la1
      rw [seq_to (ρ' := ppR told hs as (W0 hs as ++ V1 ++ V2 ++ V3) k h1 a1 .no .no) (add_step (by simp [ppR]) e3 (by simp [W0]; omega))]
      obtain ⟨V4, e4, l4, s4⟩ := pp4 (W := W0 hs as ++ V1 ++ V2 ++ V3) (x9 := .no) (x10 := .no) ok l hk (by omega) lh la lh1 la1
      rw [seq_to (ρ' := ppR told hs as (W0 hs as ++ V1 ++ V2 ++ V3 ++ V4) k h1 a1 .no .no) (add_step (by simp [ppR]) e4 (by simp [W0]; omega))]
      obtain ⟨V5, e5, l5, s5⟩ := pp5 (W := W0 hs as ++ V1 ++ V2 ++ V3 ++ V4) (x9 := .no) (x10 := .no) ok l hk (by omega) lh la lh1 la1
      have fin := add_step (ρ := ppR told hs as (W0 hs as ++ V1 ++ V2 ++ V3 ++ V4) k h1 a1 .no .no) (W := W0 hs as ++ V1 ++ V2 ++ V3 ++ V4) (V := V5) (by simp [ppR]) e5 (by simp [W0]; omega)
      rw [fin]
      refine EndsS.ok ⟨rfl, W0 hs as ++ V1 ++ V2 ++ V3 ++ V4 ++ V5, .dat (.int (k : Int)), .dat (ti h1), .dat (ti a1), .no, .no, rfl, by simp [W0]; omega, ?_⟩
      intro p m
      simp only [List.mem_append] at m
      rcases m with ((((m | m) | m) | m) | m) | m
      · exact w0 p m
      · exact s1 p m
      · exact s2 p m
      · exact s3 p m
      · exact s4 p m
      · exact s5 p m
    · rw [decide_eq_false c]
      exact EndsS.ok ⟨rfl, W0 hs as, .no, .no, .no, .no, .no, rfl, by simp [W0], w0⟩
  · rintro _ ⟨W, x6, x7, x8, x9, x10, rfl, lw, hw⟩
    rw [x_ret, all_said hw (by omega), bndS_ret]
    exact EndsS.ok ⟨_, rfl, rfl⟩
end L2.AR.T
set_option Elab.async false
set_option linter.all false
set_option maxRecDepth 100000
set_option maxHeartbeats 4000000
namespace L2.AR.T
open PySem PySem.Spec PyProof.Rows
/-! ### just -/
theorem just_self {n : Nat} {d : D} (h : J n d = true) (hn : n ≤ 40) (hz : sz d ≤ 16777216) : m__law_just [d, d] = ret (.bool true) := by
  have e1 := j_eq h h hn
  rw [j_self h] at e1
  have e2 := j_repr h hn hz
  rw [is__law_just, s__law_just]
  refine ret_to ?_
  rw [x_vAn, b2_of (gVar0 _ _) (show gVar 1 [.dat d, .dat d] = ret d by simp), e1, bnd_ret, asB_bool, bnd_ret, if_pos rfl]
  rw [b2_of ((cA1 (gVar0 _ _)).trans e2) ((cA1 (d := d) (by simp)).trans e2), o_eqS]
  simp
theorem jI_of {a : Int} (s : a.natAbs < 2 ^ 200) : jI a = true := decide_eq_true s
theorem szA_le {ds : List D} {c : Nat} (h : ∀ d ∈ ds, sz d ≤ c) : szA ds ≤ ds.length * (c + 2) := by
  induction ds with
  | nil => simp [szA]
  | cons d ds ih =>
    have := ih (fun x m => h x (by simp [m]))
    have := h d (by simp)
    simp only [szA, List.length_cons, Nat.succ_mul]
    omega
theorem j_int {n : Nat} {a : Int} (s : a.natAbs < 2 ^ 200) : J n (.int a) = true := by cases n <;> simp [J, jI_of s]
theorem j_tup {n : Nat} {ds : List D} (h : ∀ d ∈ ds, J n d = true) : J (n + 1) (.tuple ds) = true := by
  simp only [J]
  exact List.all_eq_true.mpr h
theorem j_lst {n : Nat} {ds : List D} (h : ∀ d ∈ ds, J n d = true) : J (n + 1) (.list ds) = true := by
  simp only [J]
  exact List.all_eq_true.mpr h
def SmI (xs : List Int) : Prop := ∀ x ∈ xs, x.natAbs < 2 ^ 200
theorem j_ints {n : Nat} {xs : List Int} (s : SmI xs) : ∀ d ∈ xs.map PyData.int, J n d = true := fun d m => by
  obtain ⟨i, mi, rfl⟩ := List.mem_map.mp m
  exact j_int (s i mi)
theorem sz_ints (xs : List Int) : szA (xs.map PyData.int) ≤ xs.length * 302 := by
  have := szA_le (ds := xs.map PyData.int) (c := 300) (fun d m => by
    obtain ⟨i, _, rfl⟩ := List.mem_map.mp m
    simp [sz])
  simpa using this
theorem just_int {a : Int} (s : a.natAbs < 2 ^ 200) : m__law_just [.int a, .int a] = ret (.bool true) := just_self (n := 0) (j_int s) (by decide) (by simp [sz])
/-! ### how many -/
theorem gr_sub {c : Tr} : ∀ {r C : List Tr}, c ∈ gr r C → c ∈ C ∨ c ∈ r
  | [], C, m => .inl m
  | x :: r, C, m => by
    rw [gr] at m
    split at m
    · rcases gr_sub m with z | z
      · rcases List.mem_append.mp z with z | z
        · exact .inl z
        · simp at z
          exact .inr (by simp [z])
      · exact .inr (by simp [z])
    · rcases gr_sub m with z | z
      · exact .inl z
      · exact .inr (by simp [z])
theorem hits_sub {told : List Pt} (ok : OkP told) : (gHits told).Sublist (lastsL told) := by
  refine sub_srt (grd_ok ok).2 (lasts_lt told) fun x m => ?_
  unfold gHits at m
  obtain ⟨c, mc, rfl⟩ := List.mem_map.mp m
  rcases gr_sub mc with z | z
  · cases z
  · obtain ⟨i, hi, rfl⟩ := trO_mem.mp z
    exact lasts_mem.mpr ⟨_, tat_mem (by omega) (by omega), rfl⟩
theorem gAp_lt {told : List Pt} (ok : OkP told) : (gAp told).Pairwise (· < ·) := by
  have nd := (grd_ok ok).1.na
  have le : (gAp told).Pairwise (· ≤ ·) := nums_ordered _
  exact (le.and nd).imp fun {x y} h => by omega
theorem least_head {told : List Pt} (ok : OkP told) : ∃ h t, leastL told = h :: t ∧ h.length = (gHits told).length ∧ h.Sublist (lastsL told) := by
  obtain ⟨r, _⟩ := grd_ok ok
  obtain ⟨h, t, e, h1, h2, h3⟩ := keep_head told (sLots (lastsL told)) (sLots_srt _) ⟨gHits told, sLots_mem.mpr (hits_sub ok), r.hit⟩
  have a := h3 _ (sLots_mem.mpr (hits_sub ok)) r.hit
  have b := r.least h1
  exact ⟨h, t, e, by omega, sLots_mem.mp h2⟩
theorem most_len {told : List Pt} (ok : OkP told) : (mostA told).length = (gHits told).length := by
  obtain ⟨r, _⟩ := grd_ok ok
  obtain ⟨h1, h2, _, h4⟩ := most_ok (told := told) (sLots (idx told.length)) [] rfl
  have b := h4 (gAp told) (sLots_mem.mpr (sub_srt (gAp_lt ok) (idx_lt _) fun a m => idx_mem.mpr (r.rng a m))) (apB_iff.mpr r.ap)
  have rng : ∀ a ∈ mostA told, 0 ≤ a ∧ a < told.length := by
    rcases h2 with z | z
    · intro a m
      unfold mostA at m
      rw [z] at m
      cases m
    · intro a m
      exact idx_mem.mp ((sLots_mem.mp z).subset m)
  have c := r.most rng (apB_iff.mp h1)
  have e := r.len
  unfold mostA at c ⊢
  omega
structure Tw (told : List Pt) : Prop where
  ok : OkP told
  len : told.length ≤ 8
  sm : ∀ p ∈ told, p.1.natAbs < 2 ^ 200 ∧ p.2.natAbs < 2 ^ 200
abbrev lr4 : Rho → M Bool := (tOr' (tV (b2 fNe (cA fLen (aC (b2 fIx (gVar 2) (cK (.int 0))) aN)) (cA fLen (aC (gVar 3) aN)))) (tNo (tV (cM m__law_just (aC (cM m_hit_number (aC (gVar 4) aN)) (aC (cA fLen (aC (gVar 3) aN)) aN))))))
abbrev lr9 : Rho → M Bool := (tOr' (tNo (tV (cM m__law_said (aC (gVar 0) (aC (gVar 5) aN))))) (tNo (tV (cM m__law_just (aC (gVar 4) (aC (gComp [6] (gVar 0) (tgN 6) tYs (cA fList (aC (gVar 6) aN))) aN))))))
theorem handed {told : List Pt} {x1 x2 x3 x4 x5 x6 : Sl} (l : told.length ≤ 1000) : gComp [6] (gVar 0) (tgN 6) tYs (cA fList (aC (gVar 6) aN)) [.dat (tl told), x1, x2, x3, x4, x5, x6] = ret (.list (told.map prL)) := by
  rw [x_comp, gVar0, bnd_ret]
  show orStk _ (some (told.map pr)) = _
  rw [orStk_some]
  exact comp_of told (fun p _ => (cA1 (d := pr p) (by simp [wipeR])).trans (by simp [pr_is, prL])) (fun _ _ => rfl) (by omega)
theorem eq_self (n : Nat) : op2 fNe (.int (n : Int)) (.int (n : Int)) = ret (.bool false) := by
  rw [o_neI]
  simp
theorem sm_lasts {told : List Pt} (t : Tw told) : SmI (lastsL told) := fun x m => by
  obtain ⟨p, mp, rfl⟩ := lasts_mem.mp m
  exact (t.sm p mp).2
theorem keep_mem (told : List Pt) (r : List (List Int)) : ∀ x ∈ keep told r [], x ∈ r := fun x m => by
  obtain ⟨k, e, _, h⟩ := keep_app told r []
  rw [e] at m
  exact h x (by simpa using m)
theorem keep_len (told : List Pt) (r : List (List Int)) : (keep told r []).length ≤ r.length := by
  obtain ⟨k, e, l, h⟩ := keep_app told r []
  rw [e]
  simpa using l
theorem just_least {told : List Pt} (t : Tw told) : m__law_just [.tuple ((leastL told).map ti), .tuple ((leastL told).map ti)] = ret (.bool true) := by
  have ll := lasts_len told
  have tl8 := t.len
  have p8 : 2 ^ (lastsL told).length ≤ 2 ^ 8 := Nat.pow_le_pow_right (by decide) (by omega)
  have sl := sLots_len (lastsL told)
  have kl := keep_len told (sLots (lastsL told))
  have mem : ∀ o ∈ leastL told, o.Sublist (lastsL told) := fun o m => sLots_mem.mp (keep_mem told _ o m)
  refine just_self (n := 2) (j_tup fun d m => ?_) (by decide) ?_
  · obtain ⟨o, mo, rfl⟩ := List.mem_map.mp m
    exact j_tup (j_ints fun x mx => sm_lasts t x ((mem o mo).subset mx))
  · have := szA_le (ds := (leastL told).map ti) (c := 3000) (fun d m => by
      obtain ⟨o, mo, rfl⟩ := List.mem_map.mp m
      have s := sz_ints o
      have := (mem o mo).length_le
      unfold ti tupD
      simp only [sz]
      omega)
    have k2 : (leastL told).length ≤ 256 := by unfold leastL; omega
    have := Nat.mul_le_mul_right 3002 k2
    rw [List.length_map] at *
    simp only [sz]
    omega
theorem just_handed {told : List Pt} (t : Tw told) : m__law_just [.list (told.map prL), .list (told.map prL)] = ret (.bool true) := by
  have tl8 := t.len
  refine just_self (n := 2) (j_lst fun d m => ?_) (by decide) ?_
  · obtain ⟨p, mp, rfl⟩ := List.mem_map.mp m
    refine j_lst fun d md => ?_
    simp at md
    rcases md with rfl | rfl
    · exact j_int (t.sm p mp).1
    · exact j_int (t.sm p mp).2
  · have := szA_le (ds := told.map prL) (c := 3000) (fun d m => by
      obtain ⟨p, mp, rfl⟩ := List.mem_map.mp m
      simp [prL, sz, szA])
    rw [List.length_map] at this
    simp only [sz]
    omega
theorem sm_hits {told : List Pt} (t : Tw told) : SmI (gHits told) := fun x m => sm_lasts t x ((hits_sub t.ok).subset m)
theorem just_rows {told : List Pt} (t : Tw told) : m__law_just [.tuple [.list ((gHits told).map .int), .list ((gAp told).map .int)], .tuple [.list ((gHits told).map .int), .list ((gAp told).map .int)]] = ret (.bool true) := by
  have tl8 := t.len
  have r := (grd_ok t.ok).1
  have lh : (gHits told).length ≤ told.length := by unfold gHits; rw [List.length_map]; exact grd_len told
  have la := r.len
  refine just_self (n := 2) (j_tup fun d m => ?_) (by decide) ?_
  · simp at m
    rcases m with rfl | rfl
    · exact j_lst (j_ints (sm_hits t))
    · exact j_lst (j_ints fun x mx => by have := r.rng x mx; omega)
  · have s1 := sz_ints (gHits told)
    have s2 := sz_ints (gAp told)
    simp only [sz, szA]
    omega
theorem lots_right {told : List Pt} (t : Tw told) : Ends (m__law_lots_right [tl told, tok]) fun d => d = .bool true := by
  have ok := t.ok
  have tl8 := t.len
  have ll := lasts_len told
  obtain ⟨h0, tt0, eh, lh0, sh0⟩ := least_head ok
  have lm := most_len ok
  obtain ⟨r, lt⟩ := grd_ok ok
  have lg : (gHits told).length ≤ told.length := by unfold gHits; rw [List.length_map]; exact grd_len told
  have jn : m__law_just [.int ((gHits told).length : Nat), .int ((gHits told).length : Nat)] = ret (.bool true) := just_int (by omega)
  have ix0 : op2 fIx (.tuple ((leastL told).map ti)) (.int 0) = ret (ti h0) := by
    rw [eh, List.map_cons]
    exact o_ixT (show atI (ti h0 :: tt0.map ti) ((0 : Nat) : Int) = some (ti h0) from atI_nat rfl)
  have lm' : opA fLen [ti (mostA told)] = ret (.int ((gHits told).length : Nat)) := by rw [ti_len, lm]
  have lh' : opA fLen [ti h0] = ret (.int ((gHits told).length : Nat)) := by rw [ti_len, lh0]
  have p0 : op2 fIx (.tuple [ti (gHits told), ti (gAp told)]) (.int 0) = ret (ti (gHits told)) := o_ixT rfl
  have p1 : op2 fIx (.tuple [ti (gHits told), ti (gAp told)]) (.int 1) = ret (ti (gAp told)) := o_ixT rfl
  rw [is__law_lots_right, s__law_lots_right]
  refine Ends.endB ?_
  rw [seq_to (set_to ((cM1 (gVar0 (tl told) _)).trans (law_least (by omega) (by omega))))]
  simp only [List.set_cons_succ, List.set_cons_zero]
  rw [seq_to (set_to ((cM1 (gVar0 (tl told) _)).trans (most_apart (by omega))))]
  simp only [List.set_cons_succ, List.set_cons_zero]
  rw [seq_to (ρ' := [.dat (tl told), .dat tok, .dat (.tuple ((leastL told).map ti)), .dat (ti (mostA told)), .own (told.map prL), .no, .no]) (by
    rw [x_exp, handed (by omega), bndS_ret, toOwn_is]
    rfl)]
  have c4 : tPk 4 lr4 [.dat (tl told), .dat tok, .dat (.tuple ((leastL told).map ti)), .dat (ti (mostA told)), .own (told.map prL), .no, .no] = ret false := by
    refine x_tPk (ds := told.map prL) rfl ?_
    have v : viewR 4 (told.map prL) [.dat (tl told), .dat tok, .dat (.tuple ((leastL told).map ti)), .dat (ti (mostA told)), .own (told.map prL), .no, .no] = [.dat (tl told), .no, .dat (.tuple ((leastL told).map ti)), .dat (ti (mostA told)), .dat (.list (told.map prL)), .no, .no] := by
      simp only [viewR, List.set_cons_succ, List.set_cons_zero, List.map_cons, List.map_nil, unT_no, unT_tok, unT_dat (show isTok (tl told) = false from rfl), unT_dat (show isTok (ti (mostA told)) = false from rfl), unT_dat (tok_list _), unT_dat (tok_tuple _)]
    rw [v]
    have a1 : b2 fNe (cA fLen (aC (b2 fIx (gVar 2) (cK (.int 0))) aN)) (cA fLen (aC (gVar 3) aN)) [.dat (tl told), .no, .dat (.tuple ((leastL told).map ti)), .dat (ti (mostA told)), .dat (.list (told.map prL)), .no, .no] = ret (.bool false) :=
      (b2_of ((cA1 ((b2_of (x := .tuple ((leastL told).map ti)) (by simp) (x_cK _ _)).trans ix0)).trans lh') ((cA1 (d := ti (mostA told)) (by simp)).trans lm')).trans (eq_self _)
    have a2 : cM m__law_just (aC (cM m_hit_number (aC (gVar 4) aN)) (aC (cA fLen (aC (gVar 3) aN)) aN)) [.dat (tl told), .no, .dat (.tuple ((leastL told).map ti)), .dat (ti (mostA told)), .dat (.list (told.map prL)), .no, .no] = ret (.bool true) :=
      (cM2 ((cM1 (d := .list (told.map prL)) (by simp)).trans (hit_number (src_hd (by omega)) ok (by omega))) ((cA1 (d := ti (mostA told)) (by simp)).trans lm')).trans jn
    unfold lr4
    rw [x_tOr, x_tNo, tV_of a1, tV_of a2]
    rfl
  rw [seq_to (ρ' := [.dat (tl told), .dat tok, .dat (.tuple ((leastL told).map ti)), .dat (ti (mostA told)), .own (told.map prL), .no, .no]) (by rw [if_of c4]; rfl)]
  refine seq_ends (Q := fun r => r = [.dat (tl told), .dat tok, .dat (.tuple ((leastL told).map ti)), .dat (ti (mostA told)), .own (told.map prL), .no, .no]) ?_ ?_
  · have a1 : cM m__law_just (aC (cM m_least_hits (aC (cA fTuple (aC (gVar 0) aN)) aN)) (aC (gVar 2) aN)) [.dat (tl told), .dat tok, .dat (.tuple ((leastL told).map ti)), .dat (ti (mostA told)), .own (told.map prL), .no, .no] = ret (.bool true) :=
      (cM2 ((cM1 ((cA1 (gVar0 (tl told) _)).trans (o_tupL _))).trans (least_hits (src_tt (by omega)) ok (by omega) (by omega))) (d2 := .tuple ((leastL told).map ti)) (by simp)).trans (just_least t)
    have a2 : cM m__law_papers_right (aC (gVar 0) (aC (b2 fIx (gVar 2) (cK (.int 0))) (aC (gVar 3) (aC (gVar 1) aN)))) [.dat (tl told), .dat tok, .dat (.tuple ((leastL told).map ti)), .dat (ti (mostA told)), .own (told.map prL), .no, .no] = m__law_papers_right [tl told, ti h0, ti (mostA told), tok] := by
      have i0 := (b2_of (f := fIx) (a := gVar 2) (b := cK (.int 0)) (ρ := [.dat (tl told), .dat tok, .dat (.tuple ((leastL told).map ti)), .dat (ti (mostA told)), .own (told.map prL), .no, .no]) (x := .tuple ((leastL told).map ti)) (by simp) (x_cK _ _)).trans ix0
      rw [x_cM, x_aC, x_aC, x_aC, x_aC, i0]
      simp only [gVar0, gVarS, x_aN]
      funext h
      rfl
    rw [x_if, x_tOr, x_tNo, x_tNo, tV_of a1, x_tV, a2]
    simp only [bnd_ret, Bool.not_true, Bool.false_eq_true, if_false, bndS_bnd]
    refine EndsS.bnd (papers_right ok (by omega) (by omega) (by omega)) ?_
    rintro _ rfl
    simp only [asB_bool, bndS_ret, Bool.not_true, Bool.false_eq_true, if_false, x_skip]
    exact EndsS.ok ⟨rfl, rfl⟩
  rintro _ rfl
  rw [seq_to (set_to ((cM1 (gVar0 (tl told) _)).trans (fewest_hits (src_tl (by omega)) ok (by omega))))]
  simp only [List.set_cons_succ, List.set_cons_zero]
  have rt : m__law_is_right [tl told, .tuple [ti (gHits told), ti (gAp told)]] = ret (.bool true) := by
    have e := rightB_iff.mpr r
    have la := r.len
    exact (right_true (told := told) (hs := gHits told) (as := gAp told) (paper := .tuple [ti (gHits told), ti (gAp told)]) (H := ti (gHits told)) (A := ti (gAp told)) (.inl rfl) (.inl rfl) (.inl rfl) (by omega) (by omega) (by omega)).trans (congrArg (fun b => ret (PyData.bool b)) e)
  have it : ∀ xs, gIsi ["tuple"] (ti xs) = ret (.bool true) := fun xs => i_tup_tuple _
  have la := r.len
  have pg : gVar 5 [.dat (tl told), .dat tok, .dat (.tuple ((leastL told).map ti)), .dat (ti (mostA told)), .own (told.map prL), .dat (.tuple [ti (gHits told), ti (gAp told)]), .no] = ret (.tuple [ti (gHits told), ti (gAp told)]) := by simp
  have q0 := (b2_of pg (x_cK (.int 0) _)).trans p0
  have q1 := (b2_of pg (x_cK (.int 1) _)).trans p1
  have c7 : (tOr' (tNo (tV (cI ["tuple"] (gVar 5)))) (tOr' (tNo (tV (cM m__law_is_right (aC (gVar 0) (aC (gVar 5) aN))))) (tV (b2 fNe (cA fLen (aC (b2 fIx (gVar 5) (cK (.int 0))) aN)) (cA fLen (aC (gVar 3) aN)))))) [.dat (tl told), .dat tok, .dat (.tuple ((leastL told).map ti)), .dat (ti (mostA told)), .own (told.map prL), .dat (.tuple [ti (gHits told), ti (gAp told)]), .no] = ret false := by
    rw [x_tOr, x_tOr, x_tNo, x_tNo, tV_of (b := true) (by rw [x_cI, pg, bnd_ret]; exact i_tup_tuple _), tV_of ((cM2 (gVar0 (tl told) _) pg).trans rt),
      tV_of ((b2_of ((cA1 q0).trans (ti_len _)) ((cA1 (d := ti (mostA told)) (by simp)).trans lm')).trans (eq_self _))]
    rfl
  rw [seq_to (ρ' := [.dat (tl told), .dat tok, .dat (.tuple ((leastL told).map ti)), .dat (ti (mostA told)), .own (told.map prL), .dat (.tuple [ti (gHits told), ti (gAp told)]), .no]) (by rw [if_of c7]; rfl)]
  have o1 : opA fSortB [ti (gHits told)] = ret (.list ((gHits told).map .int)) := by
    refine (o_sortT (ok_nums (by omega))).trans ?_
    rw [sort_nums, nums_srt lt]
  have o2 : opA fSortB [ti (gAp told)] = ret (.list ((gAp told).map .int)) := by
    refine (o_sortT (ok_nums (by omega))).trans ?_
    rw [sort_nums, nums_srt (gAp_lt ok)]
  have mk : ∀ a b : List D, opA mkTup [.list a, .list b] = ret (.tuple [.list a, .list b]) := fun a b => by
    rw [mkT, if_pos ⟨rfl, by simp⟩]
  have c8 : (tOr' (tNo (tV (cI ["tuple"] (b2 fIx (gVar 5) (cK (.int 0)))))) (tOr' (tNo (tV (cI ["tuple"] (b2 fIx (gVar 5) (cK (.int 1)))))) (tNo (tV (cM m__law_just (aC (cA mkTup (aC (cA fList (aC (b2 fIx (gVar 5) (cK (.int 0))) aN)) (aC (cA fList (aC (b2 fIx (gVar 5) (cK (.int 1))) aN)) aN))) (aC (cA mkTup (aC (cA fSortB (aC (b2 fIx (gVar 5) (cK (.int 0))) aN)) (aC (cA fSortB (aC (b2 fIx (gVar 5) (cK (.int 1))) aN)) aN))) aN))))))) [.dat (tl told), .dat tok, .dat (.tuple ((leastL told).map ti)), .dat (ti (mostA told)), .own (told.map prL), .dat (.tuple [ti (gHits told), ti (gAp told)]), .no] = ret false := by
    have j := (cM2 (m := m__law_just) ((cA2 ((cA1 q0).trans (ti_list _)) ((cA1 q1).trans (ti_list _))).trans (mk _ _)) ((cA2 ((cA1 q0).trans o1) ((cA1 q1).trans o2)).trans (mk _ _))).trans (just_rows t)
    rw [x_tOr, x_tOr, x_tNo, x_tNo, x_tNo, tV_of (b := true) (by rw [x_cI, q0, bnd_ret]; exact it _), tV_of (b := true) (by rw [x_cI, q1, bnd_ret]; exact it _), tV_of j]
    rfl
  rw [seq_to (ρ' := [.dat (tl told), .dat tok, .dat (.tuple ((leastL told).map ti)), .dat (ti (mostA told)), .own (told.map prL), .dat (.tuple [ti (gHits told), ti (gAp told)]), .no]) (by rw [if_of c8]; rfl)]
  have c9 : tPk 4 lr9 [.dat (tl told), .dat tok, .dat (.tuple ((leastL told).map ti)), .dat (ti (mostA told)), .own (told.map prL), .dat (.tuple [ti (gHits told), ti (gAp told)]), .no] = ret false := by
    refine x_tPk (ds := told.map prL) rfl ?_
    have v : viewR 4 (told.map prL) [.dat (tl told), .dat tok, .dat (.tuple ((leastL told).map ti)), .dat (ti (mostA told)), .own (told.map prL), .dat (.tuple [ti (gHits told), ti (gAp told)]), .no] = [.dat (tl told), .no, .dat (.tuple ((leastL told).map ti)), .dat (ti (mostA told)), .dat (.list (told.map prL)), .dat (.tuple [ti (gHits told), ti (gAp told)]), .no] := by
      simp only [viewR, List.set_cons_succ, List.set_cons_zero, List.map_cons, List.map_nil, unT_no, unT_tok, unT_dat (show isTok (tl told) = false from rfl), unT_dat (show isTok (ti (mostA told)) = false from rfl), unT_dat (tok_list _), unT_dat (tok_tuple _)]
    rw [v]
    have sd := (said_tt ok (by omega) (fl_ints (gHits told)) (fl_ints (gAp told)) (by simp; omega) (by simp; omega)).1
    have a1 := (cM2 (m := m__law_said) (g := gVar 0) (g2 := gVar 5) (ρ := [.dat (tl told), .no, .dat (.tuple ((leastL told).map ti)), .dat (ti (mostA told)), .dat (.list (told.map prL)), .dat (.tuple [ti (gHits told), ti (gAp told)]), .no]) (d := tl told) (d2 := .tuple [ti (gHits told), ti (gAp told)]) (by simp) (by simp)).trans sd
    have a2 := (cM2 (m := m__law_just) (g := gVar 4) (ρ := [.dat (tl told), .no, .dat (.tuple ((leastL told).map ti)), .dat (ti (mostA told)), .dat (.list (told.map prL)), .dat (.tuple [ti (gHits told), ti (gAp told)]), .no]) (d := .list (told.map prL)) (by simp) (handed (by omega))).trans (just_handed t)
    unfold lr9
    rw [x_tOr, x_tNo, x_tNo, tV_of a1, tV_of a2]
    rfl
  rw [seq_to (ρ' := [.dat (tl told), .dat tok, .dat (.tuple ((leastL told).map ti)), .dat (ti (mostA told)), .own (told.map prL), .dat (.tuple [ti (gHits told), ti (gAp told)]), .no]) (by rw [if_of c9]; rfl)]
  rw [seq_to (x_app (ds := told.map prL) (d := .list [.int 0, .int 0]) rfl (by simp [mkL]) rfl (by simp; omega))]
  simp only [List.set_cons_succ, List.set_cons_zero]
  rw [x_ret, (cM2 ((cM1 (gVar0 (tl told) _)).trans (hit_number (src_tl (by omega)) ok (by omega))) ((cA1 (d := ti (mostA told)) (by simp)).trans lm')).trans jn, bndS_ret]
  exact EndsS.ok ⟨_, rfl, rfl⟩
end L2.AR.T
set_option Elab.async false
set_option linter.all false
set_option maxRecDepth 100000
set_option maxHeartbeats 4000000
namespace L2.AR.T
open PySem PySem.Spec PyProof.Rows
/-! ### what is heard -/
abbrev hdT : MS := (sIf (tV (b2 fEq (gVar 0) (cK (.int 0))))
 (sSet 3 (cA mkTup (aC (cK (.str "told")) (aC (cM m_hit_number (aC (gVar 1) aN)) aN))))
 (sIf (tV (b2 fEq (gVar 0) (cK (.int 1))))
 (sSet 3 (cA mkTup (aC (cK (.str "told")) (aC (cM m_fewest_hits (aC (gVar 1) aN)) aN))))
 (sIf (tV (b2 fEq (gVar 0) (cK (.int 2))))
 (sSet 3 (cA mkTup (aC (cK (.str "told")) (aC (cM m_least_hits (aC (gVar 1) aN)) aN))))
 (sSet 3 (cA mkTup (aC (cK (.str "told")) (aC (cM m_shows_hits (aC (gVar 1) (aC (gVar 2) aN))) aN)))))))
abbrev hR (w : Int) (x : D) : Rho := [.dat (.int w), .dat x, .dat .none, .dat (.tuple [.str "nothing", .none]), .no]
theorem td_fail {g : Rho → M D} {ρ : Rho} {c : Nat} {d : D} (e : g ρ = fail c d) : sSet 3 (cA mkTup (aC (cK (.str "told")) (aC g aN))) ρ = errS c d ρ := by
  refine set_err ?_
  rw [x_cA, x_aC, x_cK, bnd_ret, x_aC, e]
  rfl
theorem td_ok {g : Rho → M D} {ρ : Rho} {d : D} (e : g ρ = ret d) (t : isTok d = false) : sSet 3 (cA mkTup (aC (cK (.str "told")) (aC g aN))) ρ = okS .nx (ρ.set 3 (.dat (.tuple [.str "told", d]))) := by
  refine set_to ?_
  rw [cA2 (x_cK _ _) e, mkT, if_pos ⟨by simp [t], by simp⟩]
theorem wh_test (w k : Int) (x : D) : (tV (b2 fEq (gVar 0) (cK (.int k)))) (hR w x) = ret (w == k) := tV_of ((b2_of (gVar0 _ _) (x_cK _ _)).trans (o_eqI w k))
theorem hd_0 (x : D) : hdT (hR 0 x) = sSet 3 (cA mkTup (aC (cK (.str "told")) (aC (cM m_hit_number (aC (gVar 1) aN)) aN))) (hR 0 x) := by
  unfold hdT
  rw [if_of (wh_test 0 0 x)]
  rfl
theorem hd_1 (x : D) : hdT (hR 1 x) = sSet 3 (cA mkTup (aC (cK (.str "told")) (aC (cM m_fewest_hits (aC (gVar 1) aN)) aN))) (hR 1 x) := by
  unfold hdT
  rw [if_of (wh_test 1 0 x)]
  rw [show ((1 : Int) == 0) = false from rfl, if_neg (by simp), if_of (wh_test 1 1 x)]
  rfl
theorem hd_2 (x : D) : hdT (hR 2 x) = sSet 3 (cA mkTup (aC (cK (.str "told")) (aC (cM m_least_hits (aC (gVar 1) aN)) aN))) (hR 2 x) := by
  unfold hdT
  rw [if_of (wh_test 2 0 x), show ((2 : Int) == 0) = false from rfl, if_neg (by simp), if_of (wh_test 2 1 x), show ((2 : Int) == 1) = false from rfl, if_neg (by simp), if_of (wh_test 2 2 x)]
  rfl
theorem hd_3 (x : D) : hdT (hR 3 x) = sSet 3 (cA mkTup (aC (cK (.str "told")) (aC (cM m_shows_hits (aC (gVar 1) (aC (gVar 2) aN))) aN))) (hR 3 x) := by
  unfold hdT
  rw [if_of (wh_test 3 0 x), show ((3 : Int) == 0) = false from rfl, if_neg (by simp), if_of (wh_test 3 1 x), show ((3 : Int) == 1) = false from rfl, if_neg (by simp), if_of (wh_test 3 2 x), show ((3 : Int) == 2) = false from rfl, if_neg (by simp)]
theorem heard_start (w : Int) (x : D) (t : MS) : endB (sSeq (sSet 3 (cA mkTup (aC (cK (.str "nothing")) (aC (cK .none) aN)))) t [.dat (.int w), .dat x, .dat .none, .no, .no]) = endB (t (hR w x)) := by
  rw [seq_to (ρ' := hR w x) (by simp [mkT])]
theorem heard_lot {w : Int} {x d : D} (t : isTok d = false) (hb : hdT (hR w x) = errS 0 d (hR w x)) : m__law_heard [.int w, x, .none] = ret (.tuple [.str "lot", d]) := by
  unfold hdT at hb
  rw [is__law_heard, s__law_heard, heard_start, x_seq, x_try, hb]
  simp [isX, mkT, t]
theorem heard_many {w : Int} {x d : D} (t : isTok d = false) (hb : hdT (hR w x) = errS 1 d (hR w x)) : m__law_heard [.int w, x, .none] = ret (.tuple [.str "many", d]) := by
  unfold hdT at hb
  rw [is__law_heard, s__law_heard, heard_start, x_seq, x_try, hb]
  simp [isX, mkT, t]
theorem heard_told {w : Int} {x v : D} (hb : hdT (hR w x) = okS .nx ((hR w x).set 3 (.dat v))) : m__law_heard [.int w, x, .none] = ret v := by
  unfold hdT at hb
  rw [is__law_heard, s__law_heard, heard_start, x_seq, x_try, hb]
  simp
section
variable {x : D} {i : Int} (h : m_told_stretches [x] = fail 0 (.int i))
include h
theorem hit_fail : m_hit_number [x] = fail 0 (.int i) := by
  rw [is_hit_number, s_hit_number, seq_err (set_err ((cM1 (gVar0 x _)).trans h))]
  rfl
theorem few_fail : m_fewest_hits [x] = fail 0 (.int i) := by
  rw [is_fewest_hits, s_fewest_hits, seq_err (set_err ((cM1 (gVar0 x _)).trans h))]
  rfl
theorem least_fail : m_least_hits [x] = fail 0 (.int i) := by
  rw [is_least_hits, s_least_hits, seq_err (set_err ((cM1 (gVar0 x _)).trans h))]
  rfl
theorem shows_fail : m_shows_hits [x, .none] = fail 0 (.int i) := by
  rw [is_shows_hits, s_shows_hits, seq_err (set_err ((cM1 (gVar0 x _)).trans h))]
  rfl
theorem heard_bad {w : Int} (w0 : 0 ≤ w) (w1 : w < 4) : m__law_heard [.int w, x, .none] = ret (.tuple [.str "lot", .int i]) := by
  have : w = 0 ∨ w = 1 ∨ w = 2 ∨ w = 3 := by omega
  rcases this with rfl | rfl | rfl | rfl
  · exact heard_lot rfl ((hd_0 x).trans (td_fail ((cM1 (d := x) (by simp)).trans (hit_fail h))))
  · exact heard_lot rfl ((hd_1 x).trans (td_fail ((cM1 (d := x) (by simp)).trans (few_fail h))))
  · exact heard_lot rfl ((hd_2 x).trans (td_fail ((cM1 (d := x) (by simp)).trans (least_fail h))))
  · exact heard_lot rfl ((hd_3 x).trans (td_fail ((cM2 (d := x) (d2 := .none) (by simp) (by simp)).trans (shows_fail h))))
end
/-! ### what is refused -/
def bads : List D := [.none, .int 5, .tuple [.int 3, .int 2], .tuple [.int 0], .tuple [.int 0, .int 1, .int 2], .tuple [.bool true, .int 1], .tuple [.int 0, .none], .str "01", .tuple [.str "0", .str "1"], .list [.int 1, .int 0]]
theorem tp_int (i : Int) : m_told_plainly [.int i] = ret (.int i) := by
  have po : okP 12 (.int i) = true := by simp [okP]
  have pi : plainD (.int i) = .int i := by simp [plainD]
  rw [m_told_plainly, m_plain po, pi]
theorem bad_of {W : D} (h : (gIsi ["tuple"] W = ret (.bool false)) ∨ ∃ ds, W = .tuple ds ∧ (ds.length ≠ 2 ∨ ∃ a b, ds = [a, b] ∧ ndD a = true ∧ ndD b = true ∧ ((isI a && isI b) = false ∨ ∃ f l : Int, a = .int f ∧ b = .int l ∧ l < f))) : BadS W := by
  intro x0 ds i x3 e
  refine ⟨[x0, .dat (.tuple ds), .dat (.int i), .dat W], ?_⟩
  have ix := o_ixT e
  have tp := tp_int i
  have start : tsB [x0, .dat (.tuple ds), .dat (.int i), x3] = _ := seq_to (set_to (b2_of (x := .tuple ds) (y := .int i) (by simp) (by simp) |>.trans ix))
  rw [start]
  simp only [List.set_cons_succ, List.set_cons_zero]
  rcases h with h | ⟨es, rfl, h⟩
  · simp [h, tp]
  · rcases h with h | ⟨a, b, rfl, na, nb, h⟩
    · have n : ((es.length : Int) == 2) = false := by
        rw [beq_eq_false_iff_ne]
        omega
      simp [o_neI, n, tp]
    · have ia := isi na
      have ib := isi nb
      have i0 : op2 fIx (.tuple [a, b]) (.int 0) = ret a := rfl
      have i1 : op2 fIx (.tuple [a, b]) (.int 1) = ret b := rfl
      rcases h with h | ⟨f, l, rfl, rfl, lt⟩
      · cases w1 : isI a
        · rw [w1] at ia
          simp [o_neI, i0, i1, ia, tp]
        · cases w2 : isI b
          · rw [w1] at ia
            rw [w2] at ib
            simp [o_neI, i0, i1, ia, ib, tp]
          · rw [w1, w2] at h
            cases h
      · simp [o_neI, i0, i1, ia, ib, tp, isI, lt]
theorem bads_bad : ∀ w ∈ bads, BadS (plainD w) ∧ okP 11 w = true ∧ isTok w = false := by
  intro w m
  simp only [bads, List.mem_cons, List.not_mem_nil, or_false] at m
  rcases m with rfl | rfl | rfl | rfl | rfl | rfl | rfl | rfl | rfl | rfl
  · exact ⟨bad_of (.inl (by simp [plainD])), by simp [okP], rfl⟩
  · exact ⟨bad_of (.inl (by simp [plainD])), by simp [okP], rfl⟩
  · exact ⟨bad_of (.inr ⟨_, by rw [plain_tup], .inr ⟨.int 3, .int 2, by simp [plainD], rfl, rfl, .inr ⟨3, 2, rfl, rfl, by decide⟩⟩⟩), by simp [okP], rfl⟩
  · exact ⟨bad_of (.inr ⟨_, by rw [plain_tup], .inl (by simp)⟩), by simp [okP], rfl⟩
  · exact ⟨bad_of (.inr ⟨_, by rw [plain_tup], .inl (by simp)⟩), by simp [okP], rfl⟩
  · exact ⟨bad_of (.inr ⟨_, by rw [plain_tup], .inr ⟨.bool true, .int 1, by simp [plainD], rfl, rfl, .inl rfl⟩⟩), by simp [okP], rfl⟩
  · exact ⟨bad_of (.inr ⟨_, by rw [plain_tup], .inr ⟨.int 0, .none, by simp [plainD], rfl, rfl, .inl rfl⟩⟩), by simp [okP], rfl⟩
  · exact ⟨bad_of (.inl (by simp [plainD])), by simp [okP], rfl⟩
  · exact ⟨bad_of (.inr ⟨_, by rw [plain_tup], .inr ⟨.str "0", .str "1", by simp [plainD], rfl, rfl, .inl rfl⟩⟩), by simp [okP], rfl⟩
  · exact ⟨bad_of (.inr ⟨_, by rw [plain_lst], .inr ⟨.int 1, .int 0, by simp [plainD], rfl, rfl, .inr ⟨1, 0, rfl, rfl, by decide⟩⟩⟩), by simp [okP], rfl⟩
theorem jS_lot : jS "lot" = true := by decide +kernel
theorem just_lot {i : Int} (s : i.natAbs < 2 ^ 200) : m__law_just [.tuple [.str "lot", .int i], .tuple [.str "lot", .int i]] = ret (.bool true) := by
  refine just_self (n := 1) (j_tup fun d m => ?_) (by decide) (by simp [sz, szA])
  simp at m
  rcases m with rfl | rfl
  · simp [J, jS_lot]
  · exact j_int s
abbrev rfW : MS := (sIf (tNo (tV (cM m__law_just (aC (cM m__law_heard (aC (gVar 7) (aC (gVar 6) (aC (cK .none) aN)))) (aC (cA mkTup (aC (cK (.str "lot")) (aC (gVar 2) aN))) aN)))))
 (sRet (cK (.bool false)))
 sSkip)
theorem mk_lot (i : Int) : opA mkTup [.str "lot", .int i] = ret (.tuple [.str "lot", .int i]) := rfl
theorem rf_w {x : D} {i : Int} (h : m_told_stretches [x] = fail 0 (.int i)) (si : i.natAbs < 2 ^ 200) {x0 x1 x3 x4 x5 x8 : Sl} : ∀ (n : Nat) (s : Int) (x7 : Sl), 0 ≤ s → s + n = 4 → ∃ y7, loopL (tgN 7) rfW (upTo s n) [x0, x1, .dat (.int i), x3, x4, x5, .dat x, x7, x8] = okS .nx [x0, x1, .dat (.int i), x3, x4, x5, .dat x, y7, x8]
  | 0, s, x7, _, _ => ⟨x7, rfl⟩
  | n + 1, s, x7, s0, se => by
    obtain ⟨y7, e⟩ := rf_w h si (x0 := x0) (x1 := x1) (x3 := x3) (x4 := x4) (x5 := x5) (x8 := x8) n (s + 1) (.dat (.int s)) (by omega) (by push_cast at se; omega)
    refine ⟨y7, ?_⟩
    have c : cM m__law_just (aC (cM m__law_heard (aC (gVar 7) (aC (gVar 6) (aC (cK .none) aN)))) (aC (cA mkTup (aC (cK (.str "lot")) (aC (gVar 2) aN))) aN)) [x0, x1, .dat (.int i), x3, x4, x5, .dat x, .dat (.int s), x8] = ret (.bool true) :=
      (cM2 ((cM3 (d := .int s) (d2 := x) (by simp) (by simp) (x_cK _ _)).trans (heard_bad h s0 (by push_cast at se; omega))) ((cA2 (x_cK _ _) (d2 := .int i) (by simp)).trans (mk_lot i))).trans (just_lot si)
    rw [upTo_succ, x_loopN]
    simp only [List.set_cons_succ, List.set_cons_zero]
    have turn : rfW [x0, x1, .dat (.int i), x3, x4, x5, .dat x, .dat (.int s), x8] = okS .nx [x0, x1, .dat (.int i), x3, x4, x5, .dat x, .dat (.int s), x8] := by
      unfold rfW
      rw [if_of (b := false) (by rw [x_tNo, tV_of c]; rfl)]
      rfl
    rw [turn, turnS_nx]
    exact e
end L2.AR.T
set_option Elab.async false
set_option linter.all false
set_option maxRecDepth 100000
set_option maxHeartbeats 4000000
namespace L2.AR.T
open PySem PySem.Spec PyProof.Rows
def lotD (told : List Pt) (k : Nat) (w : D) : D := .list ((told.take k).map pr ++ [w] ++ (told.drop k).map pr ++ [.none])
theorem lot_bad {told : List Pt} (ok : OkP told) (l : told.length ≤ 100) {k : Nat} (hk : k ≤ told.length) {w : D} (b : BadS (plainD w)) (ow : okP 11 w = true) : m_told_stretches [lotD told k w] = fail 0 (.int (k : Int)) := by
  have lk : (told.take k).length = k := by simp; omega
  have e := told_bad (told := told.take k) (x := lotD told k w) (w := plainD w) (rest := (told.drop k).map pr ++ [.none]) (by
    unfold lotD
    refine ok_lst (fun d m => ?_) (by simp; omega)
    simp only [List.mem_append, List.mem_map, List.mem_singleton] at m
    rcases m with ((⟨p, _, rfl⟩ | rfl) | ⟨p, _, rfl⟩) | rfl
    · exact ok_pr p
    · exact ow
    · exact ok_pr p
    · simp [okP]) (by
    unfold lotD
    rw [plain_lst, List.map_append, List.map_append, List.map_append, map_pl, map_pl]
    simp [plainD]) (fun p m => ok p (List.mem_of_mem_take m)) (by simp; omega) b
  rw [lk] at e
  exact e
theorem tl_to {told : List Pt} {k : Nat} (h : k ≤ told.length) : sliceD (tl told) none (some (k : Int)) = ret (.list ((told.take k).map pr)) := by
  show ret (PyData.list (cutD (told.map pr) none (some (k : Int)))) = _
  rw [cut_to _ _ (by simpa using h), ← List.map_take]
theorem tl_from {told : List Pt} {k : Nat} (h : k ≤ told.length) : sliceD (tl told) (some (k : Int)) none = ret (.list ((told.drop k).map pr)) := by
  show ret (PyData.list (cutD (told.map pr) (some (k : Int)) none)) = _
  rw [cut_from _ _ (by simpa using h), ← List.map_drop]
abbrev rfB : MS := (sSeq (sSet 6 (b2 fAdd (b2 fAdd (b2 fAdd (sl (gVar 0) oNo (oSo (gVar 2))) (cA mkLst (aC (gVar 3) aN))) (sl (gVar 0) (oSo (gVar 2)) oNo)) (cA mkLst (aC (cK .none) aN))))
 (sForR (aC (cK (.int 4)) aN) (tgN 7) rfW))
theorem rf_loop {told : List Pt} (ok : OkP told) (l : told.length ≤ 100) {k : Nat} (hk : k ≤ told.length) {x1 x4 x5 x8 : Sl} : ∀ (ws : List D) (x3 x6 x7 : Sl), (∀ w ∈ ws, BadS (plainD w) ∧ okP 11 w = true ∧ isTok w = false) → ∃ y3 y6 y7, loopL (tgN 3) rfB ws [.dat (tl told), x1, .dat (.int (k : Int)), x3, x4, x5, x6, x7, x8] = okS .nx [.dat (tl told), x1, .dat (.int (k : Int)), y3, x4, x5, y6, y7, x8]
  | [], x3, x6, x7, _ => ⟨x3, x6, x7, rfl⟩
  | w :: ws, x3, x6, x7, h => by
    obtain ⟨b, ow, tw⟩ := h w (by simp)
    obtain ⟨z7, e1⟩ := rf_w (lot_bad ok l hk b ow) (by omega) (x0 := .dat (tl told)) (x1 := x1) (x3 := .dat w) (x4 := x4) (x5 := x5) (x8 := x8) 4 0 x7 (by omega) (by omega)
    obtain ⟨y3, y6, y7, e⟩ := rf_loop ok l hk (x1 := x1) (x4 := x4) (x5 := x5) (x8 := x8) ws (.dat w) (.dat (lotD told k w)) z7 (fun z m => h z (by simp [m]))
    refine ⟨y3, y6, y7, ?_⟩
    rw [x_loopN]
    simp only [List.set_cons_succ, List.set_cons_zero]
    have s1 : sl (gVar 0) oNo (oSo (gVar 2)) [.dat (tl told), x1, .dat (.int (k : Int)), .dat w, x4, x5, x6, x7, x8] = ret (.list ((told.take k).map pr)) := by
      simp only [x_sl, gVarS, gVar0, bnd_ret, x_oSo, asI_int, x_oNo]
      exact tl_to hk
    have s2 : sl (gVar 0) (oSo (gVar 2)) oNo [.dat (tl told), x1, .dat (.int (k : Int)), .dat w, x4, x5, x6, x7, x8] = ret (.list ((told.drop k).map pr)) := by
      simp only [x_sl, gVarS, gVar0, bnd_ret, x_oSo, asI_int, x_oNo]
      exact tl_from hk
    have m1 : cA mkLst (aC (gVar 3) aN) [.dat (tl told), x1, .dat (.int (k : Int)), .dat w, x4, x5, x6, x7, x8] = ret (.list [w]) := by
      rw [cA1 (d := w) (by simp), mkL, if_pos ⟨by simp [tw], by simp⟩]
    have m2 : cA mkLst (aC (cK .none) aN) [.dat (tl told), x1, .dat (.int (k : Int)), .dat w, x4, x5, x6, x7, x8] = ret (.list [.none]) := by
      rw [cA1 (x_cK _ _), mkL, if_pos ⟨rfl, by simp⟩]
    have a1 := (b2_of s1 m1).trans ((o_addL _ _).trans (if_pos (by simp; omega)))
    have a2 := (b2_of a1 s2).trans ((o_addL _ _).trans (if_pos (by simp; omega)))
    have a3 := (b2_of a2 m2).trans ((o_addL _ _).trans (if_pos (by simp; omega)))
    have turn : rfB [.dat (tl told), x1, .dat (.int (k : Int)), .dat w, x4, x5, x6, x7, x8] = okS .nx [.dat (tl told), x1, .dat (.int (k : Int)), .dat w, x4, x5, .dat (lotD told k w), z7, x8] := by
      unfold rfB
      rw [seq_to (set_to a3)]
      exact (forN (n := 4) (by simp) (by omega)).trans e1
    rw [turn, turnS_nx]
    exact e
abbrev rfV : MS := (sIf (tNo (tV (cM m__law_just (aC (cM m__law_heard (aC (gVar 7) (aC (gVar 3) (aC (cK .none) aN)))) (aC (cA mkTup (aC (cK (.str "lot")) (aC (vNeg (cK (.int 1))) aN))) aN)))))
 (sRet (cK (.bool false)))
 sSkip)
theorem rf_v {x : D} (h : m_told_stretches [x] = fail 0 (.int (-1))) {x0 x1 x2 x4 x5 x6 x8 : Sl} : ∀ (n : Nat) (s : Int) (x7 : Sl), 0 ≤ s → s + n = 4 → ∃ y7, loopL (tgN 7) rfV (upTo s n) [x0, x1, x2, .dat x, x4, x5, x6, x7, x8] = okS .nx [x0, x1, x2, .dat x, x4, x5, x6, y7, x8]
  | 0, s, x7, _, _ => ⟨x7, rfl⟩
  | n + 1, s, x7, s0, se => by
    obtain ⟨y7, e⟩ := rf_v h (x0 := x0) (x1 := x1) (x2 := x2) (x4 := x4) (x5 := x5) (x6 := x6) (x8 := x8) n (s + 1) (.dat (.int s)) (by omega) (by push_cast at se; omega)
    refine ⟨y7, ?_⟩
    have c : cM m__law_just (aC (cM m__law_heard (aC (gVar 7) (aC (gVar 3) (aC (cK .none) aN)))) (aC (cA mkTup (aC (cK (.str "lot")) (aC (vNeg (cK (.int 1))) aN))) aN)) [x0, x1, x2, .dat x, x4, x5, x6, .dat (.int s), x8] = ret (.bool true) :=
      (cM2 ((cM3 (d := .int s) (d2 := x) (by simp) (by simp) (x_cK _ _)).trans (heard_bad h s0 (by push_cast at se; omega))) ((cA2 (x_cK _ _) (d2 := .int (-1)) (by simp)).trans (mk_lot (-1)))).trans (just_lot (by decide))
    rw [upTo_succ, x_loopN]
    simp only [List.set_cons_succ, List.set_cons_zero]
    have turn : rfV [x0, x1, x2, .dat x, x4, x5, x6, .dat (.int s), x8] = okS .nx [x0, x1, x2, .dat x, x4, x5, x6, .dat (.int s), x8] := by
      unfold rfV
      rw [if_of (b := false) (by rw [x_tNo, tV_of c]; rfl)]
      rfl
    rw [turn, turnS_nx]
    exact e
def nots : List D := [.none, .int 7, .str "ab", .bool true]
theorem nots_bad : ∀ w ∈ nots, m_told_stretches [w] = fail 0 (.int (-1)) := by
  intro w m
  simp only [nots, List.mem_cons, List.not_mem_nil, or_false] at m
  rcases m with rfl | rfl | rfl | rfl <;> exact told_no (by simp [okP]) (by simp [plainD])
theorem rf_nots {x0 x1 x2 x4 x5 x6 x8 : Sl} : ∀ (ws : List D) (x3 x7 : Sl), (∀ w ∈ ws, m_told_stretches [w] = fail 0 (.int (-1))) → ∃ y3 y7, loopL (tgN 3) (sForR (aC (cK (.int 4)) aN) (tgN 7) rfV) ws [x0, x1, x2, x3, x4, x5, x6, x7, x8] = okS .nx [x0, x1, x2, y3, x4, x5, x6, y7, x8]
  | [], x3, x7, _ => ⟨x3, x7, rfl⟩
  | w :: ws, x3, x7, h => by
    obtain ⟨z7, e1⟩ := rf_v (h w (by simp)) (x0 := x0) (x1 := x1) (x2 := x2) (x4 := x4) (x5 := x5) (x6 := x6) (x8 := x8) 4 0 x7 (by omega) (by omega)
    obtain ⟨y3, y7, e⟩ := rf_nots (x0 := x0) (x1 := x1) (x2 := x2) (x4 := x4) (x5 := x5) (x6 := x6) (x8 := x8) ws (.dat w) z7 (fun z m => h z (by simp [m]))
    refine ⟨y3, y7, ?_⟩
    rw [x_loopN]
    simp only [List.set_cons_succ, List.set_cons_zero]
    rw [forN (n := 4) (by simp) (by omega), show loopL (tgN 7) rfV (upTo 0 4) [x0, x1, x2, .dat w, x4, x5, x6, x7, x8] = _ from e1, turnS_nx]
    exact e
/-! ### ten and eleven -/
def tenP : List Pt := (List.range 10).map (fun (k : Nat) => (3 * (k : Int), 3 * (k : Int) + 1)) ++ [(0, 28), (5, 13)]
def elevenP : List Pt := tenP ++ [(50, 60)]
def fullL : List Int := (List.range 10).map fun (k : Nat) => 3 * (k : Int) + 1
theorem ten_ok : OkP tenP := by
  unfold OkP
  decide
theorem eleven_ok : OkP elevenP := by
  unfold OkP
  decide
theorem ten_lasts : lastsL tenP = fullL := by decide +kernel
theorem eleven_lasts : 11 ≤ (lastsL elevenP).length := by decide +kernel
theorem keep_stay {told : List Pt} {f : List Int} : ∀ r : List (List Int), (∀ l ∈ r, hitAll told l = true → l = f) → keep told r [f] = [f]
  | [], _ => rfl
  | l :: r, h => by
    rw [keep]
    have ih := keep_stay r (fun z m => h z (by simp [m]))
    split
    · rename_i c
      have e := h l (by simp) c.1
      have hh : has f f = true := by simp [has]
      rw [e] at c
      have := c.2
      simp [hh] at this
    · exact ih
theorem keep_only {told : List Pt} {f : List Int} (hf : hitAll told f = true) : ∀ r : List (List Int), (∀ l ∈ r, hitAll told l = true → l = f) → f ∈ r → keep told r [] = [f]
  | [], _, m => by cases m
  | l :: r, h, m => by
    rw [keep]
    by_cases c : hitAll told l = true
    · rw [if_pos ⟨c, rfl⟩, h l (by simp) c]
      exact keep_stay r (fun z m => h z (by simp [m]))
    · rw [if_neg fun z => c z.1]
      refine keep_only hf r (fun z m => h z (by simp [m])) ?_
      rcases List.mem_cons.mp m with rfl | m
      · exact absurd hf c
      · exact m
theorem ten_least : leastL tenP = [fullL] := by
  unfold leastL
  rw [ten_lasts]
  have fs : fullL.Pairwise (· < ·) := by decide
  refine keep_only (by decide) _ (fun l m h => ?_) (sLots_mem.mpr (List.Sublist.refl _))
  have s := sLots_mem.mp m
  have ls := fs.sublist s
  refine strictI ls (fs.imp fun {x y} z => by omega) (fs.imp fun {x y} z => by omega) fun x => ⟨fun mx => s.subset mx, fun mx => ?_⟩
  obtain ⟨k, mk, rfl⟩ := List.mem_map.mp mx
  have hk := List.mem_range.mp mk
  obtain ⟨y, my, y1, y2⟩ := hitAll_iff.mp h (3 * (k : Int), 3 * (k : Int) + 1) (List.mem_append_left _ (List.mem_map.mpr ⟨k, mk, rfl⟩))
  obtain ⟨j, mj, ej⟩ := List.mem_map.mp (s.subset my)
  simp only at y1 y2
  have : y = 3 * (k : Int) + 1 := by omega
  rw [← this]
  exact my
theorem eleven_many : (gHits elevenP).length = 11 := by
  have r := (grd_ok eleven_ok).1
  have a := r.least (hs' := fullL ++ [60]) (by decide)
  have b := r.most (as' := idx 10 ++ [12]) (by decide) (apB_iff.mp (by decide))
  have l1 : (fullL ++ [60]).length = 11 := rfl
  have l2 : (idx 10 ++ [12]).length = 11 := rfl
  omega
end L2.AR.T
set_option Elab.async false
set_option linter.all false
set_option maxRecDepth 100000
set_option maxHeartbeats 4000000
namespace L2.AR.T
open PySem PySem.Spec PyProof.Rows
theorem jS_told : jS "told" = true := by decide +kernel
theorem jS_many : jS "many" = true := by decide +kernel
theorem j_str {n : Nat} {x : Str} (h : jS x = true) : J n (.str x) = true := by cases n <;> simp [J, h]
theorem three (k : Nat) : op2 fMul (.int 3) (.int (k : Int)) = ret (.int (3 * (k : Int))) := o_mul (.inl (by decide))
theorem full_comp {ρ : Rho} (i : Nat) (h : ∀ x, gVar i ((wipeR ρ [i]).set i (.dat x)) = ret x) : gCompR [i] (aC (cK (.int 10)) aN) (tgN i) tYs (b2 fAdd (b2 fMul (cK (.int 3)) (gVar i)) (cK (.int 1))) ρ = ret (.list (fullL.map .int)) := by
  rw [compN (n := 10) (by simp) (by omega)]
  unfold fullL
  rw [List.map_map]
  exact comp_of (List.range 10) (fun k _ => (b2_of ((b2_of (x_cK _ _) (h _)).trans (three k)) (x_cK _ _)).trans (o_add _ _)) (fun _ _ => rfl) (by decide)
theorem ten_told : m__law_heard [.int 2, tl tenP, .none] = ret (.tuple [.str "told", .tuple [ti fullL]]) := by
  refine heard_told ((hd_2 _).trans (td_ok ((cM1 (d := tl tenP) (by simp)).trans ((least_hits (src_tl (by decide)) ten_ok (by decide) (by rw [ten_lasts]; decide)).trans ?_)) rfl))
  rw [ten_least]
  rfl
theorem eleven_2 : m__law_heard [.int 2, tt elevenP, .none] = ret (.tuple [.str "many", .int 1024]) :=
  heard_many rfl ((hd_2 _).trans (td_fail ((cM1 (d := tt elevenP) (by simp)).trans (least_many (src_tt (by decide)) eleven_ok (by decide) eleven_lasts))))
theorem eleven_0 : m__law_heard [.int 0, tt elevenP, .none] = ret (.tuple [.str "told", .int 11]) := by
  refine heard_told ((hd_0 _).trans (td_ok ((cM1 (d := tt elevenP) (by simp)).trans ((hit_number (src_tt (by decide)) eleven_ok (by decide)).trans ?_)) rfl))
  rw [eleven_many]
  rfl
theorem just_ten : m__law_just [.tuple [.str "told", .tuple [ti fullL]], .tuple [.str "told", .tuple [ti fullL]]] = ret (.bool true) := by
  refine just_self (n := 3) (j_tup fun d m => ?_) (by decide) (by decide)
  simp at m
  rcases m with rfl | rfl
  · exact j_str jS_told
  · refine j_tup fun d m => ?_
    simp at m
    rw [m]
    exact j_tup (j_ints (by unfold SmI; decide))
theorem just_eleven : m__law_just [.tuple [.tuple [.str "many", .int 1024], .tuple [.str "told", .int 11]], .tuple [.tuple [.str "many", .int 1024], .tuple [.str "told", .int 11]]] = ret (.bool true) := by
  refine just_self (n := 2) (j_tup fun d m => ?_) (by decide) (by simp [sz, szA])
  simp at m
  rcases m with rfl | rfl
  · refine j_tup fun d m => ?_
    simp at m
    rcases m with rfl | rfl
    · exact j_str jS_many
    · exact j_int (by decide)
  · refine j_tup fun d m => ?_
    simp at m
    rcases m with rfl | rfl
    · exact j_str jS_told
    · exact j_int (by decide)
theorem refused {told : List Pt} (t : Tw told) : Ends (m__law_refused [tl told, tok]) fun d => d = .bool true := by
  have ok := t.ok
  have tl8 := t.len
  rw [is__law_refused, s__law_refused]
  refine Ends.endB ?_
  refine seq_ends (Q := fun r => ∃ k : Nat, k ≤ told.length ∧ r = [.dat (tl told), .dat tok, .dat (.int (k : Int)), .no, .no, .no, .no, .no, .no]) ?_ ?_
  · rw [x_set, cM2 (d := tok) (d2 := .int ((told.length : Int) + 1)) (by simp) ((b2_of ((cA1 (gVar0 _ _)).trans (tl_len told)) (x_cK _ _)).trans (o_add _ _))]
    refine EndsS.bnd (draw _ (by omega)) ?_
    rintro _ ⟨r, rfl, r0, r1⟩
    obtain ⟨k, rfl⟩ : ∃ k : Nat, r = k := ⟨r.toNat, by omega⟩
    exact EndsS.ok ⟨rfl, k, by omega, rfl⟩
  rintro _ ⟨k, hk, rfl⟩
  obtain ⟨y3, y6, y7, e1⟩ := rf_loop ok (by omega) hk (x1 := .dat tok) (x4 := .no) (x5 := .no) (x8 := .no) bads .no .no .no bads_bad
  rw [seq_to (ρ' := [.dat (tl told), .dat tok, .dat (.int (k : Int)), y3, .no, .no, y6, y7, .no]) (by
    rw [x_for, show cA mkTup _ _ = ret (.tuple bads) by simp [mkT, mkL, bads], bndS_ret, items_tuple, orStuck_some]
    exact e1)]
  obtain ⟨z3, z7, e2⟩ := rf_nots (x0 := .dat (tl told)) (x1 := .dat tok) (x2 := .dat (.int (k : Int))) (x4 := .no) (x5 := .no) (x6 := y6) (x8 := .no) nots y3 y7 nots_bad
  rw [seq_to (ρ' := [.dat (tl told), .dat tok, .dat (.int (k : Int)), z3, .no, .no, y6, z7, .no]) (by
    rw [x_for, show cA mkTup _ _ = ret (.tuple nots) by simp [mkT, nots], bndS_ret, items_tuple, orStuck_some]
    exact e2)]
  have ten1 : gCompR [8] (aC (cK (.int 10)) aN) (tgN 8) tYs (cA mkTup (aC (b2 fMul (cK (.int 3)) (gVar 8)) (aC (b2 fAdd (b2 fMul (cK (.int 3)) (gVar 8)) (cK (.int 1))) aN))) [.dat (tl told), .dat tok, .dat (.int (k : Int)), z3, .no, .no, y6, z7, .no] = ret (.list (((List.range 10).map (fun (k : Nat) => (3 * (k : Int), 3 * (k : Int) + 1))).map pr)) := by
    rw [compN (n := 10) (by simp) (by omega), List.map_map]
    refine comp_of (List.range 10) (fun j _ => ?_) (fun _ _ => rfl) (by decide)
    have g : gVar 8 ((wipeR [.dat (tl told), .dat tok, .dat (.int (k : Int)), z3, .no, .no, y6, z7, .no] [8]).set 8 (.dat (.int (j : Int)))) = ret (.int (j : Int)) := by simp [wipeR]
    have m3 := (b2_of (x_cK (.int 3) _) g).trans (three j)
    exact (cA2 m3 ((b2_of m3 (x_cK (.int 1) _)).trans (o_add _ _))).trans rfl
  have ten2 : cA mkLst (aC (cA mkTup (aC (cK (.int 0)) (aC (cK (.int 28)) aN))) (aC (cA mkTup (aC (cK (.int 5)) (aC (cK (.int 13)) aN))) aN)) [.dat (tl told), .dat tok, .dat (.int (k : Int)), z3, .no, .no, y6, z7, .no] = ret (.list [pr (0, 28), pr (5, 13)]) := by
    simp [mkT, mkL]
    rfl
  rw [seq_to (ρ' := [.dat (tl told), .dat tok, .dat (.int (k : Int)), z3, .dat (tl tenP), .no, y6, z7, .no]) (set_to ((b2_of ten1 ten2).trans ((o_addL _ _).trans ((if_pos (by simp)).trans (by
    unfold tl tenP
    rw [List.map_append]
    rfl)))))]
  have el2 : cA mkTup (aC (cA mkTup (aC (cK (.int 50)) (aC (cK (.int 60)) aN))) aN) [.dat (tl told), .dat tok, .dat (.int (k : Int)), z3, .dat (tl tenP), .no, y6, z7, .no] = ret (.tuple [pr (50, 60)]) := by
    simp [mkT]
    rfl
  rw [seq_to (ρ' := [.dat (tl told), .dat tok, .dat (.int (k : Int)), z3, .dat (tl tenP), .dat (tt elevenP), y6, z7, .no]) (set_to ((b2_of ((cA1 (d := tl tenP) (by simp)).trans (o_tupL _)) el2).trans ((o_addT _ _).trans ((if_pos (by simp [tenP])).trans (by
    unfold tt elevenP
    rw [List.map_append]
    rfl)))))]
  refine seq_ends (Q := fun r => r = [.dat (tl told), .dat tok, .dat (.int (k : Int)), z3, .dat (tl tenP), .dat (tt elevenP), y6, z7, .no]) ?_ ?_
  · have a1 : cM m__law_heard (aC (cK (.int 2)) (aC (gVar 4) (aC (cK .none) aN))) [.dat (tl told), .dat tok, .dat (.int (k : Int)), z3, .dat (tl tenP), .dat (tt elevenP), y6, z7, .no] = ret (.tuple [.str "told", .tuple [ti fullL]]) := (cM3 (x_cK _ _) (d2 := tl tenP) (by simp) (x_cK _ _)).trans ten_told
    have f := full_comp (ρ := [.dat (tl told), .dat tok, .dat (.int (k : Int)), z3, .dat (tl tenP), .dat (tt elevenP), y6, z7, .no]) 8 (fun x => by simp [wipeR])
    have a2 : cA mkTup (aC (cK (.str "told")) (aC (cA mkTup (aC (cA fTuple (aC (gCompR [8] (aC (cK (.int 10)) aN) (tgN 8) tYs (b2 fAdd (b2 fMul (cK (.int 3)) (gVar 8)) (cK (.int 1)))) aN)) aN)) aN)) [.dat (tl told), .dat tok, .dat (.int (k : Int)), z3, .dat (tl tenP), .dat (tt elevenP), y6, z7, .no] = ret (.tuple [.str "told", .tuple [ti fullL]]) :=
      (cA2 (x_cK _ _) ((cA1 ((cA1 f).trans (o_tupL _))).trans (show opA mkTup [ti fullL] = ret (.tuple [ti fullL]) by rw [mkT, if_pos ⟨by simp [tok_ti], by simp⟩]))).trans (by rw [mkT, if_pos ⟨by simp, by simp⟩])
    have a3 := (cM2 a1 a2).trans just_ten
    rw [x_if, x_tAn, x_tV, x_b2, cM2 (m := m__law_draw) (d := tok) (d2 := .int 4) (by simp) (x_cK _ _), x_tNo, tV_of a3]
    simp only [bndS_bnd, bnd_assoc]
    refine EndsS.bnd (draw 4 (by decide)) ?_
    rintro _ ⟨r, rfl, r0, r1⟩
    rw [x_cK]
    simp only [bnd_ret, o_eqI, asB_bool, bndS_ret]
    cases (r == 3)
    · exact EndsS.ok ⟨rfl, rfl⟩
    · exact EndsS.ok ⟨rfl, rfl⟩
  rintro _ rfl
  have b1 := (cM3 (m := m__law_heard) (x_cK (.int 2) [.dat (tl told), .dat tok, .dat (.int (k : Int)), z3, .dat (tl tenP), .dat (tt elevenP), y6, z7, .no]) (g2 := gVar 5) (d2 := tt elevenP) (by simp) (x_cK .none _)).trans eleven_2
  have b2' := (cM3 (m := m__law_heard) (x_cK (.int 0) [.dat (tl told), .dat tok, .dat (.int (k : Int)), z3, .dat (tl tenP), .dat (tt elevenP), y6, z7, .no]) (g2 := gVar 5) (d2 := tt elevenP) (by simp) (x_cK .none _)).trans eleven_0
  have due : cA mkTup (aC (cA mkTup (aC (cK (.str "many")) (aC (cK (.int 1024)) aN))) (aC (cA mkTup (aC (cK (.str "told")) (aC (cK (.int 11)) aN))) aN)) [.dat (tl told), .dat tok, .dat (.int (k : Int)), z3, .dat (tl tenP), .dat (tt elevenP), y6, z7, .no] = ret (.tuple [.tuple [.str "many", .int 1024], .tuple [.str "told", .int 11]]) := by simp [mkT]
  rw [x_ret, (cM2 ((cA2 b1 b2').trans (by rw [mkT, if_pos ⟨by simp, by simp⟩])) due).trans just_eleven, bndS_ret]
  exact EndsS.ok ⟨_, rfl, rfl⟩
end L2.AR.T
set_option Elab.async false
set_option linter.all false
set_option maxRecDepth 100000
set_option maxHeartbeats 4000000
namespace L2.AR.T
open PySem PySem.Spec PyProof.Rows
theorem pick_draw {r : Rho} {g : Rho → M D} {ds : List D} {n : Int} (e : g (.dat tok :: r) = ret (.tuple ds)) (hn : (ds.length : Int) = n) (n0 : 0 < n) : Ends (b2 fIx g (cM m__law_draw (aC (gVar 0) (aC (cK (.int n)) aN))) (.dat tok :: r)) fun d => d ∈ ds := by
  rw [x_b2, e, bnd_ret, cM2 (gVar0 _ _) (x_cK _ _)]
  refine Ends.bnd (draw n n0) ?_
  rintro _ ⟨k, rfl, k0, k1⟩
  obtain ⟨j, rfl⟩ : ∃ j : Nat, k = j := ⟨k.toNat, by omega⟩
  have lj : j < ds.length := by omega
  rw [o_ixT (atI_nat (List.getElem?_eq_getElem lj))]
  exact Ends.ret (List.getElem_mem lj)
theorem sm64 {i : Int} (h : i.natAbs < 2 ^ 60) : small64 i = true := by
  unfold small64
  simp
  omega
structure Bd (told : List Pt) : Prop where
  ok : OkP told
  sm : ∀ p ∈ told, p.1.natAbs < 10 ^ 32 ∧ p.2.natAbs < 10 ^ 32
abbrev drF : Rho → M D := (b2 fAdd (gVar 2) (b2 fMul (gVar 3) (b2 fMod (cA fInt (aC (b2 fAdd (cM m__law_draw (aC (gVar 0) (aC (cK (.int 9)) aN))) (b2 fMul (cK (.int 2)) (gVar 5))) aN)) (cK (.int 9)))))
abbrev drL : Rho → M D := (b2 fAdd (gVar 6) (b2 fIx (cA mkTup (aC (cK (.int 2)) (aC (cK (.int 0)) (aC (cK (.int 1)) (aC (cK (.int 5)) (aC (cK (.int 9)) (aC (cK (.int 3)) aN))))))) (cM m__law_draw (aC (gVar 0) (aC (cK (.int 6)) aN)))))
abbrev drB : MS := (sSeq (sSet 6 drF)
 (sSeq (sSet 7 drL)
 (sSeq (sIf (tAn (tV (b2 fEq (cM m__law_draw (aC (gVar 0) (aC (cK (.int 5)) aN))) (cK (.int 4)))) (tV (b2 fGt (gVar 5) (cK (.int 0)))))
 (sAsg (gPk 4 (b2 fIx (gVar 4) (b2 fSub (gVar 5) (cK (.int 1))))) (tgT [(tgN 6), (tgN 7)]))
 sSkip)
 (sApp 4 (cA mkTup (aC (gVar 6) (aC (gVar 7) aN)))))))
section
variable {b st : Int} (hb : b.natAbs ≤ 10 ^ 31) (hst : st = 1 ∨ st = 2 ∨ st = 3)
include hb hst
theorem dr_f {x1 x4 x6 x7 : Sl} {s : Nat} (hs : s ≤ 7) : Ends (drF [.dat tok, x1, .dat (.int b), .dat (.int st), x4, .dat (.int (s : Int)), x6, x7]) fun d => ∃ v : Int, d = .int v ∧ v.natAbs ≤ 10 ^ 31 + 30 := by
  have s2 : small64 st = true := sm64 (by rcases hst with rfl | rfl | rfl <;> decide)
  have e1 : ∀ z : Int, op2 fMul (.int st) (.int z) = ret (.int (st * z)) := fun z => o_mul (.inl s2)
  have e2 : ∀ z : Int, op2 fMul (.int 2) (.int z) = ret (.int (2 * z)) := fun z => o_mul (.inl (by decide))
  have e3 : ∀ z : Int, op2 fMod (.int z) (.int 9) = ret (.int (z % 9)) := fun z => o_mod (by decide)
  unfold drF
  simp only [x_b2, gVarS, gVar0, bnd_ret, x_cA, x_aC, x_aN, x_cM, x_cK, bnd_assoc]
  refine Ends.bnd (draw 9 (by decide)) ?_
  rintro _ ⟨r, rfl, r0, r1⟩
  simp only [e2, bnd_ret, o_add, o_int, e3, e1]
  refine Ends.ret ⟨_, rfl, ?_⟩
  have m0 := Int.emod_nonneg (r + 2 * (s : Int)) (show (9 : Int) ≠ 0 by decide)
  have m1 := Int.emod_lt_of_pos (r + 2 * (s : Int)) (show (0 : Int) < 9 by decide)
  rcases hst with rfl | rfl | rfl <;> omega
theorem dr_turn {told : List Pt} (t : Bd told) (l : told.length ≤ 6) {x1 x6 x7 : Sl} : EndsS (drB [.dat tok, x1, .dat (.int b), .dat (.int st), .own (told.map pr), .dat (.int (told.length : Int)), x6, x7]) fun f r => f = .nx ∧ ∃ (p : Pt) (y6 y7 : Sl), r = [.dat tok, x1, .dat (.int b), .dat (.int st), .own ((told ++ [p]).map pr), .dat (.int (told.length : Int)), y6, y7] ∧ p.1 ≤ p.2 ∧ p.1.natAbs < 10 ^ 32 ∧ p.2.natAbs < 10 ^ 32 := by
  unfold drB
  refine seq_ends (Q := fun r => ∃ v : Int, v.natAbs ≤ 10 ^ 31 + 30 ∧ r = [.dat tok, x1, .dat (.int b), .dat (.int st), .own (told.map pr), .dat (.int (told.length : Int)), .dat (.int v), x7]) ?_ ?_
  · rw [x_set]
    refine EndsS.bnd (dr_f hb hst (by omega)) ?_
    rintro _ ⟨v, rfl, hv⟩
    exact EndsS.ok ⟨rfl, v, hv, rfl⟩
  rintro _ ⟨v, hv, rfl⟩
  refine seq_ends (Q := fun r => ∃ u : Int, v ≤ u ∧ u ≤ v + 9 ∧ r = [.dat tok, x1, .dat (.int b), .dat (.int st), .own (told.map pr), .dat (.int (told.length : Int)), .dat (.int v), .dat (.int u)]) ?_ ?_
  · unfold drL
    rw [x_set, x_b2]
    simp only [gVarS, gVar0, bnd_ret, bndS_bnd]
    refine EndsS.bnd (pick_draw (ds := [.int 2, .int 0, .int 1, .int 5, .int 9, .int 3]) (n := 6) (by simp [mkT]) rfl (by decide)) ?_
    intro d m
    have : ∃ w : Int, d = .int w ∧ 0 ≤ w ∧ w ≤ 9 := by
      simp only [List.mem_cons, List.not_mem_nil, or_false] at m
      rcases m with rfl | rfl | rfl | rfl | rfl | rfl <;> exact ⟨_, rfl, by decide, by decide⟩
    obtain ⟨w, rfl, w0, w1⟩ := this
    simp only [o_add, bndS_ret]
    exact EndsS.ok ⟨rfl, v + w, by omega, by omega, rfl⟩
  rintro _ ⟨u, u0, u1, rfl⟩
  refine seq_ends (Q := fun r => ∃ p : Pt, p.1 ≤ p.2 ∧ p.1.natAbs < 10 ^ 32 ∧ p.2.natAbs < 10 ^ 32 ∧ r = [.dat tok, x1, .dat (.int b), .dat (.int st), .own (told.map pr), .dat (.int (told.length : Int)), .dat (.int p.1), .dat (.int p.2)]) ?_ ?_
  · have g5 : (tV (b2 fGt (gVar 5) (cK (.int 0)))) [.dat tok, x1, .dat (.int b), .dat (.int st), .own (told.map pr), .dat (.int (told.length : Int)), .dat (.int v), .dat (.int u)] = ret (decide (0 < (told.length : Int))) := tV_of ((b2_of (x := .int (told.length : Int)) (by simp) (x_cK _ _)).trans (o_gt _ _))
    rw [x_if, x_tAn, x_tV, x_b2, cM2 (m := m__law_draw) (d := tok) (d2 := .int 5) (by simp) (x_cK _ _), x_cK, g5]
    simp only [bndS_bnd, bnd_assoc]
    refine EndsS.bnd (draw 5 (by decide)) ?_
    rintro _ ⟨r, rfl, r0, r1⟩
    simp only [bnd_ret, o_eqI, asB_bool, bndS_ret]
    have keep : EndsS (sSkip [.dat tok, x1, .dat (.int b), .dat (.int st), .own (told.map pr), .dat (.int (told.length : Int)), .dat (.int v), .dat (.int u)]) fun f r => f = .nx ∧ ∃ p : Pt, p.1 ≤ p.2 ∧ p.1.natAbs < 10 ^ 32 ∧ p.2.natAbs < 10 ^ 32 ∧ r = [.dat tok, x1, .dat (.int b), .dat (.int st), .own (told.map pr), .dat (.int (told.length : Int)), .dat (.int p.1), .dat (.int p.2)] :=
      EndsS.ok ⟨rfl, (v, u), u0, by simp only; omega, by simp only; omega, rfl⟩
    cases (r == 4)
    · exact keep
    · rw [if_pos rfl, bndS_ret]
      by_cases c : 0 < (told.length : Int)
      · rw [decide_eq_true c, if_pos rfl]
        have pk : gPk 4 (b2 fIx (gVar 4) (b2 fSub (gVar 5) (cK (.int 1)))) [.dat tok, x1, .dat (.int b), .dat (.int st), .own (told.map pr), .dat (.int (told.length : Int)), .dat (.int v), .dat (.int u)] = ret (pr (tat told ((told.length : Int) - 1))) := by
          refine x_gPk (ds := told.map pr) rfl ?_ rfl
          have vw : viewR 4 (told.map pr) [.dat tok, x1, .dat (.int b), .dat (.int st), .own (told.map pr), .dat (.int (told.length : Int)), .dat (.int v), .dat (.int u)] = [.no, unT x1, .dat (.int b), .dat (.int st), .dat (.list (told.map pr)), .dat (.int (told.length : Int)), .dat (.int v), .dat (.int u)] := by
            simp only [viewR, List.set_cons_succ, List.set_cons_zero, List.map_cons, List.map_nil, unT_tok, unT_dat (tok_int _), unT_dat (tok_list _)]
          rw [vw]
          exact (b2_of (x := tl told) (by simp [tl]) ((b2_of (x := .int (told.length : Int)) (by simp) (x_cK _ _)).trans (o_sub _ _))).trans (tl_ix (by omega) (by omega))
        rw [x_asg, pk, bndS_ret]
        have mem := tat_mem (told := told) (i := (told.length : Int) - 1) (by omega) (by omega)
        exact EndsS.ok ⟨rfl, tat told ((told.length : Int) - 1), t.ok _ mem, (t.sm _ mem).1, (t.sm _ mem).2, rfl⟩
      · rw [decide_eq_false c]
        exact keep
  rintro _ ⟨p, p0, p1, p2, rfl⟩
  rw [x_app (ds := told.map pr) (d := pr p) rfl (by simp [mkT]; rfl) rfl (by simp; omega)]
  refine EndsS.ok ⟨rfl, p, .dat (.int p.1), .dat (.int p.2), ?_, p0, p1, p2⟩
  simp
theorem dr_loop {x1 : Sl} : ∀ (n : Nat) (told : List Pt) (x5 x6 x7 : Sl), Bd told → told.length + n ≤ 7 → EndsS (loopL (tgN 5) drB (upTo (told.length : Int) n) [.dat tok, x1, .dat (.int b), .dat (.int st), .own (told.map pr), x5, x6, x7]) fun f r => f = .nx ∧ ∃ (told' : List Pt) (y5 y6 y7 : Sl), r = [.dat tok, x1, .dat (.int b), .dat (.int st), .own (told'.map pr), y5, y6, y7] ∧ Bd told' ∧ told'.length ≤ 7
  | 0, told, x5, x6, x7, t, l => EndsS.ok ⟨rfl, told, x5, x6, x7, rfl, t, by omega⟩
  | n + 1, told, x5, x6, x7, t, l => by
    rw [upTo_succ, x_loopN]
    simp only [List.set_cons_succ, List.set_cons_zero]
    refine EndsS.turn (dr_turn hb hst t (by omega)) ?_
    rintro _ ⟨p, y6, y7, rfl, p0, p1, p2⟩
    have e : (told.length : Int) + 1 = ((told ++ [p]).length : Nat) := by simp
    rw [e]
    refine dr_loop n (told ++ [p]) _ _ _ ⟨fun q m => ?_, fun q m => ?_⟩ (by simp; omega)
    · rcases List.mem_append.mp m with m | m
      · exact t.ok q m
      · simp at m
        rw [m]
        exact p0
    · rcases List.mem_append.mp m with m | m
      · exact t.sm q m
      · simp at m
        rw [m]
        exact ⟨p1, p2⟩
end
theorem drawn : Ends (m__law_drawn [tok]) fun d => ∃ told, d = tl told ∧ Tw told := by
  rw [is__law_drawn, s__law_drawn]
  refine Ends.endB ?_
  refine seq_ends (Q := fun r => ∃ n : Nat, n ≤ 7 ∧ r = [.dat tok, .dat (.int (n : Int)), .no, .no, .no, .no, .no, .no]) ?_ ?_
  · rw [x_set]
    refine EndsS.bnd (pick_draw (ds := [.int 3, .int 5, .int 7, .int 0, .int 1, .int 2, .int 6, .int 4]) (n := 8) (by simp [mkT]) rfl (by decide)) ?_
    intro d m
    have : ∃ n : Nat, d = .int (n : Int) ∧ n ≤ 7 := by
      simp only [List.mem_cons, List.not_mem_nil, or_false] at m
      rcases m with rfl | rfl | rfl | rfl | rfl | rfl | rfl | rfl
      · exact ⟨3, rfl, by decide⟩
      · exact ⟨5, rfl, by decide⟩
      · exact ⟨7, rfl, by decide⟩
      · exact ⟨0, rfl, by decide⟩
      · exact ⟨1, rfl, by decide⟩
      · exact ⟨2, rfl, by decide⟩
      · exact ⟨6, rfl, by decide⟩
      · exact ⟨4, rfl, by decide⟩
    obtain ⟨n, rfl, hn⟩ := this
    exact EndsS.ok ⟨rfl, n, hn, rfl⟩
  rintro _ ⟨n, hn, rfl⟩
  refine seq_ends (Q := fun r => ∃ b : Int, b.natAbs ≤ 10 ^ 31 ∧ r = [.dat tok, .dat (.int (n : Int)), .dat (.int b), .no, .no, .no, .no, .no]) ?_ ?_
  · have p1 : op2 fPow (.int 10) (.int 12) = ret (.int (10 ^ 12)) := rfl
    have p2 : op2 fPow (.int 10) (.int 30) = ret (.int (10 ^ 30)) := rfl
    rw [x_set]
    refine EndsS.bnd (pick_draw (ds := [.int 0, .int (-5), .int (10 ^ 12), .int (-10 ^ 30 + 100)]) (n := 4) (by simp [mkT, p1, p2]) rfl (by decide)) ?_
    intro d m
    have : ∃ b : Int, d = .int b ∧ b.natAbs ≤ 10 ^ 31 := by
      simp only [List.mem_cons, List.not_mem_nil, or_false] at m
      rcases m with rfl | rfl | rfl | rfl <;> exact ⟨_, rfl, by decide⟩
    obtain ⟨b, rfl, hb⟩ := this
    exact EndsS.ok ⟨rfl, b, hb, rfl⟩
  rintro _ ⟨b, hb, rfl⟩
  refine seq_ends (Q := fun r => ∃ st : Int, (st = 1 ∨ st = 2 ∨ st = 3) ∧ r = [.dat tok, .dat (.int (n : Int)), .dat (.int b), .dat (.int st), .no, .no, .no, .no]) ?_ ?_
  · rw [x_set]
    refine EndsS.bnd (pick_draw (ds := [.int 2, .int 1, .int 3]) (n := 3) (by simp [mkT]) rfl (by decide)) ?_
    intro d m
    have : ∃ st : Int, d = .int st ∧ (st = 1 ∨ st = 2 ∨ st = 3) := by
      simp only [List.mem_cons, List.not_mem_nil, or_false] at m
      rcases m with rfl | rfl | rfl
      · exact ⟨2, rfl, by decide⟩
      · exact ⟨1, rfl, by decide⟩
      · exact ⟨3, rfl, by decide⟩
    obtain ⟨st, rfl, hst⟩ := this
    exact EndsS.ok ⟨rfl, st, hst, rfl⟩
  rintro _ ⟨st, hst, rfl⟩
  rw [seq_to (ρ' := [.dat tok, .dat (.int (n : Int)), .dat (.int b), .dat (.int st), .own (([] : List Pt).map pr), .no, .no, .no]) (x_new 4 _)]
  refine seq_ends (Q := fun r => ∃ (told : List Pt) (y5 y6 y7 : Sl), r = [.dat tok, .dat (.int (n : Int)), .dat (.int b), .dat (.int st), .own (told.map pr), y5, y6, y7] ∧ Bd told ∧ told.length ≤ 7) ?_ ?_
  · rw [forN (n := n) (by simp) (by omega)]
    exact dr_loop hb hst n [] _ _ _ ⟨(fun p m => by cases m), (fun p m => by cases m)⟩ (by simpa using hn)
  rintro _ ⟨told, y5, y6, y7, rfl, bd, lt⟩
  rw [seq_to (x_frz_own rfl), x_ret, show gVar 4 _ = ret (tl told) by simp [tl], bndS_ret]
  exact EndsS.ok ⟨_, rfl, told, rfl, bd.ok, by omega, fun p m => ⟨Nat.lt_trans (bd.sm p m).1 (by decide), Nat.lt_trans (bd.sm p m).2 (by decide)⟩⟩
end L2.AR.T
set_option Elab.async false
set_option linter.all false
set_option maxRecDepth 100000
set_option maxHeartbeats 4000000
namespace L2.AR.T
open PySem PySem.Spec PyProof.Rows
/-! ### far -/
def farA (n : Nat) (s : Int) : List Pt := (List.range n).map fun (k : Nat) => (s * (k : Int), s * (k : Int) + 2)
def farB (n : Nat) (s : Int) : List Pt := (List.range n).map fun (k : Nat) => (s * (k : Int) + 1, s * (k : Int) + 3)
def farP (n : Nat) (s : Int) : List Pt := farA n s ++ farB n s
theorem far_ok (n : Nat) (s : Int) : OkP (farP n s) := by
  intro p m
  rcases List.mem_append.mp m with m | m
  · obtain ⟨k, _, rfl⟩ := List.mem_map.mp m
    simp only
    omega
  · obtain ⟨k, _, rfl⟩ := List.mem_map.mp m
    simp only
    omega
theorem far_len (n : Nat) (s : Int) : (farP n s).length = n + n := by simp [farP, farA, farB]
theorem far_n {told : List Pt} {n : Nat} {s : Int} (hs : 3 ≤ s) (ok : OkP told) (mem : ∀ p, p ∈ told ↔ p ∈ farP n s) : (gHits told).length = n := by
  have r := (grd_ok ok).1
  have a := r.least (hs' := (List.range n).map fun (k : Nat) => s * (k : Int) + 2) (hitAll_iff.mpr fun p m => by
    rcases List.mem_append.mp ((mem p).mp m) with m | m
    · obtain ⟨k, mk, rfl⟩ := List.mem_map.mp m
      exact ⟨s * (k : Int) + 2, List.mem_map.mpr ⟨k, mk, rfl⟩, by simp only; omega, by simp only; omega⟩
    · obtain ⟨k, mk, rfl⟩ := List.mem_map.mp m
      exact ⟨s * (k : Int) + 2, List.mem_map.mpr ⟨k, mk, rfl⟩, by simp only; omega, by simp only; omega⟩)
  have d := dual (hs := gHits told) (ps := farA n s) (fun p m => List.all_eq_true.mp r.hit p ((mem p).mpr (List.mem_append_left _ m))) (by
    unfold farA
    rw [List.pairwise_map]
    refine List.pairwise_lt_range.imp fun {j k} h => .inl ?_
    have : s * ((j : Int) + 1) ≤ s * (k : Int) := Int.mul_le_mul_of_nonneg_left (by omega) (by omega)
    rw [Int.mul_add] at this
    simp only
    omega)
  have l1 : (farA n s).length = n := by simp [farA]
  rw [List.length_map, List.length_range] at a
  omega
theorem just_3 {n : Nat} (h : n ≤ 1000) : m__law_just [.tuple [.int (n : Int), .int (n : Int), .int (n : Int)], .tuple [.int (n : Int), .int (n : Int), .int (n : Int)]] = ret (.bool true) := by
  refine just_self (n := 1) (j_tup fun d m => ?_) (by decide) (by simp [sz, szA])
  simp at m
  rw [m]
  exact j_int (by omega)
theorem far_right : Ends (m__law_far [tok]) fun d => d = .bool true := by
  rw [is__law_far, s__law_far]
  refine Ends.endB ?_
  refine seq_ends (Q := fun r => ∃ (n : Nat) (s : Int), n ≤ 100 ∧ 3 ≤ s ∧ r = [.dat tok, .no, .no, .dat (.int (n : Int)), .dat (.int s), .no]) ?_ ?_
  · rw [x_asg, x_cA, x_aC, x_b2, x_cK, bnd_ret, cM2 (m := m__law_draw) (gVar0 _ _) (x_cK _ _), x_aC, x_aN]
    simp only [bndS_bnd, bnd_assoc]
    refine EndsS.bnd (draw 30 (by decide)) ?_
    rintro _ ⟨r, rfl, r0, r1⟩
    simp only [o_add, bnd_ret, bndS_ret, bndS_bnd]
    have p20 : op2 fPow (.int 10) (.int 20) = ret (.int (10 ^ 20)) := rfl
    refine EndsS.bnd (pick_draw (ds := [.int 3, .int 4, .int (10 ^ 20)]) (n := 3) (by simp [mkT, p20]) rfl (by decide)) ?_
    intro d m
    have : ∃ s : Int, d = .int s ∧ 3 ≤ s := by
      simp only [List.mem_cons, List.not_mem_nil, or_false] at m
      rcases m with rfl | rfl | rfl <;> exact ⟨_, rfl, by decide⟩
    obtain ⟨s, rfl, hs⟩ := this
    rw [mkT, if_pos ⟨rfl, by simp⟩, bndS_ret]
    obtain ⟨n, hn⟩ : ∃ n : Nat, 20 + r = n := ⟨(20 + r).toNat, by omega⟩
    rw [hn]
    exact EndsS.ok ⟨rfl, n, s, by omega, hs, rfl⟩
  rintro _ ⟨n, s, hn, hs, rfl⟩
  have lf := far_len n s
  have mul : ∀ k : Nat, k < n → op2 fMul (.int s) (.int (k : Int)) = ret (.int (s * (k : Int))) := fun k h => o_mul (.inr (sm64 (by omega)))
  have g4 : ∀ k : Nat, gVar 4 ((wipeR [.dat tok, .no, .no, .dat (.int (n : Int)), .dat (.int s), .no] [5]).set 5 (.dat (.int (k : Int)))) = ret (.int s) := fun k => by simp [wipeR]
  have g5 : ∀ k : Nat, gVar 5 ((wipeR [.dat tok, .no, .no, .dat (.int (n : Int)), .dat (.int s), .no] [5]).set 5 (.dat (.int (k : Int)))) = ret (.int (k : Int)) := fun k => by simp [wipeR]
  have mk2 : ∀ a b : Int, opA mkTup [.int a, .int b] = ret (pr (a, b)) := fun a b => rfl
  have c1 : gCompR [5] (aC (gVar 3) aN) (tgN 5) tYs (cA mkTup (aC (b2 fMul (gVar 4) (gVar 5)) (aC (b2 fAdd (b2 fMul (gVar 4) (gVar 5)) (cK (.int 2))) aN))) [.dat tok, .no, .no, .dat (.int (n : Int)), .dat (.int s), .no] = ret (.list ((farA n s).map pr)) := by
    rw [compN (n := n) (by simp) (by omega)]
    unfold farA
    rw [List.map_map]
    refine comp_of (List.range n) (fun k m => ?_) (fun _ _ => rfl) (by simp; omega)
    have e := (b2_of (g4 k) (g5 k)).trans (mul k (List.mem_range.mp m))
    exact (cA2 e ((b2_of e (x_cK (.int 2) _)).trans (o_add _ _))).trans (mk2 _ _)
  have c2 : gCompR [5] (aC (gVar 3) aN) (tgN 5) tYs (cA mkTup (aC (b2 fAdd (b2 fMul (gVar 4) (gVar 5)) (cK (.int 1))) (aC (b2 fAdd (b2 fMul (gVar 4) (gVar 5)) (cK (.int 3))) aN))) [.dat tok, .no, .no, .dat (.int (n : Int)), .dat (.int s), .no] = ret (.list ((farB n s).map pr)) := by
    rw [compN (n := n) (by simp) (by omega)]
    unfold farB
    rw [List.map_map]
    refine comp_of (List.range n) (fun k m => ?_) (fun _ _ => rfl) (by simp; omega)
    have e := (b2_of (g4 k) (g5 k)).trans (mul k (List.mem_range.mp m))
    exact (cA2 ((b2_of e (x_cK (.int 1) _)).trans (o_add _ _)) ((b2_of e (x_cK (.int 3) _)).trans (o_add _ _))).trans (mk2 _ _)
  rw [seq_to (ρ' := [.dat tok, .dat (tl (farP n s)), .no, .dat (.int (n : Int)), .dat (.int s), .no]) (set_to ((b2_of c1 c2).trans ((o_addL _ _).trans ((if_pos (by simp [farA, farB]; omega)).trans (by
    unfold tl farP
    rw [List.map_append])))))]
  have ok := far_ok n s
  have okr : OkP (farP n s).reverse := fun p m => ok p (List.mem_reverse.mp m)
  have lr : (farP n s).reverse.length = n + n := by rw [List.length_reverse, lf]
  have bk : ∀ x2 : Sl, gBack (gVar 1) [.dat tok, .dat (tl (farP n s)), x2, .dat (.int (n : Int)), .dat (.int s), .no] = ret (tl (farP n s).reverse) := fun x2 => by
    rw [x_gBack]
    simp [tl]
  rw [seq_to (set_to ((cM1 (bk _)).trans (fewest_hits (src_tl (by omega)) okr (by omega))))]
  simp only [List.set_cons_succ, List.set_cons_zero]
  have n1 := far_n hs ok fun p => Iff.rfl
  have n2 := far_n hs okr (n := n) (s := s) fun p => List.mem_reverse
  have r2 := (grd_ok okr).1
  have n3 := r2.len
  have p0 : op2 fIx (.tuple [ti (gHits (farP n s).reverse), ti (gAp (farP n s).reverse)]) (.int 0) = ret (ti (gHits (farP n s).reverse)) := o_ixT rfl
  have p1 : op2 fIx (.tuple [ti (gHits (farP n s).reverse), ti (gAp (farP n s).reverse)]) (.int 1) = ret (ti (gAp (farP n s).reverse)) := o_ixT rfl
  have pg : gVar 2 [.dat tok, .dat (tl (farP n s)), .dat (.tuple [ti (gHits (farP n s).reverse), ti (gAp (farP n s).reverse)]), .dat (.int (n : Int)), .dat (.int s), .no] = ret (.tuple [ti (gHits (farP n s).reverse), ti (gAp (farP n s).reverse)]) := by simp
  have l0 := (cA1 ((b2_of pg (x_cK (.int 0) _)).trans p0)).trans (ti_len _)
  have l1 := (cA1 ((b2_of pg (x_cK (.int 1) _)).trans p1)).trans (ti_len _)
  rw [n2] at l0
  rw [← n3, n2] at l1
  have h1 := (cM1 (m := m_hit_number) (g := gVar 1) (ρ := [.dat tok, .dat (tl (farP n s)), .dat (.tuple [ti (gHits (farP n s).reverse), ti (gAp (farP n s).reverse)]), .dat (.int (n : Int)), .dat (.int s), .no]) (d := tl (farP n s)) (by simp)).trans (hit_number (src_tl (by omega)) ok (by omega))
  rw [n1] at h1
  have mk3 : opA mkTup [.int (n : Int), .int (n : Int), .int (n : Int)] = ret (.tuple [.int (n : Int), .int (n : Int), .int (n : Int)]) := rfl
  have t1 : cA mkTup (aC (cM m_hit_number (aC (gVar 1) aN)) (aC (cA fLen (aC (b2 fIx (gVar 2) (cK (.int 0))) aN)) (aC (cA fLen (aC (b2 fIx (gVar 2) (cK (.int 1))) aN)) aN))) [.dat tok, .dat (tl (farP n s)), .dat (.tuple [ti (gHits (farP n s).reverse), ti (gAp (farP n s).reverse)]), .dat (.int (n : Int)), .dat (.int s), .no] = ret (.tuple [.int (n : Int), .int (n : Int), .int (n : Int)]) := by
    rw [x_cA, x_aC, h1, bnd_ret, x_aC, l0, bnd_ret, x_aC, l1, bnd_ret, x_aN, bnd_ret, bnd_ret, bnd_ret, bnd_ret]
    exact mk3
  have t2 : cA mkTup (aC (gVar 3) (aC (gVar 3) (aC (gVar 3) aN))) [.dat tok, .dat (tl (farP n s)), .dat (.tuple [ti (gHits (farP n s).reverse), ti (gAp (farP n s).reverse)]), .dat (.int (n : Int)), .dat (.int s), .no] = ret (.tuple [.int (n : Int), .int (n : Int), .int (n : Int)]) := by simp [mk3]
  have j := (cM2 t1 t2).trans (just_3 (by omega))
  have rt : m__law_is_right [tl (farP n s).reverse, .tuple [ti (gHits (farP n s).reverse), ti (gAp (farP n s).reverse)]] = ret (.bool true) :=
    (right_true (told := (farP n s).reverse) (hs := gHits (farP n s).reverse) (as := gAp (farP n s).reverse) (paper := .tuple [ti (gHits (farP n s).reverse), ti (gAp (farP n s).reverse)]) (H := ti (gHits (farP n s).reverse)) (A := ti (gAp (farP n s).reverse)) (.inl rfl) (.inl rfl) (.inl rfl) (by omega) (by omega) (by omega)).trans (congrArg (fun b => ret (PyData.bool b)) (rightB_iff.mpr r2))
  have w := (cM2 (bk _) pg).trans rt
  rw [x_ret, x_vAn, j, bnd_ret, asB_bool, bnd_ret, if_pos rfl, w, bndS_ret]
  exact EndsS.ok ⟨_, rfl, rfl⟩
/-! ### no stretches -/
theorem nil_ok : OkP [] := fun p m => by cases m
theorem nil_hits : gHits [] = [] := by
  have := grd_len []
  have e : grd [] = [] := List.eq_nil_of_length_eq_zero (by simpa using this)
  unfold gHits
  rw [e]
  rfl
theorem nil_ap : gAp [] = [] := by
  have := (grd_ok nil_ok).1.len
  rw [nil_hits] at this
  exact List.eq_nil_of_length_eq_zero this.symm
theorem nil_least : leastL [] = [[]] := by
  have e : lastsL [] = [] := rfl
  have s : sLots [] = [[]] := by
    unfold sLots lotsL
    simp
  unfold leastL
  rw [e, s]
  rfl
theorem sh_empty {x : D} (s : Src [] x) (hs as : List Int) (l1 : hs.length ≤ 10) (l2 : as.length ≤ 10) : m_shows_hits [x, .tuple [ti hs, ti as]] = ret (.bool (rightB [] hs as)) :=
  shows_true s nil_ok (by simp) (ok_tup (fun d m => by
    simp at m
    rcases m with rfl | rfl
    · exact ok_ti (by omega)
    · exact ok_ti (by omega)) (by simp)) (by
    rw [plain_tup, List.map_cons, List.map_cons, List.map_nil]
    have p : ∀ xs : List Int, plainD (ti xs) = ti xs := fun xs => by
      unfold ti tupD
      rw [plain_tup, fl_map (fl_ints xs)]
    rw [p, p]) (by omega) (by omega)
def emptyD : D := .tuple [.int 0, .tuple [.tuple [], .tuple []], .tuple [.tuple []], .bool true, .bool false, .bool false]
theorem law_true (row : List Int) (_ : GoodRow row) : ∃ ρ h, s_law [.no, .dat tok, .no, .no] ⟨row, 0⟩ = .ok (.rt (.bool true)) ρ h := by
  have key : EndsS (s_law [.no, .dat tok, .no, .no]) fun f _ => f = .rt (.bool true) := by
    rw [s_law]
    refine seq_ends (Q := fun r => ∃ told, Tw told ∧ r = [.no, .dat tok, .dat (tl told), .no]) ?_ ?_
    · rw [x_set, cM1 (d := tok) (by simp)]
      refine EndsS.bnd drawn ?_
      rintro _ ⟨told, rfl, t⟩
      exact EndsS.ok ⟨rfl, told, t, rfl⟩
    rintro _ ⟨told, t, rfl⟩
    refine seq_ends (Q := fun r => r = [.no, .dat tok, .dat (tl told), .no]) ?_ ?_
    · rw [x_if, x_tOr, x_tOr, x_tNo, x_tNo, x_tNo, x_tV, x_tV, x_tV, cM2 (m := m__law_lots_right) (d := tl told) (d2 := tok) (by simp) (by simp), cM2 (m := m__law_refused) (d := tl told) (d2 := tok) (by simp) (by simp), cM1 (m := m__law_far) (d := tok) (by simp)]
      simp only [bndS_bnd, bnd_assoc]
      refine EndsS.bnd (lots_right t) ?_
      rintro _ rfl
      simp only [asB_bool, bnd_ret, bndS_ret, Bool.not_true, Bool.false_eq_true, if_false, bndS_bnd, bnd_assoc]
      refine EndsS.bnd (refused t) ?_
      rintro _ rfl
      simp only [asB_bool, bnd_ret, bndS_ret, Bool.not_true, Bool.false_eq_true, if_false, bndS_bnd, bnd_assoc]
      refine EndsS.bnd far_right ?_
      rintro _ rfl
      simp only [asB_bool, bnd_ret, bndS_ret, Bool.not_true, Bool.false_eq_true, if_false, x_skip]
      exact EndsS.ok ⟨rfl, rfl⟩
    rintro _ rfl
    have st : Src [] (.tuple []) := src_tt (told := []) (by simp)
    have sl : Src [] (.list []) := src_tl (told := []) (by simp)
    have v1 : m_hit_number [.tuple []] = ret (.int 0) := (hit_number st nil_ok (by simp)).trans (by rw [nil_hits]; rfl)
    have v2 : m_fewest_hits [.list []] = ret (.tuple [.tuple [], .tuple []]) := (fewest_hits sl nil_ok (by simp)).trans (by rw [nil_hits, nil_ap]; rfl)
    have v3 : m_least_hits [.tuple []] = ret (.tuple [.tuple []]) := (least_hits st nil_ok (by simp) (by decide)).trans (by rw [nil_least]; rfl)
    have v4 : m_shows_hits [.tuple [], .tuple [.tuple [], .tuple []]] = ret (.bool true) := sh_empty st [] [] (by simp) (by simp)
    have v5 : m_shows_hits [.list [], .tuple [.tuple [.int 1], .tuple [.int 0]]] = ret (.bool false) := sh_empty sl [1] [0] (by simp) (by simp)
    have v6 : m_shows_hits [.tuple [], .tuple [.tuple [], .tuple [.int 0]]] = ret (.bool false) := sh_empty st [] [0] (by simp) (by simp)
    have mk0 : ∀ ρ, cA mkTup aN ρ = ret (.tuple []) := fun ρ => rfl
    have mkl : ∀ ρ, cA mkLst aN ρ = ret (.list []) := fun ρ => rfl
    have q1 : ∀ ρ (i : Int), cA mkTup (aC (cK (.int i)) aN) ρ = ret (.tuple [.int i]) := fun ρ i => rfl
    have m2 : ∀ a b : List D, opA mkTup [.tuple a, .tuple b] = ret (.tuple [.tuple a, .tuple b]) := fun a b => by rw [mkT, if_pos ⟨rfl, by simp⟩]
    have e1 := fun ρ => (cM1 (m := m_hit_number) (mk0 ρ)).trans v1
    have e2 := fun ρ => (cM1 (m := m_fewest_hits) (mkl ρ)).trans v2
    have e3 := fun ρ => (cM1 (m := m_least_hits) (mk0 ρ)).trans v3
    have e4 := fun ρ => (cM2 (m := m_shows_hits) (mk0 ρ) ((cA2 (mk0 ρ) (mk0 ρ)).trans (m2 _ _))).trans v4
    have e5 := fun ρ => (cM2 (m := m_shows_hits) (mkl ρ) ((cA2 (q1 ρ 1) (q1 ρ 0)).trans (m2 _ _))).trans v5
    have e6 := fun ρ => (cM2 (m := m_shows_hits) (mk0 ρ) ((cA2 (mk0 ρ) (q1 ρ 0)).trans (m2 _ _))).trans v6
    have je : m__law_just [emptyD, emptyD] = ret (.bool true) := by
      have i0 : jI 0 = true := by decide
      exact just_self (n := 3) (by simp [emptyD, J, i0]) (by decide) (by simp [emptyD, sz, szA])
    rw [seq_to (ρ' := [.no, .dat tok, .dat (tl told), .dat emptyD]) (set_to (by
      rw [x_cA, x_aC, e1, bnd_ret, x_aC, e2, bnd_ret, x_aC, e3, bnd_ret, x_aC, e4, bnd_ret, x_aC, e5, bnd_ret, x_aC, e6, bnd_ret, x_aN]
      rfl))]
    have due : cA mkTup (aC (cK (.int 0)) (aC (cA mkTup (aC (cA mkTup aN) (aC (cA mkTup aN) aN))) (aC (cA mkTup (aC (cA mkTup aN) aN)) (aC (cK (.bool true)) (aC (cK (.bool false)) (aC (cK (.bool false)) aN)))))) [.no, .dat tok, .dat (tl told), .dat emptyD] = ret emptyD := rfl
    rw [x_ret, (cM2 (d := emptyD) (by simp) due).trans je, bndS_ret]
    exact EndsS.ok rfl
  obtain ⟨f, ρ, h, e, rfl⟩ := key ⟨row, 0⟩
  exact ⟨ρ, h, e⟩
end L2.AR.T
set_option Elab.async false
set_option maxRecDepth 100000
set_option maxHeartbeats 0
open PySem PySem.W PyProof.Rows
open_top head for PySem.Challenge.rw_asinrealtime_k70_stretches_hit
set_option Elab.async false
set_option linter.all false
set_option maxRecDepth 100000
open PySem PySem.W PyProof.Rows
set_option maxHeartbeats 0 in
theorem PySem.Challenge.cw_asinrealtime_k70_stretches_hit_holds : PySem.Challenge.rw_asinrealtime_k70_stretches_hit.Holds := by
  refine head ?_
  k_fill
  refine L2.AR.walk_ofG (l := PySem.Challenge.rw_asinrealtime_k70_stretches_hit) (n := 63) (k := 20) (x := "script") (CX := fun w => L2.CX PySem.Challenge.rw_asinrealtime_k70_stretches_hit.prog w) (sp := fun w => L2.AR.spLaw _) rfl (by decide) rfl ⟨rfl, by decide, by decide⟩ (fun w h Y => PySem.W.kIn_of Y) ?F (fun _ _ a ns hl _ hS => ⟨a, ns, rfl, hS, hl, fun _ => rfl⟩) (fun _ _ _ _ _ h => by obtain ⟨_, _, _, _, _, _, _, _, _, _, _, _, z⟩ := h; exact z)
  case F =>
    intro w mg fa h KX G hmg
    refine' L2.AR.T.all_mk L2.AR.T.law_true KX G hmg ?a_told_plainly ?F_told_plainly ?a_is_int ?F_is_int ?a_plain_form ?F_plain_form ?a_told_stretches ?F_told_stretches ?a_greedy_hits ?F_greedy_hits ?a_hit_number ?F_hit_number ?a_fewest_hits ?F_fewest_hits ?a_is_hit ?F_is_hit ?a_lots_by_length ?F_lots_by_length ?a_holds_one ?F_holds_one ?a_least_hits ?F_least_hits ?a_are_unlike_integers ?F_are_unlike_integers ?a_shows_hits ?F_shows_hits ?a__law_hand ?F__law_hand ?a__law_draw ?F__law_draw ?a__law_just ?F__law_just ?a__law_drawn ?F__law_drawn ?a__law_is_hit ?F__law_is_hit ?a__law_lots ?F__law_lots ?a__law_least ?F__law_least ?a__law_are_apart ?F__law_are_apart ?a__law_most_apart ?F__law_most_apart ?a__law_whole ?F__law_whole ?a__law_is_right ?F__law_is_right ?a__law_heard ?F__law_heard ?a__law_said ?F__law_said ?a__law_papers_right ?F__law_papers_right ?a__law_lots_right ?F__law_lots_right ?a__law_refused ?F__law_refused ?a__law_far ?F__law_far ?a_law ?F_law ?aC_BadLot ?aC_TooMany ?aC_ClockError ?ox_BadLot ?ic_BadLot ?ti_BadLot ?FI_BadLot ?no_BadLot ?ga_BadLot ?gg_BadLot ?hd_BadLot ?ha_BadLot ?hm_BadLot ?ox_TooMany ?ic_TooMany ?ti_TooMany ?FI_TooMany ?no_TooMany ?ga_TooMany ?gg_TooMany ?hd_TooMany ?ha_TooMany ?hm_TooMany ?hn ?ht ?eC_ClockError ?hd_ClockError ?tC_ClockError ?sub_0_0 ?kit_0_0 ?sub_0_1 ?kit_0_1 ?sub_0_2 ?kit_0_2 ?sub_1_0 ?kit_1_0 ?sub_1_1 ?kit_1_1 ?sub_1_2 ?kit_1_2 ?n_all ?n_any ?n_bool ?n_int ?n_isinstance ?n_len ?n_list ?n_min ?n_range ?n_repr ?n_set ?n_sorted ?n_tuple ?k_LOTS_LIMIT
    (case a_told_plainly => k_is)
    (case F_told_plainly => refine' L2.AR.T.fun_ex ?l ?c ?k; (case l => k_is); (case c => k_is); (case k => k_is))
    (case a_is_int => k_is)
    (case F_is_int => refine' L2.AR.T.fun_ex ?l ?c ?k; (case l => k_is); (case c => k_is); (case k => k_is))
    (case a_plain_form => k_is)
    (case F_plain_form => refine' L2.AR.T.fun_ex ?l ?c ?k; (case l => k_is); (case c => k_is); (case k => k_is))
    (case a_told_stretches => k_is)
    (case F_told_stretches => refine' L2.AR.T.fun_ex ?l ?c ?k; (case l => k_is); (case c => k_is); (case k => k_is))
    (case a_greedy_hits => k_is)
    (case F_greedy_hits => refine' L2.AR.T.fun_ex ?l ?c ?k; (case l => k_is); (case c => k_is); (case k => k_is))
    (case a_hit_number => k_is)
    (case F_hit_number => refine' L2.AR.T.fun_ex ?l ?c ?k; (case l => k_is); (case c => k_is); (case k => k_is))
    (case a_fewest_hits => k_is)
    (case F_fewest_hits => refine' L2.AR.T.fun_ex ?l ?c ?k; (case l => k_is); (case c => k_is); (case k => k_is))
    (case a_is_hit => k_is)
    (case F_is_hit => refine' L2.AR.T.fun_ex ?l ?c ?k; (case l => k_is); (case c => k_is); (case k => k_is))
    (case a_lots_by_length => k_is)
    (case F_lots_by_length => refine' L2.AR.T.fun_ex ?l ?c ?k; (case l => k_is); (case c => k_is); (case k => k_is))
    (case a_holds_one => k_is)
    (case F_holds_one => refine' L2.AR.T.fun_ex ?l ?c ?k; (case l => k_is); (case c => k_is); (case k => k_is))
    (case a_least_hits => k_is)
    (case F_least_hits => refine' L2.AR.T.fun_ex ?l ?c ?k; (case l => k_is); (case c => k_is); (case k => k_is))
    (case a_are_unlike_integers => k_is)
    (case F_are_unlike_integers => refine' L2.AR.T.fun_ex ?l ?c ?k; (case l => k_is); (case c => k_is); (case k => k_is))
    (case a_shows_hits => k_is)
    (case F_shows_hits => refine' L2.AR.T.fun_ex ?l ?c ?k; (case l => k_is); (case c => k_is); (case k => k_is))
    (case a__law_hand => k_is)
    (case F__law_hand => refine' L2.AR.T.fun_ex ?l ?c ?k; (case l => k_is); (case c => k_is); (case k => k_is))
    (case a__law_draw => k_is)
    (case F__law_draw => refine' L2.AR.T.fun_ex ?l ?c ?k; (case l => k_is); (case c => k_is); (case k => k_is))
    (case a__law_just => k_is)
    (case F__law_just => refine' L2.AR.T.fun_ex ?l ?c ?k; (case l => k_is); (case c => k_is); (case k => k_is))
    (case a__law_drawn => k_is)
    (case F__law_drawn => refine' L2.AR.T.fun_ex ?l ?c ?k; (case l => k_is); (case c => k_is); (case k => k_is))
    (case a__law_is_hit => k_is)
    (case F__law_is_hit => refine' L2.AR.T.fun_ex ?l ?c ?k; (case l => k_is); (case c => k_is); (case k => k_is))
    (case a__law_lots => k_is)
    (case F__law_lots => refine' L2.AR.T.fun_ex ?l ?c ?k; (case l => k_is); (case c => k_is); (case k => k_is))
    (case a__law_least => k_is)
    (case F__law_least => refine' L2.AR.T.fun_ex ?l ?c ?k; (case l => k_is); (case c => k_is); (case k => k_is))
    (case a__law_are_apart => k_is)
    (case F__law_are_apart => refine' L2.AR.T.fun_ex ?l ?c ?k; (case l => k_is); (case c => k_is); (case k => k_is))
    (case a__law_most_apart => k_is)
    (case F__law_most_apart => refine' L2.AR.T.fun_ex ?l ?c ?k; (case l => k_is); (case c => k_is); (case k => k_is))
    (case a__law_whole => k_is)
    (case F__law_whole => refine' L2.AR.T.fun_ex ?l ?c ?k; (case l => k_is); (case c => k_is); (case k => k_is))
    (case a__law_is_right => k_is)
    (case F__law_is_right => refine' L2.AR.T.fun_ex ?l ?c ?k; (case l => k_is); (case c => k_is); (case k => k_is))
    (case a__law_heard => k_is)
    (case F__law_heard => refine' L2.AR.T.fun_ex ?l ?c ?k; (case l => k_is); (case c => k_is); (case k => k_is))
    (case a__law_said => k_is)
    (case F__law_said => refine' L2.AR.T.fun_ex ?l ?c ?k; (case l => k_is); (case c => k_is); (case k => k_is))
    (case a__law_papers_right => k_is)
    (case F__law_papers_right => refine' L2.AR.T.fun_ex ?l ?c ?k; (case l => k_is); (case c => k_is); (case k => k_is))
    (case a__law_lots_right => k_is)
    (case F__law_lots_right => refine' L2.AR.T.fun_ex ?l ?c ?k; (case l => k_is); (case c => k_is); (case k => k_is))
    (case a__law_refused => k_is)
    (case F__law_refused => refine' L2.AR.T.fun_ex ?l ?c ?k; (case l => k_is); (case c => k_is); (case k => k_is))
    (case a__law_far => k_is)
    (case F__law_far => refine' L2.AR.T.fun_ex ?l ?c ?k; (case l => k_is); (case c => k_is); (case k => k_is))
    (case a_law => k_is)
    (case F_law => refine' L2.AR.T.fun_ex ?l ?c ?k; (case l => k_is); (case c => k_is); (case k => k_is))
    (case aC_BadLot => k_is)
    (case aC_TooMany => k_is)
    (case aC_ClockError => k_is)
    (case ox_BadLot => refine' L2.AR.T.cls_mk ?xL ?hb ?sa ?eC ?tC ?kC; (case xL => k_is); (case hb => decide +kernel); (case sa => k_is); (case eC => k_is); (case tC => k_is); (case kC => k_is))
    (case ic_BadLot => k_is)
    (case ti_BadLot => k_is)
    (case FI_BadLot => refine' L2.AR.T.fun_ex ?l ?c ?k; (case l => k_is); (case c => k_is); (case k => k_is))
    (case no_BadLot => k_is)
    (case ga_BadLot => k_is)
    (case gg_BadLot => k_is)
    (case hd_BadLot => k_is)
    (case ha_BadLot => k_is)
    (case hm_BadLot => k_is)
    (case ox_TooMany => refine' L2.AR.T.cls_mk ?xL ?hb ?sa ?eC ?tC ?kC; (case xL => k_is); (case hb => decide +kernel); (case sa => k_is); (case eC => k_is); (case tC => k_is); (case kC => k_is))
    (case ic_TooMany => k_is)
    (case ti_TooMany => k_is)
    (case FI_TooMany => refine' L2.AR.T.fun_ex ?l ?c ?k; (case l => k_is); (case c => k_is); (case k => k_is))
    (case no_TooMany => k_is)
    (case ga_TooMany => k_is)
    (case gg_TooMany => k_is)
    (case hd_TooMany => k_is)
    (case ha_TooMany => k_is)
    (case hm_TooMany => k_is)
    (case hn => k_is)
    (case ht => k_is)
    (case eC_ClockError => k_is)
    (case hd_ClockError => k_is)
    (case tC_ClockError => k_is)
    (case sub_0_0 => first | rfl | k_is)
    (case kit_0_0 => first | rfl | k_is)
    (case sub_0_1 => first | rfl | k_is)
    (case kit_0_1 => first | rfl | k_is)
    (case sub_0_2 => first | rfl | k_is)
    (case kit_0_2 => first | rfl | k_is)
    (case sub_1_0 => first | rfl | k_is)
    (case kit_1_0 => first | rfl | k_is)
    (case sub_1_1 => first | rfl | k_is)
    (case kit_1_1 => first | rfl | k_is)
    (case sub_1_2 => first | rfl | k_is)
    (case kit_1_2 => first | rfl | k_is)
    (case n_all => k_is)
    (case n_any => k_is)
    (case n_bool => k_is)
    (case n_int => k_is)
    (case n_isinstance => k_is)
    (case n_len => k_is)
    (case n_list => k_is)
    (case n_min => k_is)
    (case n_range => k_is)
    (case n_repr => k_is)
    (case n_set => k_is)
    (case n_sorted => k_is)
    (case n_tuple => k_is)
    (case k_LOTS_LIMIT => k_is)
