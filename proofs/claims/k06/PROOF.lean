import PyProof.Rows.All
import Wide.All
import OpenK.AllK
import Wide.FinOn
import PySem.Challenge.RW_truerows_k06_whole_lines_read_back
import HandS.ForMost
import HandS.ForExc
import HandS.CallSlots
import HandS.Deep
import HandS.Conv
import HandS.Rev
import HandS.TupMul
import HandS.TupAny
import HandS.TupLe
import HandS.Zip
import HandS.Walk
import HandS.IsInst
import HandS.SortInts
import HandS.Style
import HandS.Defaults
import HandS.SortKw
import HandS.SortOrd
import HandS.Small
import HandS.Flow
import HandS.HeadEnd
import HandS.HeadHook1
import HandS.HeadHook2
import HandS.Head0
import HandS.Head1
import HandS.Head2
import PyProof.TwoTypesSub
import HandS.RevTup
import KE.GoesMore
import HandS.NoneIn
import HandS.ExcOwn
import HandS.SetKeys
import HandS.More
import HandS.TupSets
import KE.KTupSum
import HandS.TryOnly
import HandS.Exc
import HandS.Text
import HandS.StrMore
import HandS.RaiseMore
import PyProof.FactsAll.str_0
import PyProof.FactsAll.str_3
import PyProof.FactsAll.str_5
import PyProof.FactsAll.str_7
import PyProof.ZipIter
import PyProof.Rows.RegReprOcc
set_option Elab.async false
set_option linter.all false
set_option maxRecDepth 100000
set_option maxHeartbeats 4000000
namespace Mn
open PySem PySem.Spec PyProof.Rows L2

/-- an equation that is to be used as a step, not looked through -/
theorem nofl {α : Sort _} {a b : α} (h : a = b) : a = b := h
/-! ### data-level values -/
/-- a value: data, a shared mutable object, (within one frame's expressions) the list that a slot owns, or a locked list (the script) -/
inductive Val where
  | dat (d : PyData)
  | loc (n : Nat)
  | slot (i : Nat)
  | ro (ds : List PyData)
/-- what a slot holds: a value, or a list of data that nobody else knows -/
inductive Sl where
  | v (x : Val)
  | own (ds : List PyData)
abbrev MSt := List (Option Sl)
/-- shared mutable objects -/
inductive Ob where
  | lst (vs : List Val)
  | dct (kvs : List (Key × Val))
  | dctT (kvs : List (List Key × Val))
abbrev MH := List Ob
structure Exn where
  cls : String
  fld : Option PyData
inductive Out (α : Type) where
  | ok (a : α) (M : MH)
  | exc (e : Exn) (M : MH)
  | err
abbrev Ex (α : Type) := MSt → MH → Out α
namespace Out
def bind {α β : Type} : Out α → (α → MH → Out β) → Out β
  | .ok a M, k => k a M
  | .exc e M, _ => .exc e M
  | .err, _ => .err
@[simp] theorem bind_ok {α β : Type} (a : α) (M : MH) (k : α → MH → Out β) : (Out.ok a M).bind k = k a M := nofl rfl
@[simp] theorem bind_exc {α β : Type} (e : Exn) (M : MH) (k : α → MH → Out β) : (Out.exc e M : Out α).bind k = .exc e M := nofl rfl
@[simp] theorem bind_err {α β : Type} (k : α → MH → Out β) : (Out.err : Out α).bind k = .err := nofl rfl
/-- an option's answer -/
def ofOpt {α : Type} (o : Option α) (M : MH) : Out α := match o with
  | some a => .ok a M
  | none => .err
@[simp] theorem ofOpt_some {α : Type} (a : α) (M : MH) : ofOpt (some a) M = .ok a M := nofl rfl
@[simp] theorem ofOpt_none {α : Type} (M : MH) : (ofOpt none M : Out α) = .err := nofl rfl
end Out
def datAll : List Val → Option (List PyData)
  | [] => some []
  | .dat d :: r => (datAll r).map (d :: ·)
  | _ :: _ => none
@[simp] theorem datAll_nil : datAll [] = some [] := nofl rfl
@[simp] theorem datAll_cons (d : PyData) (r : List Val) : datAll (.dat d :: r) = (datAll r).map (d :: ·) := nofl rfl
theorem datAll_map (ds : List PyData) : datAll (ds.map .dat) = some ds := by
  induction ds with
  | nil => rfl
  | cons d r ih => simp [ih]
theorem datAll_some : ∀ {vs : List Val} {ds : List PyData}, datAll vs = some ds → vs = ds.map .dat
  | [], ds, h => by
    have e : [] = ds := Option.some.inj h
    subst e
    rfl
  | .dat d :: r, ds, h => by
    rw [datAll_cons] at h
    cases q : datAll r with
    | none => rw [q] at h; cases h
    | some es =>
      rw [q] at h
      have e : d :: es = ds := Option.some.inj h
      subst e
      rw [datAll_some q]
      rfl
  | .loc _ :: _, _, h => by cases h
  | .slot _ :: _, _, h => by cases h
  | .ro _ :: _, _, h => by cases h
/-- the data that a value is, read where it stands -/
def deref (st : MSt) (M : MH) : Val → Option PyData
  | .dat d => some d
  | .loc n => match M[n]? with
    | some (.lst vs) => (datAll vs).map .list
    | _ => none
  | .slot i => match st[i]? with
    | some (some (.own ds)) => some (.list ds)
    | _ => none
  | .ro ds => some (.list ds)
/-- .. of what is no locked list -/
def derefT (st : MSt) (M : MH) : Val → Option PyData
  | .ro _ => none
  | v => deref st M v
@[simp] theorem derefT_dat (st : MSt) (M : MH) (d : PyData) : derefT st M (.dat d) = some d := nofl rfl
@[simp] theorem deref_dat (st : MSt) (M : MH) (d : PyData) : deref st M (.dat d) = some d := nofl rfl

/-! ### what stands for it in the heap -/
section
variable (K : PySem.W.Frag)
/-- a list that nobody writes any more -/
def LsF (F : Addr → Prop) (H : Hp) (a : Addr) (xs : List V) : Prop := F a ∧ H a = some (.lst xs)
/-- a locked list, or one of the written part -/
def LsZ (H : Hp) (a : Addr) (xs : List V) : Prop := (∃ o, H a = some (.frz o (.lst xs))) ∨ SqL K (fun _ => none) a xs
/-- a tuple that is tracked -/
abbrev TpT (_K : PySem.W.Frag) (H : Hp) (a : Addr) (xs : List V) : Prop := H a = some (.tup xs)
mutual
inductive Rp (F : Addr → Prop) (H : Hp) : V → PyData → Prop
  | non : Rp F H .non .none
  | bl (b : Bool) : Rp F H (.bl b) (.bool b)
  | int (i : Int) : Rp F H (.int i) (.int i)
  | str (x : Str) : Rp F H (.str x) (.str x)
  | lst {a : Addr} {xs : List V} {ds : List PyData} : LsF F H a xs → RpA F H xs ds → Rp F H (.ref a) (.list ds)
  | tup {a : Addr} {xs : List V} {ds : List PyData} : TpT K H a xs → RpA F H xs ds → Rp F H (.ref a) (.tuple ds)
inductive RpA (F : Addr → Prop) (H : Hp) : List V → List PyData → Prop
  | nil : RpA F H [] []
  | cons {v : V} {vs : List V} {d : PyData} {ds : List PyData} : Rp F H v d → RpA F H vs ds → RpA F H (v :: vs) (d :: ds)
end
end
/-- what is data stays: tuples, frozen lists, locked things -/
structure Wk (F F' : Addr → Prop) (H H' : Hp) : Prop where
  f : ∀ a, F a → F' a
  l : ∀ a, F a → H' a = H a
  t : ∀ a xs, H a = some (.tup xs) → H' a = some (.tup xs)
  z : ∀ a o u, H a = some (.frz o u) → H' a = some (.frz o u)
theorem Wk.refl (F : Addr → Prop) (H : Hp) : Wk F F H H := ⟨fun _ h => h, fun _ _ => rfl, fun _ _ h => h, fun _ _ _ h => h⟩
theorem Wk.trans {F F1 F2 : Addr → Prop} {H H1 H2 : Hp} (a : Wk F F1 H H1) (b : Wk F1 F2 H1 H2) : Wk F F2 H H2 :=
  ⟨fun x h => b.f x (a.f x h), fun x h => (b.l x (a.f x h)).trans (a.l x h), fun x xs h => b.t x xs (a.t x xs h), fun x o u h => b.z x o u (a.z x o u h)⟩
section
variable {K : PySem.W.Frag} {F F' : Addr → Prop} {H H' : Hp}
theorem sqL_none {a : Addr} {xs : List V} (h : SqL K (fun _ => none) a xs) : SqL K H a xs := by
  rcases h with (h | ⟨o, h⟩) | h
  · cases h
  · cases h
  · exact .inr h
theorem LsF.wk (w : Wk F F' H H') {a : Addr} {xs : List V} (h : LsF F H a xs) : LsF F' H' a xs := ⟨w.f a h.1, (w.l a h.1).trans h.2⟩
theorem LsZ.wk (w : Wk F F' H H') {a : Addr} {xs : List V} (h : LsZ K H a xs) : LsZ K H' a xs := by
  rcases h with ⟨o, h⟩ | h
  · exact .inl ⟨o, w.z a o _ h⟩
  · exact .inr h
theorem LsZ.sq {a : Addr} {xs : List V} (h : LsZ K H a xs) : SqL K H a xs := by
  rcases h with ⟨o, h⟩ | h
  · exact .inl (.inr ⟨o, h⟩)
  · exact sqL_none h
theorem SqT.wk (w : Wk F F' H H') {a : Addr} {xs : List V} (h : SqT K H a xs) : SqT K H' a xs := by
  rcases h with (h | ⟨o, h⟩) | h
  · exact .inl (.inl (w.t a _ h))
  · exact .inl (.inr ⟨o, w.z a o _ h⟩)
  · exact .inr h
theorem LsF.sq {a : Addr} {xs : List V} (h : LsF F H a xs) : SqL K H a xs := .inl (.inl h.2)
mutual
theorem Rp.wk (w : Wk F F' H H') : ∀ (d : PyData) {x : V}, Rp K F H x d → Rp K F' H' x d
  | .none, _, h => by cases h; exact .non
  | .bool b, _, h => by cases h; exact .bl b
  | .int i, _, h => by cases h; exact .int i
  | .str s, _, h => by cases h; exact .str s
  | .list ds, _, h => by
    cases h with
    | lst h1 h2 => exact .lst (h1.wk w) (RpA.wk w ds h2)
  | .tuple ds, _, h => by
    cases h with
    | tup h1 h2 => exact .tup (w.t _ _ h1) (RpA.wk w ds h2)
  | .dict _, _, h => by cases h
theorem RpA.wk (w : Wk F F' H H') : ∀ (ds : List PyData) {xs : List V}, RpA K F H xs ds → RpA K F' H' xs ds
  | [], _, h => by cases h; exact .nil
  | d :: ds, _, h => by
    cases h with
    | cons h1 h2 => exact .cons (Rp.wk w d h1) (RpA.wk w ds h2)
end
mutual
theorem Rp.dp : ∀ (d : PyData) {x : V}, Rp K F H x d → Dp K H x d
  | .none, _, h => by cases h; exact .non
  | .bool b, _, h => by cases h; exact .bl b
  | .int i, _, h => by cases h; exact .int i
  | .str s, _, h => by cases h; exact .str s
  | .list ds, _, h => by
    cases h with
    | lst h1 h2 => exact .lst h1.sq (RpA.dp ds h2)
  | .tuple ds, _, h => by
    cases h with
    | tup h1 h2 => exact .tup (.inl (.inl h1)) (RpA.dp ds h2)
  | .dict _, _, h => by cases h
theorem RpA.dp : ∀ (ds : List PyData) {xs : List V}, RpA K F H xs ds → DpAll K H xs ds
  | [], _, h => by cases h; exact .nil
  | d :: ds, _, h => by
    cases h with
    | cons h1 h2 => exact .cons (Rp.dp d h1) (RpA.dp ds h2)
end
theorem RpA.length : ∀ {ds : List PyData} {xs : List V}, RpA K F H xs ds → xs.length = ds.length
  | [], _, h => by cases h; rfl
  | d :: ds, _, h => by
    cases h with
    | cons h1 h2 => rw [List.length_cons, List.length_cons, RpA.length h2]
theorem RpA.get : ∀ {ds : List PyData} {xs : List V}, RpA K F H xs ds → ∀ {i : Nat} {d : PyData}, ds[i]? = some d → ∃ x, xs[i]? = some x ∧ Rp K F H x d
  | [], _, h, i, d, e => by simp at e
  | d :: ds, _, h, 0, d', e => by
    cases h with
    | cons h1 h2 =>
      have e' : d = d' := by simpa using e
      subst e'
      exact ⟨_, rfl, h1⟩
  | d :: ds, _, h, i + 1, d', e => by
    cases h with
    | cons h1 h2 =>
      obtain ⟨x, hx, r⟩ := RpA.get h2 (i := i) (d := d') (by simpa using e)
      exact ⟨x, by simpa using hx, r⟩
theorem RpA.get' {ds : List PyData} {xs : List V} (h : RpA K F H xs ds) {i : Nat} {x : V} (e : xs[i]? = some x) : ∃ d, ds[i]? = some d ∧ Rp K F H x d := by
  have hl := h.length
  have hi : i < ds.length := by
    have := (List.getElem?_eq_some_iff.mp e).1
    omega
  obtain ⟨y, hy, r⟩ := h.get (List.getElem?_eq_getElem hi)
  rw [e] at hy
  cases hy
  exact ⟨_, List.getElem?_eq_getElem hi, r⟩
theorem RpA.append : ∀ {ds es : List PyData} {xs ys : List V}, RpA K F H xs ds → RpA K F H ys es → RpA K F H (xs ++ ys) (ds ++ es)
  | [], _, _, _, h, g => by cases h; exact g
  | d :: ds, _, _, _, h, g => by
    cases h with
    | cons h1 h2 => exact .cons h1 (RpA.append h2 g)
theorem RpA.one {x : V} {d : PyData} (h : Rp K F H x d) : RpA K F H [x] [d] := .cons h .nil
theorem RpA.of_get : ∀ {ds : List PyData} {xs : List V}, xs.length = ds.length → (∀ (i : Nat) d x, ds[i]? = some d → xs[i]? = some x → Rp K F H x d) → RpA K F H xs ds
  | [], [], _, _ => .nil
  | d :: ds, x :: xs, hl, h => .cons (h 0 d x rfl rfl) (RpA.of_get (by simpa using hl) fun i d' x' e e' => h (i + 1) d' x' (by simpa using e) (by simpa using e'))
  | [], _ :: _, hl, _ => by simp at hl
  | _ :: _, [], hl, _ => by simp at hl
theorem RpA.take (n : Nat) : ∀ {ds : List PyData} {xs : List V}, RpA K F H xs ds → RpA K F H (xs.take n) (ds.take n) := fun {ds xs} h => by
  refine RpA.of_get (by rw [List.length_take, List.length_take, h.length]) fun i d x e e' => ?_
  rw [List.getElem?_take] at e e'
  by_cases hi : i < n
  · rw [if_pos hi] at e e'
    obtain ⟨y, hy, r⟩ := h.get e
    rw [hy] at e'
    cases e'
    exact r
  · rw [if_neg hi] at e
    cases e
theorem RpA.drop (n : Nat) : ∀ {ds : List PyData} {xs : List V}, RpA K F H xs ds → RpA K F H (xs.drop n) (ds.drop n) := fun {ds xs} h => by
  refine RpA.of_get (by rw [List.length_drop, List.length_drop, h.length]) fun i d x e e' => ?_
  rw [List.getElem?_drop] at e e'
  obtain ⟨y, hy, r⟩ := h.get e
  rw [hy] at e'
  cases e'
  exact r
theorem RpA.reverse {ds : List PyData} {xs : List V} (h : RpA K F H xs ds) : RpA K F H xs.reverse ds.reverse := by
  have hl := h.length
  refine RpA.of_get (by rw [List.length_reverse, List.length_reverse, hl]) fun i d x e e' => ?_
  have hi : i < ds.length := by
    have := (List.getElem?_eq_some_iff.mp e).1
    simpa using this
  rw [List.getElem?_reverse hi] at e
  rw [List.getElem?_reverse (by omega), hl] at e'
  obtain ⟨y, hy, r⟩ := h.get e
  rw [hy] at e'
  cases e'
  exact r
theorem RpA.ints {ns : List Int} : RpA K F H (ns.map V.int) (ns.map PyData.int) := by
  induction ns with
  | nil => exact .nil
  | cons n r ih => exact .cons (.int n) ih
theorem RpA.int_inv : ∀ {ns : List Int} {xs : List V}, RpA K F H xs (ns.map PyData.int) → xs = ns.map V.int
  | [], _, h => by cases h; rfl
  | n :: ns, _, h => by
    cases h with
    | cons h1 h2 =>
      cases h1
      rw [RpA.int_inv h2]
      rfl
theorem RpA.bl_inv : ∀ {ns : List Bool} {xs : List V}, RpA K F H xs (ns.map PyData.bool) → xs = ns.map V.bl
  | [], _, h => by cases h; rfl
  | n :: ns, _, h => by
    cases h with
    | cons h1 h2 =>
      cases h1
      rw [RpA.bl_inv h2]
      rfl
theorem RpA.str_inv : ∀ {ns : List Str} {xs : List V}, RpA K F H xs (ns.map PyData.str) → xs = ns.map V.str
  | [], _, h => by cases h; rfl
  | n :: ns, _, h => by
    cases h with
    | cons h1 h2 =>
      cases h1
      rw [RpA.str_inv h2]
      rfl
end

/-! ### worlds -/
/-- where the shared objects stand; which lists are frozen -/
structure Wd where
  m : Nat → Option Addr
  F : Addr → Prop
/-- keys the same, values related -/
def KvR {κ : Type} (R : V → Val → Prop) (p : κ × V) (q : κ × Val) : Prop := p.1 = q.1 ∧ R p.2 q.2
def OR (R : V → Val → Prop) : HO → Ob → Prop
  | .lst xs, .lst vs => Paired R xs vs
  | .dK kx, .dct kv => Paired (KvR R) kx kv
  | .dT kx, .dctT kv => Paired (KvR R) kx kv
  | _, _ => False
/-- what may change -/
def ObU : HO → Prop
  | .lst _ => True
  | .dK _ => True
  | .dT _ => True
  | _ => False
theorem OR.u {R : V → Val → Prop} {u : HO} {o : Ob} (h : OR R u o) : ObU u := by
  cases u <;> cases o <;> first | trivial | exact h.elim
theorem OR.map {R R' : V → Val → Prop} (f : ∀ x v, R x v → R' x v) {u : HO} {o : Ob} (h : OR R u o) : OR R' u o := by
  cases u <;> cases o <;> first | exact h.elim | exact Paired.mapP (show Paired R _ _ from h) f | exact Paired.mapP (show Paired (KvR R) _ _ from h) fun p q r => ⟨r.1, f _ _ r.2⟩
section
variable (K : PySem.W.Frag)
def VR0 (Y : Wd) (H : Hp) (x : V) : Val → Prop
  | .dat d => Rp K Y.F H x d
  | .loc n => ∃ a, x = .ref a ∧ Y.m n = some a
  | .slot _ => False
  | .ro ds => ∃ a xs, x = .ref a ∧ LsZ K H a xs ∧ RpA K Y.F H xs ds
def VRp (Y : Wd) (H : Hp) (st : MSt) (σ : L2.St) (x : V) : Val → Prop
  | .dat d => Rp K Y.F H x d
  | .loc n => ∃ a, x = .ref a ∧ Y.m n = some a
  | .slot i => ∃ a ds, x = .ref a ∧ σ[i]? = some (some (.ref a)) ∧ st[i]? = some (some (.own ds))
  | .ro ds => ∃ a xs, x = .ref a ∧ LsZ K H a xs ∧ RpA K Y.F H xs ds
def ObR (Y : Wd) (H : Hp) (a : Addr) (o : Ob) : Prop := ∃ u, H a = some u ∧ OR (VR0 K Y H) u o
structure GR (Y : Wd) (M : MH) (H : Hp) : Prop where
  obj : ∀ n o, M[n]? = some o → ∃ a, Y.m n = some a ∧ ObR K Y H a o
  lt : ∀ n a, Y.m n = some a → n < M.length
  inj : ∀ i j a, Y.m i = some a → Y.m j = some a → i = j
  fr : ∀ a, Y.F a → ∃ xs, H a = some (.lst xs)
  dj : ∀ n a, Y.m n = some a → ¬ Y.F a
/-- a list of one's own -/
structure Ow (Y : Wd) (H : Hp) (a : Addr) (ds : List PyData) : Prop where
  at_ : ∃ xs, H a = some (.lst xs) ∧ RpA K Y.F H xs ds
  nF : ¬ Y.F a
  nm : ∀ n, Y.m n ≠ some a
structure FR (Y : Wd) (st : MSt) (H : Hp) (σ : L2.St) : Prop where
  len : st.length = σ.length
  val : ∀ (i : Nat) x, st[i]? = some (some (.v x)) → ∃ u, σ[i]? = some (some u) ∧ VR0 K Y H u x
  own : ∀ (i : Nat) ds, st[i]? = some (some (.own ds)) → ∃ a, σ[i]? = some (some (.ref a)) ∧ Ow K Y H a ds
  inj : ∀ (i j : Nat) ds es a, st[i]? = some (some (.own ds)) → st[j]? = some (some (.own es)) → σ[i]? = some (some (.ref a)) → σ[j]? = some (some (.ref a)) → i = j
/-- the frame's own lists are younger than its entry -/
def OwnFr (H0 : Hp) (st : MSt) (σ : L2.St) : Prop := ∀ (i : Nat) ds a, st[i]? = some (some (.own ds)) → σ[i]? = some (some (.ref a)) → H0 a = none
/-- what a storable result is: a value, or a new list of one's own (younger than H0) -/
def SlR (Y : Wd) (H0 H : Hp) (x : V) : Sl → Prop
  | .v y => VR0 K Y H x y
  | .own ds => ∃ a, x = .ref a ∧ Ow K Y H a ds ∧ H0 a = none
end
/-- what an expression does to the world: it grows; only shared objects change -/
structure Step (Y : Wd) (H : Hp) (Y' : Wd) (H' : Hp) : Prop where
  m : ∀ n a, Y.m n = some a → Y'.m n = some a
  F : ∀ a, Y.F a → Y'.F a
  fm : ∀ n a, Y'.m n = some a → Y.m n = some a ∨ H a = none
  fF : ∀ a, Y'.F a → Y.F a ∨ H a = none
  kp : ∀ a x, H a = some x → (∀ n, Y.m n ≠ some a) → H' a = some x
section
variable {K : PySem.W.Frag} {Y Y' Y'' : Wd} {H H' H'' H0 : Hp} {M M' : MH} {st : MSt} {σ : L2.St}
theorem Step.refl (Y : Wd) (H : Hp) : Step Y H Y H := ⟨fun _ _ h => h, fun _ h => h, fun _ _ h => .inl h, fun _ h => .inl h, fun _ _ h _ => h⟩
theorem none_of_kp {a : Addr} (k : ∀ x, H a = some x → H' a = some x) (h : H' a = none) : H a = none := by
  cases q : H a with
  | none => rfl
  | some x => rw [k x q] at h; cases h
theorem Step.trans (s : Step Y H Y' H') (t : Step Y' H' Y'' H'') (g : ∀ n a, Y.m n = some a → H a ≠ none → True := fun _ _ _ _ => trivial) (hd : ∀ n a, Y.m n = some a → ∃ x, H' a = some x) : Step Y H Y'' H'' where
  m := fun n a h => t.m n a (s.m n a h)
  F := fun a h => t.F a (s.F a h)
  fm := fun n a h => by
    rcases t.fm n a h with h | h
    · exact s.fm n a h
    · refine .inr ?_
      cases q : H a with
      | none => rfl
      | some x =>
        by_cases hn : ∀ k, Y.m k ≠ some a
        · rw [s.kp a x q hn] at h; cases h
        · have : ∃ k, Y.m k = some a := by
            refine Classical.byContradiction fun hc => hn fun k e => hc ⟨k, e⟩
          obtain ⟨k, e⟩ := this
          obtain ⟨y, hy⟩ := hd k a e
          rw [hy] at h; cases h
  fF := fun a h => by
    rcases t.fF a h with h | h
    · exact s.fF a h
    · refine .inr ?_
      cases q : H a with
      | none => rfl
      | some x =>
        by_cases hn : ∀ k, Y.m k ≠ some a
        · rw [s.kp a x q hn] at h; cases h
        · have : ∃ k, Y.m k = some a := by
            refine Classical.byContradiction fun hc => hn fun k e => hc ⟨k, e⟩
          obtain ⟨k, e⟩ := this
          obtain ⟨y, hy⟩ := hd k a e
          rw [hy] at h; cases h
  kp := fun a x h hn => t.kp a x (s.kp a x h hn) fun n e => by
    rcases s.fm n a e with e | e
    · exact hn n e
    · rw [h] at e; cases e
theorem GR.live (g : GR K Y M H) {n : Nat} {a : Addr} (h : Y.m n = some a) : ∃ u, H a = some u ∧ ObU u := by
  have hl := g.lt n a h
  obtain ⟨b, hb, u, hu, q⟩ := g.obj n M[n] (List.getElem?_eq_getElem hl)
  rw [h] at hb
  cases hb
  exact ⟨u, hu, q.u⟩
theorem Step.live (g' : GR K Y' M' H') (s : Step Y H Y' H') {n : Nat} {a : Addr} (h : Y.m n = some a) : ∃ x, H' a = some x := by
  obtain ⟨u, hu, _⟩ := g'.live (s.m n a h)
  exact ⟨_, hu⟩
/-- two steps, the middle held -/
theorem Step.then (s : Step Y H Y' H') (g' : GR K Y' M' H') (t : Step Y' H' Y'' H'') : Step Y H Y'' H'' := s.trans t (hd := fun _ _ h => s.live g' h)
theorem Step.wk (g : GR K Y M H) (s : Step Y H Y' H') : Wk Y.F Y'.F H H' where
  f := s.F
  l := fun a h => by
    obtain ⟨xs, hx⟩ := g.fr a h
    rw [hx]
    exact s.kp a _ hx fun n e => g.dj n a e h
  t := fun a xs h => s.kp a _ h fun n e => by
    obtain ⟨u', hy, hu⟩ := g.live e
    rw [h] at hy
    cases hy
    exact hu
  z := fun a o u h => s.kp a _ h fun n e => by
    obtain ⟨u', hy, hu⟩ := g.live e
    rw [h] at hy
    cases hy
    exact hu
theorem VR0.step (g : GR K Y M H) (s : Step Y H Y' H') {x : V} {v : Val} (h : VR0 K Y H x v) : VR0 K Y' H' x v := by
  cases v with
  | dat d => exact Rp.wk (s.wk g) d h
  | loc n =>
    obtain ⟨a, e, q⟩ := h
    exact ⟨a, e, s.m n a q⟩
  | slot i => exact h
  | ro ds =>
    obtain ⟨a, xs, e, z, r⟩ := h
    exact ⟨a, xs, e, z.wk (s.wk g), RpA.wk (s.wk g) ds r⟩
theorem VR0.vr {x : V} {v : Val} (h : VR0 K Y H x v) : VRp K Y H st σ x v := by
  cases v with
  | dat d => exact h
  | loc n => exact h
  | slot i => exact h.elim
  | ro ds => exact h
theorem VRp.step (g : GR K Y M H) (s : Step Y H Y' H') {x : V} {v : Val} (h : VRp K Y H st σ x v) : VRp K Y' H' st σ x v := by
  cases v with
  | dat d => exact Rp.wk (s.wk g) d h
  | loc n =>
    obtain ⟨a, e, q⟩ := h
    exact ⟨a, e, s.m n a q⟩
  | slot i => exact h
  | ro ds =>
    obtain ⟨a, xs, e, z, r⟩ := h
    exact ⟨a, xs, e, z.wk (s.wk g), RpA.wk (s.wk g) ds r⟩
theorem Ow.step (g : GR K Y M H) (s : Step Y H Y' H') {a : Addr} {ds : List PyData} (h : Ow K Y H a ds) : Ow K Y' H' a ds := by
  obtain ⟨⟨xs, hx, r⟩, h2, h3⟩ := h
  refine ⟨⟨xs, s.kp a _ hx h3, RpA.wk (s.wk g) ds r⟩, fun hF => ?_, fun n e => ?_⟩
  · rcases s.fF a hF with q | q
    · exact h2 q
    · rw [hx] at q; cases q
  · rcases s.fm n a e with q | q
    · exact h3 n q
    · rw [hx] at q; cases q
theorem FR.step (g : GR K Y M H) (s : Step Y H Y' H') (f : FR K Y st H σ) : FR K Y' st H' σ :=
  ⟨f.len, fun i x e => let ⟨u, h1, h2⟩ := f.val i x e; ⟨u, h1, h2.step g s⟩, fun i ds e => let ⟨a, h1, h2⟩ := f.own i ds e; ⟨a, h1, h2.step g s⟩, f.inj⟩
/-- frozen: one's own list becomes data -/
def Wd.frz (Y : Wd) (a : Addr) : Wd := { Y with F := fun b => Y.F b ∨ b = a }
theorem Ow.frz_gr (g : GR K Y M H) {a : Addr} {ds : List PyData} (h : Ow K Y H a ds) : GR K (Y.frz a) M H := by
  obtain ⟨⟨xs, hx, r⟩, h2, h3⟩ := h
  have w : Wk Y.F (Y.frz a).F H H := ⟨fun _ q => .inl q, fun _ _ => rfl, fun _ _ q => q, fun _ _ _ q => q⟩
  have v0 : ∀ x v, VR0 K Y H x v → VR0 K (Y.frz a) H x v := fun x v q => by
    cases v with
    | dat d => exact Rp.wk w d q
    | loc n => exact q
    | slot i => exact q
    | ro es =>
      obtain ⟨b, ys, e, z, p⟩ := q
      exact ⟨b, ys, e, z.wk w, RpA.wk w es p⟩
  refine ⟨fun n o e => ?_, g.lt, g.inj, fun b hb => ?_, fun n b e hb => ?_⟩
  · obtain ⟨b, hb, q⟩ := g.obj n o e
    obtain ⟨u, hu, q⟩ := q
    exact ⟨b, hb, u, hu, q.map v0⟩
  · rcases hb with hb | rfl
    · exact g.fr b hb
    · exact ⟨xs, hx⟩
  · rcases hb with hb | rfl
    · exact g.dj n b e hb
    · exact h3 n e
theorem Ow.frz_rp {a : Addr} {ds : List PyData} (h : Ow K Y H a ds) : Rp K (Y.frz a).F H (.ref a) (.list ds) := by
  obtain ⟨⟨xs, hx, r⟩, h2, h3⟩ := h
  exact .lst ⟨.inr rfl, hx⟩ (RpA.wk ⟨fun _ q => .inl q, fun _ _ => rfl, fun _ _ q => q, fun _ _ _ q => q⟩ ds r)
theorem Step.frz {a : Addr} (h : H0 a = none) (s : Step Y H0 Y' H') : Step Y H0 (Y'.frz a) H' :=
  ⟨s.m, fun b q => .inl (s.F b q), s.fm, fun b q => by
    rcases q with q | rfl
    · exact s.fF b q
    · exact .inr h, s.kp⟩
/-- a new object is tracked -/
theorem Step.laid {p : Addr} {o : HO} (hp : H p = none) : Step Y H Y (upd H p o) :=
  ⟨fun _ _ h => h, fun _ h => h, fun _ _ h => .inl h, fun _ h => .inl h, fun a x h _ => by
    rw [upd_ne (ne_of_none h hp)]
    exact h⟩
theorem GR.laid {p : Addr} {o : HO} (g : GR K Y M H) (hp : H p = none) : GR K Y M (upd H p o) := by
  have s : Step Y H Y (upd H p o) := Step.laid hp
  refine ⟨fun n ob e => ?_, g.lt, g.inj, fun b hb => ?_, g.dj⟩
  · obtain ⟨b, hb, q⟩ := g.obj n ob e
    obtain ⟨u, hu, q⟩ := q
    refine ⟨b, hb, u, ?_, q.map fun x v z => z.step g s⟩
    rw [upd_ne (ne_of_none hu hp)]
    exact hu
  · obtain ⟨xs, hx⟩ := g.fr b hb
    refine ⟨xs, ?_⟩
    rw [upd_ne (ne_of_none hx hp)]
    exact hx
/-- a new list is one's own -/
theorem Ow.new {p : Addr} {xs : List V} {ds : List PyData} (g : GR K Y M H) (hp : H p = none) (r : RpA K Y.F H xs ds) : Ow K Y (upd H p (.lst xs)) p ds := by
  refine ⟨⟨xs, upd_same, RpA.wk ((Step.laid hp).wk g) ds r⟩, fun h => ?_, fun n e => ?_⟩
  · obtain ⟨ys, hy⟩ := g.fr p h
    rw [hp] at hy; cases hy
  · obtain ⟨u, hy, _⟩ := g.live e
    rw [hp] at hy; cases hy
/-- a new tuple -/
theorem Rp.newT {p : Addr} {xs : List V} {ds : List PyData} (g : GR K Y M H) (hp : H p = none) (r : RpA K Y.F H xs ds) : Rp K Y.F (upd H p (.tup xs)) (.ref p) (.tuple ds) :=
  .tup upd_same (RpA.wk ((Step.laid hp).wk g) ds r)
/-- a shared object is rewritten -/
theorem GR.wrtO (g : GR K Y M H) {n : Nat} {a : Addr} {u : HO} {o : Ob} (hm : Y.m n = some a) (hr : OR (VR0 K Y H) u o) : GR K Y (M.set n o) (upd H a u) ∧ Step Y H Y (upd H a u) := by
  have s : Step Y H Y (upd H a u) := ⟨fun _ _ h => h, fun _ h => h, fun _ _ h => .inl h, fun _ h => .inl h, fun b x e hn => by
    rw [upd_ne fun z => hn n (by rw [z]; exact hm)]
    exact e⟩
  refine ⟨⟨fun k ob e => ?_, fun k b e => by rw [List.length_set]; exact g.lt k b e, g.inj, fun b hb => ?_, g.dj⟩, s⟩
  · by_cases h1 : n = k
    · subst h1
      rw [List.getElem?_set_self (g.lt n a hm)] at e
      cases e
      exact ⟨a, hm, u, upd_same, hr.map fun x v q => q.step g s⟩
    · rw [List.getElem?_set_ne h1] at e
      obtain ⟨b, hb, w, hw, q⟩ := g.obj k ob e
      have hne : b ≠ a := fun z => h1 (g.inj n k b (by rw [z]; exact hm) hb)
      exact ⟨b, hb, w, by rw [upd_ne hne]; exact hw, q.map fun x v q => q.step g s⟩
  · obtain ⟨zs, hz⟩ := g.fr b hb
    exact ⟨zs, by rw [upd_ne fun z => g.dj n a hm (by rw [← z]; exact hb)]; exact hz⟩
def Wd.add (Y : Wd) (n : Nat) (p : Addr) : Wd := { Y with m := fun k => if k = n then some p else Y.m k }
theorem Wd.add_self {Y : Wd} {n : Nat} {p : Addr} : (Y.add n p).m n = some p := if_pos rfl
theorem Wd.add_old {n : Nat} {p b : Addr} (g : GR K Y M H) (h : Y.m n = some b) : (Y.add M.length p).m n = some b := by
  show (if n = M.length then some p else Y.m n) = some b
  rw [if_neg (Nat.ne_of_lt (g.lt n b h))]
  exact h
theorem Wd.add_inv {n : Nat} {p b : Addr} (g : GR K Y M H) (h : (Y.add M.length p).m n = some b) : (n = M.length ∧ b = p) ∨ (n < M.length ∧ Y.m n = some b) := by
  have h : (if n = M.length then some p else Y.m n) = some b := h
  by_cases e : n = M.length
  · rw [if_pos e] at h
    cases h
    exact .inl ⟨e, rfl⟩
  · rw [if_neg e] at h
    exact .inr ⟨g.lt n b h, h⟩
/-- a new shared object (its place new, or a list of one's own) -/
theorem GR.addO (g : GR K Y M H) {p : Addr} {u : HO} {o : Ob} (hp : H p = some u) (nF : ¬ Y.F p) (nm : ∀ n, Y.m n ≠ some p) (hr : OR (VR0 K Y H) u o) : GR K (Y.add M.length p) (M ++ [o]) H := by
  have v0 : ∀ x v, VR0 K Y H x v → VR0 K (Y.add M.length p) H x v := fun x v q => by
    cases v with
    | dat d => exact q
    | loc n =>
      obtain ⟨b, e, hb⟩ := q
      exact ⟨b, e, Wd.add_old g hb⟩
    | slot i => exact q
    | ro es => exact q
  refine ⟨fun n ob e => ?_, fun n b e => ?_, fun i j b e1 e2 => ?_, g.fr, fun n b e => ?_⟩
  · by_cases hn : n < M.length
    · rw [List.getElem?_append_left hn] at e
      obtain ⟨b, hb, w, hw, q⟩ := g.obj n ob e
      exact ⟨b, Wd.add_old g hb, w, hw, q.map v0⟩
    · rw [List.getElem?_append_right (Nat.le_of_not_lt hn)] at e
      have hlt := (List.getElem?_eq_some_iff.mp e).1
      have h0 : n - M.length = 0 := by simpa using hlt
      rw [h0] at e
      cases (show o = ob from Option.some.inj e)
      have en : n = M.length := by omega
      subst en
      exact ⟨p, Wd.add_self, u, hp, hr.map v0⟩
  · rw [List.length_append]
    rcases Wd.add_inv g e with ⟨h, _⟩ | ⟨h, _⟩
    · rw [h]; simp
    · omega
  · rcases Wd.add_inv g e1 with ⟨h, hb⟩ | ⟨h, hb⟩ <;> rcases Wd.add_inv g e2 with ⟨h', hb'⟩ | ⟨h', hb'⟩
    · rw [h, h']
    · rw [hb] at hb'; exact absurd hb' (nm j)
    · rw [hb'] at hb; exact absurd hb (nm i)
    · exact g.inj i j b hb hb'
  · rcases Wd.add_inv g e with ⟨_, hb⟩ | ⟨_, hb⟩
    · rw [hb]; exact nF
    · exact g.dj n b hb
/-- a new object, laid and shared -/
theorem GR.newO (g : GR K Y M H) {p : Addr} {u : HO} {o : Ob} (hp : H p = none) (hr : OR (VR0 K Y H) u o) : GR K (Y.add M.length p) (M ++ [o]) (upd H p u) ∧ Step Y H (Y.add M.length p) (upd H p u) := by
  have gl := g.laid (o := u) hp
  have sl : Step Y H Y (upd H p u) := Step.laid hp
  have nm : ∀ n, Y.m n ≠ some p := fun n e => by
    obtain ⟨w, hw, _⟩ := g.live e
    rw [hp] at hw; cases hw
  have nF : ¬ Y.F p := fun hF => by
    obtain ⟨ys, hy⟩ := g.fr p hF
    rw [hp] at hy; cases hy
  refine ⟨gl.addO upd_same nF nm (hr.map fun x v q => q.step g sl), ⟨fun n a e => Wd.add_old g e, fun _ h => h, fun n a e => ?_, fun _ h => .inl h, sl.kp⟩⟩
  rcases Wd.add_inv g e with ⟨_, rfl⟩ | ⟨_, h⟩
  · exact .inr hp
  · exact .inl h
end
end Mn

set_option Elab.async false
set_option linter.all false
set_option maxRecDepth 100000
set_option maxHeartbeats 4000000
namespace Mn
open PySem PySem.Spec PyProof.Rows L2

/-! ### judgements -/
/-- what is wanted of exceptions, and how one lies in the heap -/
structure Pm where
  Wx : WX
  ER : Exn → Value → Option Addr → Hp → Prop
abbrev RelT (α β : Type) := Wd → Hp → Hp → MSt → L2.St → β → α → Prop
def Post (K : PySem.W.Frag) (P : Pm) {α β : Type} (R : RelT α β) (st : MSt) (σ : L2.St) (Y : Wd) (H : Hp) (o : Out α) (Q : β → Hp → Prop) : Prop := match o with
  | .ok v M' => ∀ Y' H' x, Step Y H Y' H' → GR K Y' M' H' → R Y' H H' st σ x v → Q x H'
  | .exc e M' => ∀ Y' H' c d, Step Y H Y' H' → GR K Y' M' H' → P.ER e c d H' → P.Wx c d σ H'
  | .err => False
def Rn (K : PySem.W.Frag) (P : Pm) {α β : Type} (R : RelT α β) (f : Ex α) (σ : L2.St) (H : Hp) (Q : β → Hp → Prop) : Prop :=
  ∃ Y M st, GR K Y M H ∧ FR K Y st H σ ∧ Post K P R st σ Y H (f st M) Q
abbrev RV (K : PySem.W.Frag) : RelT Val V := fun Y _ H st σ x v => VRp K Y H st σ x v
abbrev RB : RelT Bool Bool := fun _ _ _ _ _ x v => x = v
abbrev RA (K : PySem.W.Frag) : RelT (List Val) (List V) := fun Y _ H st σ xs vs => Paired (VRp K Y H st σ) xs vs
abbrev RS (K : PySem.W.Frag) : RelT Sl V := fun Y H0 H _ _ x s => SlR K Y H0 H x s
abbrev SE (X : Cx) (P : Pm) (e : Expr) (f : Ex Val) : Prop := PE X e (Rn X.K P (RV X.K) f)
abbrev SX (X : Cx) (P : Pm) (e : Expr) (f : Ex Sl) : Prop := PE X e (Rn X.K P (RS X.K) f)
abbrev ST (X : Cx) (P : Pm) (e : Expr) (f : Ex Bool) : Prop := PT X e (Rn X.K P RB f)
abbrev SW (X : Cx) (P : Pm) (e : Expr) (f : Ex Bool) : Prop := PW X e (Rn X.K P RB f)
abbrev SA (X : Cx) (P : Pm) (es : List Expr) (f : Ex (List Val)) : Prop := PA X es (Rn X.K P (RA X.K) f)

theorem PE.imp {X : Cx} {e : Expr} {t t' : TE} (h : PE X e t) (i : ∀ σ H Q, t' σ H Q → t σ H Q) : PE X e t' := ⟨fun pins s σ H Q I q => h.run pins s σ H Q I (i σ H Q q)⟩
theorem PT.imp {X : Cx} {e : Expr} {t t' : TT} (h : PT X e t) (i : ∀ σ H Q, t' σ H Q → t σ H Q) : PT X e t' := ⟨fun pins s σ H Q I q => h.run pins s σ H Q I (i σ H Q q)⟩
theorem PW.imp {X : Cx} {e : Expr} {t t' : TT} (h : PW X e t) (i : ∀ σ H Q, t' σ H Q → t σ H Q) : PW X e t' := ⟨fun wh pins s σ H Q I q => h.run wh pins s σ H Q I (i σ H Q q)⟩
theorem PA.imp {X : Cx} {es : List Expr} {t t' : TA} (h : PA X es t) (i : ∀ σ H Q, t' σ H Q → t σ H Q) : PA X es t' := ⟨fun pos pins s σ H Q I q => h.run pos pins s σ H Q I (i σ H Q q)⟩

structure ShiftR (K : PySem.W.Frag) {α β : Type} (R : RelT α β) : Prop where
  sh : ∀ {Y : Wd} {H : Hp} {Y' : Wd} {H' : Hp} {M' : MH} {Y'' : Wd} {H'' : Hp} {st : MSt} {σ : L2.St} {x : β} {v : α}, Step Y H Y' H' → GR K Y' M' H' → R Y'' H' H'' st σ x v → R Y'' H H'' st σ x v
section
variable {K : PySem.W.Frag} {P : Pm} {Y Y' Y'' : Wd} {H H' H'' H0 : Hp} {M M' : MH} {st : MSt} {σ : L2.St}
theorem shV : ShiftR K (RV K) := ⟨fun _ _ h => h⟩
theorem shB : ShiftR K RB := ⟨fun _ _ h => h⟩
theorem shA : ShiftR K (RA K) := ⟨fun _ _ h => h⟩
theorem Step.new (s : Step Y H Y' H') (g' : GR K Y' M' H') {a : Addr} (h : H' a = none) : H a = none := by
  cases q : H a with
  | none => rfl
  | some x =>
    by_cases hn : ∀ k, Y.m k ≠ some a
    · rw [s.kp a x q hn] at h; cases h
    · have : ∃ k, Y.m k = some a := Classical.byContradiction fun hc => hn fun k e => hc ⟨k, e⟩
      obtain ⟨k, e⟩ := this
      obtain ⟨y, hy⟩ := s.live g' e
      rw [hy] at h; cases h
theorem SlR.shift (s : Step Y H Y' H') (g' : GR K Y' M' H') {x : V} {v : Sl} (h : SlR K Y'' H' H'' x v) : SlR K Y'' H H'' x v := by
  cases v with
  | v y => exact h
  | own ds =>
    obtain ⟨a, e, o, n⟩ := h
    exact ⟨a, e, o, s.new g' n⟩
theorem shS : ShiftR K (RS K) := ⟨fun s g h => SlR.shift s g h⟩
section
variable {α β γ δ : Type} {R : RelT α β} {R1 : RelT α β} {R2 : RelT γ δ} {Q : δ → Hp → Prop}
theorem Post.shift (hR : ShiftR K R) {o : Out α} {Q : β → Hp → Prop} (s : Step Y H Y' H') (g' : GR K Y' M' H') (h : Post K P R st σ Y H o Q) : Post K P R st σ Y' H' o Q := by
  cases o with
  | ok v M2 => exact fun Y2 H2 x s2 g2 r => h Y2 H2 x (s.then g' s2) g2 (hR.sh s g' r)
  | exc e M2 => exact fun Y2 H2 c d s2 g2 r => h Y2 H2 c d (s.then g' s2) g2 r
  | err => exact h
theorem Post.bind (hR : ShiftR K R2) {o : Out α} {k : α → MH → Out γ} {N : β → Hp → Prop} (h : Post K P R2 st σ Y H (o.bind k) Q)
    (hk : ∀ a M' Y' H' x, o = .ok a M' → Step Y H Y' H' → GR K Y' M' H' → R1 Y' H H' st σ x a → Post K P R2 st σ Y' H' (k a M') Q → N x H') : Post K P R1 st σ Y H o N := by
  cases o with
  | ok v M2 => exact fun Y2 H2 x s2 g2 r => hk v M2 Y2 H2 x rfl s2 g2 r (Post.shift hR s2 g2 h)
  | exc e M2 => exact h
  | err => exact h
/-- an expression first -/
theorem Rn.first (hR : ShiftR K R2) {f : Ex α} {k : MSt → α → MH → Out γ} {N : β → Hp → Prop} (h : Rn K P R2 (fun st M => (f st M).bind (k st)) σ H Q)
    (hk : ∀ a st M' Y' H' x, GR K Y' M' H' → FR K Y' st H' σ → (∀ Z, Step Y' H' Z H' → True) → R1 Y' H H' st σ x a → Post K P R2 st σ Y' H' (k st a M') Q → N x H') : Rn K P R1 f σ H N := by
  obtain ⟨Y, M, st, g, fr, h⟩ := h
  exact ⟨Y, M, st, g, fr, Post.bind hR h fun a M' Y' H' x _ s g' r q => hk a st M' Y' H' x g' (fr.step g s) (fun _ _ => trivial) r q⟩
theorem Post.ok {v : α} {Q : β → Hp → Prop} (h : Post K P R st σ Y H (.ok v M) Q) {Y' : Wd} {H' : Hp} {x : β} (s : Step Y H Y' H') (g : GR K Y' M H') (r : R Y' H H' st σ x v) : Q x H' := h Y' H' x s g r
theorem Post.opt {v : Option α} {Q : β → Hp → Prop} (h : Post K P R st σ Y H (Out.ofOpt v M) Q) : ∃ a, v = some a ∧ Post K P R st σ Y H (.ok a M) Q := by
  cases v with
  | none => exact False.elim h
  | some a => exact ⟨a, rfl, h⟩
end

/-! ### the data behind a value -/
def Dr (K : PySem.W.Frag) (Y : Wd) (H : Hp) (x : V) (d : PyData) : Prop := Rp K Y.F H x d ∨ ∃ a xs ds, x = .ref a ∧ d = .list ds ∧ (H a = some (.lst xs) ∨ LsZ K H a xs) ∧ RpA K Y.F H xs ds
def DrT (K : PySem.W.Frag) (Y : Wd) (H : Hp) (x : V) (d : PyData) : Prop := Rp K Y.F H x d ∨ ∃ a xs ds, x = .ref a ∧ d = .list ds ∧ H a = some (.lst xs) ∧ RpA K Y.F H xs ds
theorem DrT.dr {x : V} {d : PyData} (h : DrT K Y H x d) : Dr K Y H x d := by
  rcases h with h | ⟨a, xs, ds, h1, h2, h3, h4⟩
  · exact .inl h
  · exact .inr ⟨a, xs, ds, h1, h2, .inl h3, h4⟩
theorem Paired.get {α β : Type} {F : α → β → Prop} : ∀ {l₁ : List α} {l₂ : List β}, Paired F l₁ l₂ → ∀ {i : Nat} {b : β}, l₂[i]? = some b → ∃ a, l₁[i]? = some a ∧ F a b
  | _, _, .nil, i, b, e => by simp at e
  | _, _, .cons h t, 0, b, e => by
    have e' := Option.some.inj (show some _ = some b from e)
    subst e'
    exact ⟨_, rfl, h⟩
  | _, _, .cons h t, i + 1, b, e => by
    obtain ⟨a, ha, r⟩ := Paired.get t (i := i) (b := b) (by simpa using e)
    exact ⟨a, by simpa using ha, r⟩
theorem dats_rp : ∀ {ds : List PyData} {xs : List V}, Paired (VR0 K Y H) xs (ds.map .dat) → RpA K Y.F H xs ds
  | [], _, h => by cases h; exact .nil
  | d :: ds, _, h => by
    cases h with
    | cons h1 h2 => exact .cons h1 (dats_rp h2)
theorem rp_dats : ∀ {ds : List PyData} {xs : List V}, RpA K Y.F H xs ds → Paired (VR0 K Y H) xs (ds.map .dat)
  | [], _, h => by cases h; exact .nil
  | d :: ds, _, h => by
    cases h with
    | cons h1 h2 => exact .cons h1 (rp_dats h2)
theorem DrT.of (g : GR K Y M H) (fr : FR K Y st H σ) {x : V} {v : Val} {d : PyData} (r : VRp K Y H st σ x v) (h : derefT st M v = some d) : DrT K Y H x d := by
  cases v with
  | dat d' =>
    have e : d' = d := Option.some.inj h
    subst e
    exact .inl r
  | loc n =>
    obtain ⟨a, e, hm⟩ := r
    have h : (match M[n]? with | some (.lst vs) => (datAll vs).map PyData.list | _ => none) = some d := h
    cases q : M[n]? with
    | none => rw [q] at h; cases h
    | some o =>
      obtain ⟨b, hb, u, hu, ob⟩ := g.obj n o q
      rw [hm] at hb
      cases hb
      rw [q] at h
      cases o with
      | lst vs =>
        have h : (datAll vs).map PyData.list = some d := h
        obtain ⟨ds, hds, e2⟩ := Option.map_eq_some_iff.mp h
        cases u with
        | lst xs =>
          have p : Paired (VR0 K Y H) xs vs := ob
          rw [datAll_some hds] at p
          exact .inr ⟨a, xs, ds, e, e2.symm, hu, dats_rp p⟩
        | _ => exact ob.elim
      | dct _ => cases h
      | dctT _ => cases h
  | slot i =>
    obtain ⟨a, ds, e, h1, h2⟩ := r
    have h : (match st[i]? with | some (some (.own ds)) => some (PyData.list ds) | _ => none) = some d := h
    rw [h2] at h
    have e2 : PyData.list ds = d := Option.some.inj h
    obtain ⟨b, hb, ⟨xs, hx, p⟩, _, _⟩ := fr.own i ds h2
    rw [h1] at hb
    cases hb
    exact .inr ⟨a, xs, ds, e, e2.symm, hx, p⟩
  | ro ds => cases h
theorem Dr.of (g : GR K Y M H) (fr : FR K Y st H σ) {x : V} {v : Val} {d : PyData} (r : VRp K Y H st σ x v) (h : deref st M v = some d) : Dr K Y H x d := by
  cases v with
  | ro ds =>
    have e : PyData.list ds = d := Option.some.inj h
    obtain ⟨a, xs, e1, z, p⟩ := r
    exact .inr ⟨a, xs, ds, e1, e.symm, .inr z, p⟩
  | dat d' => exact (DrT.of g fr r (show derefT st M (.dat d') = some d from h)).dr
  | loc n => exact (DrT.of g fr r (show derefT st M (.loc n) = some d from h)).dr
  | slot i => exact (DrT.of g fr r (show derefT st M (.slot i) = some d from h)).dr
theorem Dr.dp {x : V} {d : PyData} (h : Dr K Y H x d) : Dp K H x d := by
  rcases h with h | ⟨a, xs, ds, rfl, rfl, h3, h4⟩
  · exact Rp.dp d h
  · refine .lst ?_ (RpA.dp ds h4)
    rcases h3 with h3 | h3
    · exact .inl (.inl h3)
    · exact h3.sq
theorem Dr.int {x : V} {i : Int} (h : Dr K Y H x (.int i)) : x = .int i := by
  rcases h with h | ⟨a, xs, ds, _, h2, _⟩
  · cases h; rfl
  · cases h2
theorem Dr.bl {x : V} {i : Bool} (h : Dr K Y H x (.bool i)) : x = .bl i := by
  rcases h with h | ⟨a, xs, ds, _, h2, _⟩
  · cases h; rfl
  · cases h2
theorem Dr.str {x : V} {i : Str} (h : Dr K Y H x (.str i)) : x = .str i := by
  rcases h with h | ⟨a, xs, ds, _, h2, _⟩
  · cases h; rfl
  · cases h2
theorem Dr.non {x : V} (h : Dr K Y H x .none) : x = .non := by
  rcases h with h | ⟨a, xs, ds, _, h2, _⟩
  · cases h; rfl
  · cases h2
theorem Dr.tup {x : V} {ds : List PyData} (h : Dr K Y H x (.tuple ds)) : ∃ a xs, x = .ref a ∧ SqT K H a xs ∧ RpA K Y.F H xs ds := by
  rcases h with h | ⟨a, xs, ds, _, h2, _⟩
  · cases h with
    | tup h1 h2 => exact ⟨_, _, rfl, .inl (.inl h1), h2⟩
  · cases h2
theorem Dr.tupT {x : V} {ds : List PyData} (h : Dr K Y H x (.tuple ds)) : ∃ a xs, x = .ref a ∧ H a = some (.tup xs) ∧ RpA K Y.F H xs ds := by
  rcases h with h | ⟨a, xs, ds, _, h2, _⟩
  · cases h with
    | tup h1 h2 => exact ⟨_, _, rfl, h1, h2⟩
  · cases h2
theorem Dr.lst {x : V} {ds : List PyData} (h : Dr K Y H x (.list ds)) : ∃ a xs, x = .ref a ∧ SqL K H a xs ∧ RpA K Y.F H xs ds := by
  rcases h with h | ⟨a, xs, es, h1, h2, h3, h4⟩
  · cases h with
    | lst h1 h2 => exact ⟨_, _, rfl, h1.sq, h2⟩
  · cases h2
    refine ⟨a, xs, h1, ?_, h4⟩
    rcases h3 with h3 | h3
    · exact .inl (.inl h3)
    · exact h3.sq
theorem DrT.lst {x : V} {ds : List PyData} (h : DrT K Y H x (.list ds)) : ∃ a xs, x = .ref a ∧ H a = some (.lst xs) ∧ RpA K Y.F H xs ds := by
  rcases h with h | ⟨a, xs, es, h1, h2, h3, h4⟩
  · cases h with
    | lst h1 h2 => exact ⟨_, _, rfl, h1.2, h2⟩
  · cases h2
    exact ⟨a, xs, h1, h3, h4⟩
/-- what is not None -/
theorem Dr.isnon {x : V} {d : PyData} (h : Dr K Y H x d) : decide (x = .non) = (match d with | .none => true | _ => false) := by
  rcases h with h | ⟨a, xs, ds, rfl, rfl, _⟩
  · cases h <;> rfl
  · rfl
end

/-! ### names, constants -/
def eVar (i : Nat) : Ex Val := fun st M => match st[i]? with
  | some (some (.v x)) => .ok x M
  | some (some (.own _)) => .ok (.slot i) M
  | _ => .err
def eC (d : PyData) : Ex Val := fun _ M => .ok (.dat d) M
section
variable {X : Cx} {P : Pm} {e a b : Expr} {pos : Pos}
theorem se_var (i : Nat) {x : Str} (hN : X.N[i]? = some x := by rfl) (hv : Vis X.env.scope x := by first | exact Or.inl rfl | exact Or.inr (Or.inl rfl) | exact Or.inr (Or.inr rfl)) (hd : (x == ("__debug__" : Str)) = false := by decide)
    (hcd : (x == ("__classdict__" : Str)) = false := by decide) : SE X P (.Name x pos) (eVar i) := by
  refine PE.imp (pe_var hN hv hd hcd) fun σ H Q h => ?_
  obtain ⟨Y, M, st, g, fr, h⟩ := h
  unfold eVar at h
  cases q : st[i]? with
  | none => rw [q] at h; exact False.elim h
  | some o =>
    rw [q] at h
    cases o with
    | none => exact False.elim h
    | some s =>
      cases s with
      | v y =>
        obtain ⟨u, h1, h2⟩ := fr.val i y q
        exact ⟨u, h1, Post.ok h (Step.refl Y H) g h2.vr⟩
      | own ds =>
        obtain ⟨a, h1, h2⟩ := fr.own i ds q
        exact ⟨_, h1, Post.ok h (Step.refl Y H) g ⟨a, ds, rfl, h1, q⟩⟩
theorem se_const {v : V} {d : PyData} (h : PE X e (tC v)) (r : ∀ F H, Rp X.K F H v d) : SE X P e (eC d) := by
  refine PE.imp h fun σ H Q h => ?_
  obtain ⟨Y, M, st, g, fr, h⟩ := h
  exact Post.ok h (Step.refl Y H) g (show VRp X.K Y H st σ v (.dat d) from r _ _)
theorem se_int {i j} : SE X P (.Constant (.int i) j pos) (eC (.int i)) := se_const pe_int fun _ _ => .int i
theorem se_bl {i j} : SE X P (.Constant (.bool i) j pos) (eC (.bool i)) := se_const pe_bl fun _ _ => .bl i
theorem se_str {i j} : SE X P (.Constant (.str i) j pos) (eC (.str i)) := se_const pe_str fun _ _ => .str i
theorem se_non {j} : SE X P (.Constant .none j pos) (eC .none) := se_const pe_non fun _ _ => .non
/-- a constant of the module: an int -/
theorem se_globI {x : Str} {i : Int} {t : Tok} (hg : Gl X x) (hm : X.mg x = some (.int i t)) (hd : (x == ("__debug__" : Str)) = false := by decide) : SE X P (.Name x pos) (eC (.int i)) := se_const (v := .int i) (pe_glob hg hm ⟨t, rfl⟩ hd) fun _ _ => .int i

/-! ### storable results -/
def frzS : Sl → Val
  | .v x => x
  | .own ds => .dat (.list ds)
/-- a new list, frozen at once -/
def eF (f : Ex Sl) : Ex Val := fun st M => (f st M).bind fun s M' => .ok (frzS s) M'
theorem se_sx {f : Ex Sl} (h : SX X P e f) : SE X P e (eF f) := by
  refine PE.imp h fun σ H Q h => ?_
  obtain ⟨Y, M, st, g, fr, h⟩ := h
  refine ⟨Y, M, st, g, fr, ?_⟩
  unfold eF at h
  cases q : f st M with
  | ok s M' =>
    rw [q] at h
    intro Y' H' x sp g' r
    cases s with
    | v y => exact h Y' H' x sp g' (VR0.vr r)
    | own ds =>
      obtain ⟨a, rfl, o, n⟩ := r
      exact h (Y'.frz a) H' _ (Step.frz n sp) (o.frz_gr g') o.frz_rp
  | exc e M' => rw [q] at h; exact h
  | err => rw [q] at h; exact h
/-- a value that may be kept -/
def noSlot : Val → Bool
  | .slot _ => false
  | _ => true
def xV (f : Ex Val) : Ex Sl := fun st M => (f st M).bind fun v M' => if noSlot v = true then .ok (.v v) M' else .err
theorem VRp.v0 {K : PySem.W.Frag} {Y : Wd} {H : Hp} {st : MSt} {σ : L2.St} {x : V} {v : Val} (h : VRp K Y H st σ x v) (n : noSlot v = true) : VR0 K Y H x v := by
  cases v with
  | dat d => exact h
  | loc n => exact h
  | slot i => cases n
  | ro ds => exact h
theorem sx_se {f : Ex Val} (h : SE X P e f) : SX X P e (xV f) := by
  refine PE.imp h fun σ H Q h => ?_
  refine Rn.first (R1 := RV X.K) shS h fun v st M' Y' H' x g fr _ r q => ?_
  cases hn : noSlot v with
  | false => rw [hn] at q; exact False.elim q
  | true =>
    rw [hn] at q
    exact Post.ok q (Step.refl Y' H') g (VRp.v0 r hn)
end
end Mn

set_option Elab.async false
set_option linter.all false
set_option maxRecDepth 100000
set_option maxHeartbeats 4000000
namespace Mn
open PySem PySem.Spec PyProof.Rows L2

/-! ### operators by data -/
/-- the longest list, tuple, text -/
abbrev SL : Nat := 16777216
theorem sl_eq : sizeLine = SL := by rw [sizeLine_eq]
def eOp2 (g : PyData → PyData → Option PyData) (f1 f2 : Ex Val) : Ex Val := fun st M => (f1 st M).bind fun a M1 => (f2 st M1).bind fun b M2 =>
  Out.ofOpt ((deref st M2 a).bind fun da => (deref st M2 b).bind fun db => (g da db).map .dat) M2
def xOp2 (g : PyData → PyData → Option Sl) (f1 f2 : Ex Val) : Ex Sl := fun st M => (f1 st M).bind fun a M1 => (f2 st M1).bind fun b M2 =>
  Out.ofOpt ((derefT st M2 a).bind fun da => (derefT st M2 b).bind fun db => g da db) M2
def eUn (g : PyData → Option PyData) (f : Ex Val) : Ex Val := fun st M => (f st M).bind fun a M1 => Out.ofOpt ((deref st M1 a).bind fun da => (g da).map .dat) M1
/-- r serves g: a plain answer -/
def Prim2 (K : PySem.W.Frag) (r : R2) (g : PyData → PyData → Option PyData) : Prop := ∀ {Y : Wd} {M : MH} {H : Hp} {x y : V} {da db d : PyData} {Q : VK}, GR K Y M H → Dr K Y H x da → Dr K Y H y db → g da db = some d →
  (∀ Y' H' z, Step Y H Y' H' → GR K Y' M H' → Rp K Y'.F H' z d → Q z H') → r x y H Q
def Prim2S (K : PySem.W.Frag) (r : R2) (g : PyData → PyData → Option Sl) : Prop := ∀ {Y : Wd} {M : MH} {H : Hp} {x y : V} {da db : PyData} {s : Sl} {Q : VK}, GR K Y M H → DrT K Y H x da → DrT K Y H y db → g da db = some s →
  (∀ Y' H' z, Step Y H Y' H' → GR K Y' M H' → SlR K Y' H H' z s → Q z H') → r x y H Q
def Prim1 (K : PySem.W.Frag) (r : V → Hp → VK → Prop) (g : PyData → Option PyData) : Prop := ∀ {Y : Wd} {M : MH} {H : Hp} {x : V} {da d : PyData} {Q : VK}, GR K Y M H → Dr K Y H x da → g da = some d →
  (∀ Y' H' z, Step Y H Y' H' → GR K Y' M H' → Rp K Y'.F H' z d → Q z H') → r x H Q
section
variable {X : Cx} {P : Pm} {e a b c : Expr} {pos : Pos} {f1 f2 f3 : Ex Val}
theorem rn_op2 {K : PySem.W.Frag} {r : R2} {g : PyData → PyData → Option PyData} (hp : Prim2 K r g) {σ : L2.St} {H : Hp} {Q : VK} (h : Rn K P (RV K) (eOp2 g f1 f2) σ H Q) : tOp r (Rn K P (RV K) f1) (Rn K P (RV K) f2) σ H Q := by
  obtain ⟨Y, M, st, g0, fr, h⟩ := h
  refine ⟨Y, M, st, g0, fr, Post.bind (R1 := RV K) shV h fun va M1 Y1 H1 x _ s1 g1 r1 q1 => ?_⟩
  have fr1 := fr.step g0 s1
  refine ⟨Y1, M1, st, g1, fr1, Post.bind (R1 := RV K) shV q1 fun vb M2 Y2 H2 y _ s2 g2 r2 q2 => ?_⟩
  have fr2 := fr1.step g1 s2
  obtain ⟨v, e, q⟩ := Post.opt q2
  obtain ⟨da, ea, e⟩ := Option.bind_eq_some_iff.mp e
  obtain ⟨db, eb, e⟩ := Option.bind_eq_some_iff.mp e
  obtain ⟨d, ed, rfl⟩ := Option.map_eq_some_iff.mp e
  exact hp g2 (Dr.of g2 fr2 (VRp.step g1 s2 r1) ea) (Dr.of g2 fr2 r2 eb) ed fun Y' H' z s g' rz => q Y' H' z s g' rz
theorem rn_op2S {K : PySem.W.Frag} {r : R2} {g : PyData → PyData → Option Sl} (hp : Prim2S K r g) {σ : L2.St} {H : Hp} {Q : VK} (h : Rn K P (RS K) (xOp2 g f1 f2) σ H Q) : tOp r (Rn K P (RV K) f1) (Rn K P (RV K) f2) σ H Q := by
  obtain ⟨Y, M, st, g0, fr, h⟩ := h
  refine ⟨Y, M, st, g0, fr, Post.bind (R1 := RV K) shS h fun va M1 Y1 H1 x _ s1 g1 r1 q1 => ?_⟩
  have fr1 := fr.step g0 s1
  refine ⟨Y1, M1, st, g1, fr1, Post.bind (R1 := RV K) shS q1 fun vb M2 Y2 H2 y _ s2 g2 r2 q2 => ?_⟩
  have fr2 := fr1.step g1 s2
  obtain ⟨v, e, q⟩ := Post.opt q2
  obtain ⟨da, ea, e⟩ := Option.bind_eq_some_iff.mp e
  obtain ⟨db, eb, ed⟩ := Option.bind_eq_some_iff.mp e
  exact hp g2 (DrT.of g2 fr2 (VRp.step g1 s2 r1) ea) (DrT.of g2 fr2 r2 eb) ed fun Y' H' z s g' rz => q Y' H' z s g' rz
theorem rn_un {K : PySem.W.Frag} {r : V → Hp → VK → Prop} {g : PyData → Option PyData} (hp : Prim1 K r g) {σ : L2.St} {H : Hp} {Q : VK} (h : Rn K P (RV K) (eUn g f1) σ H Q) : Rn K P (RV K) f1 σ H fun x H1 => r x H1 Q := by
  obtain ⟨Y, M, st, g0, fr, h⟩ := h
  refine ⟨Y, M, st, g0, fr, Post.bind (R1 := RV K) shV h fun va M1 Y1 H1 x _ s1 g1 r1 q1 => ?_⟩
  have fr1 := fr.step g0 s1
  obtain ⟨v, e, q⟩ := Post.opt q1
  obtain ⟨da, ea, e⟩ := Option.bind_eq_some_iff.mp e
  obtain ⟨d, ed, rfl⟩ := Option.map_eq_some_iff.mp e
  exact hp g1 (Dr.of g1 fr1 r1 ea) ed fun Y' H' z s g' rz => q Y' H' z s g' rz
theorem se_op {op : Operator} {r : R2} {g : PyData → PyData → Option PyData} (ho : OpR X (binaryOp op) r) (hp : Prim2 X.K r g) (ha : SE X P a f1) (hb : SE X P b f2) : SE X P (.BinOp a op b pos) (eOp2 g f1 f2) :=
  PE.imp (pe_op ho ha hb) fun _ _ _ h => rn_op2 hp h
theorem sx_op {op : Operator} {r : R2} {g : PyData → PyData → Option Sl} (ho : OpR X (binaryOp op) r) (hp : Prim2S X.K r g) (ha : SE X P a f1) (hb : SE X P b f2) : SX X P (.BinOp a op b pos) (xOp2 g f1 f2) :=
  PE.imp (pe_op ho ha hb) fun _ _ _ h => rn_op2S hp h
theorem se_un {op : UnaryOp} {r : V → Hp → VK → Prop} {g : PyData → Option PyData} (ho : UnR X (unaryOp op) r) (hp : Prim1 X.K r g) (ha : SE X P a f1) : SE X P (.UnaryOp op a pos) (eUn g f1) :=
  PE.imp (pe_un ho ha) fun _ _ _ h => rn_un hp h
theorem se_cmp {op : CmpOp} {r : R2} {g : PyData → PyData → Option PyData} (ho : OpR X (compareOp op) r) (hp : Prim2 X.K r g) (hm : behindInMarks op b = false) (ha : SE X P a f1) (hb : SE X P b f2) : SE X P (.Compare a [op] [b] pos) (eOp2 g f1 f2) :=
  PE.imp (pe_cmpR ho ha hb hm) fun _ _ _ h => rn_op2 hp h
/-- a bool's value -/
def toB (f : Ex Val) : Ex Bool := fun st M => (f st M).bind fun v M1 => match v with
  | .dat (.bool b) => .ok b M1
  | _ => .err
theorem rn_toB {K : PySem.W.Frag} {σ : L2.St} {H : Hp} {Q : Bool → Hp → Prop} (h : Rn K P RB (toB f1) σ H Q) : Rn K P (RV K) f1 σ H fun x H1 => ∃ k, x = .bl k ∧ Q k H1 := by
  obtain ⟨Y, M, st, g0, fr, h⟩ := h
  refine ⟨Y, M, st, g0, fr, Post.bind (R1 := RV K) shB h fun va M1 Y1 H1 x _ s1 g1 r1 q1 => ?_⟩
  cases va with
  | dat d =>
    cases d with
    | bool b =>
      cases r1
      exact ⟨b, rfl, Post.ok q1 (Step.refl Y1 H1) g1 rfl⟩
    | _ => exact False.elim q1
  | _ => exact False.elim q1
theorem st_cmp {op : CmpOp} {r : R2} {g : PyData → PyData → Option PyData} (ho : OpR X (compareOp op) r) (hp : Prim2 X.K r g) (hm : behindInMarks op b = false) (ha : SE X P a f1) (hb : SE X P b f2) : ST X P (.Compare a [op] [b] pos) (toB (eOp2 g f1 f2)) :=
  PT.imp (pt_cmpR ho ha hb hm) fun _ _ _ h => rn_op2 hp (rn_toB h)
/-- a < b < c -/
def eChain (g g' : PyData → PyData → Option PyData) (f1 f2 f3 : Ex Val) : Ex Val := fun st M => (f1 st M).bind fun a M1 => (f2 st M1).bind fun b M2 =>
  match (deref st M2 a).bind fun da => (deref st M2 b).bind fun db => g da db with
  | some (.bool true) => (f3 st M2).bind fun c M3 => Out.ofOpt ((deref st M3 b).bind fun db => (deref st M3 c).bind fun dc => (g' db dc).map .dat) M3
  | some (.bool false) => .ok (.dat (.bool false)) M2
  | _ => .err
theorem rn_chain {K : PySem.W.Frag} {r r' : R2} {g g' : PyData → PyData → Option PyData} (hp : Prim2 K r g) (hp' : Prim2 K r' g') {σ : L2.St} {H : Hp} {Q : VK} (h : Rn K P (RV K) (eChain g g' f1 f2 f3) σ H Q) :
    tChain r r' (Rn K P (RV K) f1) (Rn K P (RV K) f2) (Rn K P (RV K) f3) σ H Q := by
  obtain ⟨Y, M, st, g0, fr, h⟩ := h
  refine ⟨Y, M, st, g0, fr, Post.bind (R1 := RV K) shV h fun va M1 Y1 H1 x _ s1 g1 r1 q1 => ?_⟩
  have fr1 := fr.step g0 s1
  refine ⟨Y1, M1, st, g1, fr1, Post.bind (R1 := RV K) shV q1 fun vb M2 Y2 H2 y _ s2 g2 r2 q2 => ?_⟩
  have fr2 := fr1.step g1 s2
  cases ea : deref st M2 va with
  | none => rw [ea] at q2; exact False.elim q2
  | some da =>
    cases eb : deref st M2 vb with
    | none => rw [ea, eb] at q2; exact False.elim q2
    | some db =>
      rw [ea, eb] at q2
      cases eg : g da db with
      | none => rw [show (Option.bind (some da) fun da => Option.bind (some db) fun db => g da db) = g da db from rfl, eg] at q2; exact False.elim q2
      | some d =>
        rw [show (Option.bind (some da) fun da => Option.bind (some db) fun db => g da db) = g da db from rfl, eg] at q2
        cases d with
        | bool k =>
          refine hp g2 (Dr.of g2 fr2 (VRp.step g1 s2 r1) ea) (Dr.of g2 fr2 r2 eb) eg fun Y' H' z s g' rz => ?_
          cases rz
          refine ⟨k, rfl, ?_⟩
          have fr' := fr2.step g2 s
          cases k with
          | false =>
            rw [if_neg Bool.false_ne_true]
            exact Post.ok q2 s g' (show Rp K Y'.F H' (.bl false) (.bool false) from .bl false)
          | true =>
            rw [if_pos rfl]
            refine ⟨Y', M2, st, g', fr', Post.bind (R1 := RV K) shV (Post.shift shV s g' q2) fun vc M3 Y3 H3 w _ s3 g3 r3 q3 => ?_⟩
            have fr3 := fr'.step g' s3
            obtain ⟨v, e, q⟩ := Post.opt q3
            obtain ⟨db', eb', e⟩ := Option.bind_eq_some_iff.mp e
            obtain ⟨dc, ec, e⟩ := Option.bind_eq_some_iff.mp e
            obtain ⟨d, ed, rfl⟩ := Option.map_eq_some_iff.mp e
            exact hp' g3 (Dr.of g3 fr3 (VRp.step g' s3 (VRp.step g2 s r2)) eb') (Dr.of g3 fr3 r3 ec) ed fun Y' H' z s g' rz => q Y' H' z s g' rz
        | _ => exact False.elim q2
theorem se_chain {op op' : CmpOp} {r r' : R2} {g g' : PyData → PyData → Option PyData} (ho : OpR X (compareOp op) r) (hp : Prim2 X.K r g) (ho' : OpR X (compareOp op') r') (hp' : Prim2 X.K r' g') (ha : SE X P a f1) (hb : SE X P b f2) (hc : SE X P c f3) (hm : lastMarks [op, op'] [b, c] = false := by rfl) :
    SE X P (.Compare a [op, op'] [b, c] pos) (eChain g g' f1 f2 f3) := PE.imp (pe_chain ho ho' ha hb hc hm) fun _ _ _ h => rn_chain hp hp' h
theorem st_chain {op op' : CmpOp} {r r' : R2} {g g' : PyData → PyData → Option PyData} (ho : OpR X (compareOp op) r) (hp : Prim2 X.K r g) (ho' : OpR X (compareOp op') r') (hp' : Prim2 X.K r' g') (ha : SE X P a f1) (hb : SE X P b f2) (hc : SE X P c f3) (hm : lastMarks [op, op'] [b, c] = false := by rfl) :
    ST X P (.Compare a [op, op'] [b, c] pos) (toB (eChain g g' f1 f2 f3)) := PT.imp (pt_chain ho ho' ha hb hc hm) fun _ _ _ h => rn_chain hp hp' (rn_toB h)

/-! ### tests -/
def tru : PyData → Option Bool
  | .none => some false
  | .bool b => some b
  | .int i => some (i != 0)
  | .str y => if y.length ≤ SL then some ((y.length : Int) != 0) else none
  | .list ds => some (!ds.isEmpty)
  | .tuple ds => some (!ds.isEmpty)
  | .dict _ => none
def bTru (f : Ex Val) : Ex Bool := fun st M => (f st M).bind fun v M1 => Out.ofOpt ((deref st M1 v).bind tru) M1
theorem RpA.isEmpty {K : PySem.W.Frag} {F : Addr → Prop} {H : Hp} {xs : List V} {ds : List PyData} (h : RpA K F H xs ds) : xs.isEmpty = ds.isEmpty := by
  cases h <;> rfl
theorem st_truth {f : Ex Val} (h : SE X P e f) (he : ∀ whole, isTrue e X.env whole = (do let v ← whole; standAt e.pos; holding [v] (truthy v)) := by intro _; rfl) : ST X P e (bTru f) := by
  refine PT.imp (pt_truth h he) fun σ H Q h => ?_
  obtain ⟨Y, M, st, g0, fr, h⟩ := h
  refine ⟨Y, M, st, g0, fr, Post.bind (R1 := RV X.K) shB h fun va M1 Y1 H1 x _ s1 g1 r1 q1 => ?_⟩
  have fr1 := fr.step g0 s1
  obtain ⟨k, e, q⟩ := Post.opt q1
  obtain ⟨d, ed, et⟩ := Option.bind_eq_some_iff.mp e
  have dr := Dr.of g1 fr1 r1 ed
  refine ⟨k, ?_, Post.ok q (Step.refl Y1 H1) g1 rfl⟩
  cases d with
  | none => rw [dr.non]; exact (Option.some.inj et).symm
  | bool b => rw [dr.bl]; exact (Option.some.inj et).symm
  | int i => rw [dr.int]; exact (Option.some.inj et).symm
  | str y =>
    rw [dr.str]
    have et : (if y.length ≤ SL then some ((y.length : Int) != 0) else none) = some k := et
    by_cases hl : y.length ≤ SL
    · rw [if_pos hl] at et
      exact ⟨by rw [sl_eq]; exact hl, (Option.some.inj et).symm⟩
    · rw [if_neg hl] at et; cases et
  | list ds =>
    obtain ⟨a, xs, rfl, h1, h2⟩ := dr.lst
    exact .inl ⟨xs, h1, by rw [h2.isEmpty]; exact (Option.some.inj et).symm⟩
  | tuple ds =>
    obtain ⟨a, xs, rfl, h1, h2⟩ := dr.tup
    exact .inr (.inl ⟨xs, h1, by rw [h2.isEmpty]; exact (Option.some.inj et).symm⟩)
  | dict _ => cases et
variable {b1 b2 : Ex Bool} {rest : List Expr}
def bAnd (b1 b2 : Ex Bool) : Ex Bool := fun st M => (b1 st M).bind fun c M1 => if c = true then b2 st M1 else .ok false M1
def bOr (b1 b2 : Ex Bool) : Ex Bool := fun st M => (b1 st M).bind fun c M1 => if c = true then .ok true M1 else b2 st M1
def bNot (b1 : Ex Bool) : Ex Bool := fun st M => (b1 st M).bind fun c M1 => .ok (!c) M1
theorem sw_and1 (h : ST X P a b1) : SW X P (.BoolOp .And [a] pos) b1 := pw_and1 h
theorem sw_or1 (h : ST X P a b1) : SW X P (.BoolOp .Or [a] pos) b1 := pw_or1 h
theorem sw_and (h1 : ST X P a b1) (h2 : SW X P (.BoolOp .And (b :: rest) pos) b2) : SW X P (.BoolOp .And (a :: b :: rest) pos) (bAnd b1 b2) := by
  refine PW.imp (pw_and h1 h2) fun σ H Q h => ?_
  obtain ⟨Y, M, st, g0, fr, h⟩ := h
  refine ⟨Y, M, st, g0, fr, Post.bind (R1 := RB) shB h fun c M1 Y1 H1 x _ s1 g1 r1 q1 => ?_⟩
  cases (show x = c from r1)
  cases c with
  | true => exact ⟨Y1, M1, st, g1, fr.step g0 s1, q1⟩
  | false => exact Post.ok q1 (Step.refl Y1 H1) g1 rfl
theorem sw_or (h1 : ST X P a b1) (h2 : SW X P (.BoolOp .Or (b :: rest) pos) b2) : SW X P (.BoolOp .Or (a :: b :: rest) pos) (bOr b1 b2) := by
  refine PW.imp (pw_or h1 h2) fun σ H Q h => ?_
  obtain ⟨Y, M, st, g0, fr, h⟩ := h
  refine ⟨Y, M, st, g0, fr, Post.bind (R1 := RB) shB h fun c M1 Y1 H1 x _ s1 g1 r1 q1 => ?_⟩
  cases (show x = c from r1)
  cases c with
  | false => exact ⟨Y1, M1, st, g1, fr.step g0 s1, q1⟩
  | true => exact Post.ok q1 (Step.refl Y1 H1) g1 rfl
theorem st_sw (h : SW X P e b1) : ST X P e b1 := PW.pt h
theorem st_not (h : ST X P a b1) : ST X P (.UnaryOp .Not a pos) (bNot b1) := by
  refine PT.imp (pt_not h) fun σ H Q h => ?_
  obtain ⟨Y, M, st, g0, fr, h⟩ := h
  refine ⟨Y, M, st, g0, fr, Post.bind (R1 := RB) shB h fun c M1 Y1 H1 x _ s1 g1 r1 q1 => ?_⟩
  cases (show x = c from r1)
  exact Post.ok q1 (Step.refl Y1 H1) g1 rfl
/-- and, or, not as values: all but the last are bools -/
def eAnd (f1 f2 : Ex Val) : Ex Val := fun st M => (f1 st M).bind fun v M1 => match v with
  | .dat (.bool c) => if c = true then f2 st M1 else .ok (.dat (.bool false)) M1
  | _ => .err
def eOr (f1 f2 : Ex Val) : Ex Val := fun st M => (f1 st M).bind fun v M1 => match v with
  | .dat (.bool c) => if c = true then .ok (.dat (.bool true)) M1 else f2 st M1
  | _ => .err
def eNot (f1 : Ex Val) : Ex Val := fun st M => (f1 st M).bind fun v M1 => match v with
  | .dat (.bool c) => .ok (.dat (.bool (!c))) M1
  | _ => .err
theorem se_one {op} {f : Ex Val} (h : SE X P a f) : SE X P (.BoolOp op [a] pos) f := pe_one h
theorem se_and (h1 : SE X P a f1) (h2 : SE X P (.BoolOp .And (b :: rest) pos) f2) : SE X P (.BoolOp .And (a :: b :: rest) pos) (eAnd f1 f2) := by
  refine PE.imp (pe_and h1 h2) fun σ H Q h => ?_
  obtain ⟨Y, M, st, g0, fr, h⟩ := h
  refine ⟨Y, M, st, g0, fr, Post.bind (R1 := RV X.K) shV h fun va M1 Y1 H1 x _ s1 g1 r1 q1 => ?_⟩
  cases va with
  | dat d =>
    cases d with
    | bool c =>
      cases r1
      refine ⟨c, rfl, ?_⟩
      cases c with
      | true => exact ⟨Y1, M1, st, g1, fr.step g0 s1, q1⟩
      | false => exact Post.ok q1 (Step.refl Y1 H1) g1 (show Rp X.K Y1.F H1 (.bl false) (.bool false) from .bl false)
    | _ => exact False.elim q1
  | _ => exact False.elim q1
theorem se_or (h1 : SE X P a f1) (h2 : SE X P (.BoolOp .Or (b :: rest) pos) f2) : SE X P (.BoolOp .Or (a :: b :: rest) pos) (eOr f1 f2) := by
  refine PE.imp (pe_or h1 h2) fun σ H Q h => ?_
  obtain ⟨Y, M, st, g0, fr, h⟩ := h
  refine ⟨Y, M, st, g0, fr, Post.bind (R1 := RV X.K) shV h fun va M1 Y1 H1 x _ s1 g1 r1 q1 => ?_⟩
  cases va with
  | dat d =>
    cases d with
    | bool c =>
      cases r1
      refine ⟨c, rfl, ?_⟩
      cases c with
      | false => exact ⟨Y1, M1, st, g1, fr.step g0 s1, q1⟩
      | true => exact Post.ok q1 (Step.refl Y1 H1) g1 (show Rp X.K Y1.F H1 (.bl true) (.bool true) from .bl true)
    | _ => exact False.elim q1
  | _ => exact False.elim q1
theorem se_not (h1 : SE X P a f1) : SE X P (.UnaryOp .Not a pos) (eNot f1) := by
  refine PE.imp (pe_not h1) fun σ H Q h => ?_
  obtain ⟨Y, M, st, g0, fr, h⟩ := h
  refine ⟨Y, M, st, g0, fr, Post.bind (R1 := RV X.K) shV h fun va M1 Y1 H1 x _ s1 g1 r1 q1 => ?_⟩
  cases va with
  | dat d =>
    cases d with
    | bool c =>
      cases r1
      exact ⟨c, rfl, Post.ok q1 (Step.refl Y1 H1) g1 (show Rp X.K Y1.F H1 (.bl (!c)) (.bool (!c)) from .bl (!c))⟩
    | _ => exact False.elim q1
  | _ => exact False.elim q1
def eIf {α : Type} (b1 : Ex Bool) (f1 f2 : Ex α) : Ex α := fun st M => (b1 st M).bind fun c M1 => if c = true then f1 st M1 else f2 st M1
theorem rn_if {K : PySem.W.Frag} {α β : Type} {R : RelT α β} (hR : ShiftR K R) {f1 f2 : Ex α} {σ : L2.St} {H : Hp} {Q : β → Hp → Prop} (h : Rn K P R (eIf b1 f1 f2) σ H Q) :
    Rn K P RB b1 σ H fun c H1 => if c = true then Rn K P R f1 σ H1 Q else Rn K P R f2 σ H1 Q := by
  obtain ⟨Y, M, st, g0, fr, h⟩ := h
  refine ⟨Y, M, st, g0, fr, Post.bind (R1 := RB) hR h fun c M1 Y1 H1 x _ s1 g1 r1 q1 => ?_⟩
  cases (show x = c from r1)
  cases c with
  | true => exact ⟨Y1, M1, st, g1, fr.step g0 s1, q1⟩
  | false => exact ⟨Y1, M1, st, g1, fr.step g0 s1, q1⟩
theorem se_if (hc : ST X P c b1) (ha : SE X P a f1) (hb : SE X P b f2) : SE X P (.IfExp c a b pos) (eIf b1 f1 f2) := PE.imp (pe_ifExp hc ha hb) fun _ _ _ h => rn_if shV h
theorem sx_if {x1 x2 : Ex Sl} (hc : ST X P c b1) (ha : SX X P a x1) (hb : SX X P b x2) : SX X P (.IfExp c a b pos) (eIf b1 x1 x2) := PE.imp (pe_ifExp hc ha hb) fun _ _ _ h => rn_if shS h
end
end Mn

set_option Elab.async false
set_option linter.all false
set_option maxRecDepth 100000
set_option maxHeartbeats 4000000
namespace Mn
open PySem PySem.Spec PyProof.Rows L2

/-! ### what the operators answer -/
@[simp] def dSub : PyData → PyData → Option PyData | .int i, .int j => some (.int (i - j)) | _, _ => none
@[simp] def dMod : PyData → PyData → Option PyData | .int i, .int j => if 0 < j then some (.int (i % j)) else none | _, _ => none
@[simp] def dDiv : PyData → PyData → Option PyData | .int i, .int j => if 0 < j ∧ j < 1073741824 then some (.int (i / j)) else none | _, _ => none
@[simp] def dPow : PyData → PyData → Option PyData | .int i, .int j => if 0 ≤ j ∧ j ≤ 1000000 ∧ i.natAbs < 2 ^ 64 then some (.int (i ^ j.toNat)) else none | _, _ => none
@[simp] def dShl : PyData → PyData → Option PyData | .int i, .int j => if 0 ≤ j ∧ j ≤ 1000000 ∧ i.natAbs < 2 ^ 64 then some (.int (i * 2 ^ j.toNat)) else none | _, _ => none
@[simp] def dShr : PyData → PyData → Option PyData | .int i, .int j => if 0 ≤ j then some (.int (i / 2 ^ j.toNat)) else none | _, _ => none
@[simp] def dBand : PyData → PyData → Option PyData | .int i, .int j => some (.int (Builtin.bitAnd i j)) | _, _ => none
@[simp] def dBor : PyData → PyData → Option PyData | .int i, .int j => some (.int (Builtin.bitOr i j)) | _, _ => none
@[simp] def dBxor : PyData → PyData → Option PyData | .int i, .int j => some (.int (Builtin.bitXor i j)) | _, _ => none
@[simp] def dNeg : PyData → Option PyData | .int i => some (.int (-i)) | _ => none
@[simp] def dInv : PyData → Option PyData | .int i => some (.int (Builtin.bitNot i)) | _ => none
@[simp] def dAdd : PyData → PyData → Option Sl
  | .int i, .int j => some (.v (.dat (.int (i + j))))
  | .int i, .bool b => some (.v (.dat (.int (i + if b = true then 1 else 0))))
  | .str i, .str j => if i.length + j.length ≤ SL then some (.v (.dat (.str (i ++ j)))) else none
  | .tuple a, .tuple b => if a.length + b.length ≤ SL then some (.v (.dat (.tuple (a ++ b)))) else none
  | .list a, .list b => if a.length + b.length ≤ SL then some (.own (a ++ b)) else none
  | _, _ => none
@[simp] def dMul : PyData → PyData → Option Sl
  | .int i, .int j => if (-(2 ^ 64) < i ∧ i < 2 ^ 64) ∨ (-(2 ^ 64) < j ∧ j < 2 ^ 64) then some (.v (.dat (.int (i * j)))) else none
  | .tuple a, .int k => if k = 1 then some (.v (.dat (.tuple a))) else if a ≠ [] ∧ 2 ≤ k ∧ k ≤ 1000 ∧ a.length ≤ 1000 then some (.v (.dat (.tuple (List.replicate k.toNat a).flatten))) else none
  | .list a, .int k => if -(2 ^ 63) ≤ k ∧ k < 2 ^ 63 ∧ a.length * k.toNat ≤ SL then some (.own (List.replicate k.toNat a).flatten) else none
  | _, _ => none
@[simp] def dEq (a b : PyData) : Option PyData := if SeqAt.shaped a = true ∧ SeqAt.shaped b = true then some (.bool (PyData.eqv a b)) else none
@[simp] def dNe (a b : PyData) : Option PyData := if SeqAt.shaped a = true ∧ SeqAt.shaped b = true then some (.bool (!PyData.eqv a b)) else none
@[simp] def dLt : PyData → PyData → Option PyData | .int i, .int j => some (.bool (decide (i < j))) | _, _ => none
@[simp] def dLe : PyData → PyData → Option PyData | .int i, .int j => some (.bool (decide (i ≤ j))) | _, _ => none
@[simp] def dGt : PyData → PyData → Option PyData | .int i, .int j => some (.bool (decide (j < i))) | _, _ => none
@[simp] def dGe : PyData → PyData → Option PyData | .int i, .int j => some (.bool (decide (j ≤ i))) | _, _ => none
@[simp] def dIsN : PyData → PyData → Option PyData | .none, .none => some (.bool true) | _, .none => some (.bool false) | _, _ => none
@[simp] def dNotN : PyData → PyData → Option PyData | .none, .none => some (.bool false) | _, .none => some (.bool true) | _, _ => none
@[simp] def dIn : PyData → PyData → Option PyData
  | d, .list ds => if SeqAt.shaped d = true ∧ SeqAt.shaped (.list ds) = true then some (.bool (ds.any fun z => PyData.eqv z d)) else none
  | d, .tuple ds => if SeqAt.shaped d = true ∧ SeqAt.shaped (.tuple ds) = true then some (.bool (ds.any fun z => PyData.eqv z d)) else none
  | .str i, .str j => some (.bool (!(Builtin.Str.occurrences j i 0 j.length 1).isEmpty))
  | _, _ => none
@[simp] def dNotIn : PyData → PyData → Option PyData
  | d, .list ds => if SeqAt.shaped d = true ∧ SeqAt.shaped (.list ds) = true then some (.bool (!ds.any fun z => PyData.eqv z d)) else none
  | d, .tuple ds => if SeqAt.shaped d = true ∧ SeqAt.shaped (.tuple ds) = true then some (.bool (!ds.any fun z => PyData.eqv z d)) else none
  | .str i, .str j => some (.bool (!(!(Builtin.Str.occurrences j i 0 j.length 1).isEmpty)))
  | _, _ => none

section
variable {X : Cx}
/-- x in t, x not in t: a tuple of data -/
def rInT (K : PySem.W.Frag) : R2 := fun x y H Q => ∃ d ds, Dp K H x d ∧ Dp K H y (.tuple ds) ∧ SeqAt.shaped d = true ∧ SeqAt.shaped (.tuple ds) = true ∧ Q (.bl (ds.any fun z => PyData.eqv z d)) H
def rNotInT (K : PySem.W.Frag) : R2 := fun x y H Q => ∃ d ds, Dp K H x d ∧ Dp K H y (.tuple ds) ∧ SeqAt.shaped d = true ∧ SeqAt.shaped (.tuple ds) = true ∧ Q (.bl (!ds.any fun z => PyData.eqv z d)) H
theorem room_shapedT {A : Around} {ds : List PyData} {d : PyData} (h : SeqAt.shaped d = true) (hu : A.units + 65 < cLine) : A.units + 1 + min (PyData.depthAll ds) d.depth < cLine := by
  have h1 := SeqAt.depth_of_shaped h
  have h2 : min (PyData.depthAll ds) d.depth ≤ d.depth := Nat.min_le_right _ _
  omega
theorem op_inT (hu : X.A.units + 65 < cLine) : OpR X (compareOp .In) (rInT X.K) := by
  intro pins s σ H x y v u Q I rx ry h
  obtain ⟨d, ds, hd, he, sd, se, q⟩ := h
  obtain ⟨as, r1⟩ := Dp.reads I d x v hd rx
  obtain ⟨bs, r2⟩ := Dp.reads I (.tuple ds) y u he ry
  exact SeqAt.in_tuple_reads r2 r1 (SeqAt.canLay_of_shaped se) (SeqAt.canLay_of_shaped sd) (room_shapedT sd hu) ⟨.bl _, H, I, rfl, q⟩
theorem op_notInT (hu : X.A.units + 65 < cLine) : OpR X (compareOp .NotIn) (rNotInT X.K) := by
  intro pins s σ H x y v u Q I rx ry h
  obtain ⟨d, ds, hd, he, sd, se, q⟩ := h
  obtain ⟨as, r1⟩ := Dp.reads I d x v hd rx
  obtain ⟨bs, r2⟩ := Dp.reads I (.tuple ds) y u he ry
  exact SeqAt.notIn_tuple_reads r2 r1 (SeqAt.canLay_of_shaped se) (SeqAt.canLay_of_shaped sd) (room_shapedT sd hu) ⟨.bl _, H, I, rfl, q⟩
end
section
variable {K : PySem.W.Frag}
/-- two ints -/
theorem p2i {f : Int → Int → Int} {g : PyData → PyData → Option PyData} (hg : ∀ a b d, g a b = some d → ∃ i j, a = .int i ∧ b = .int j ∧ d = .int (f i j)) : Prim2 K (rI0 fun i j => .int (f i j)) g := by
  intro Y M H x y da db d Q g0 dx dy e q
  obtain ⟨i, j, rfl, rfl, rfl⟩ := hg _ _ _ e
  exact ⟨i, j, dx.int, dy.int, q Y H _ (Step.refl Y H) g0 (.int _)⟩
theorem p2ic {C : Int → Int → Prop} {f : Int → Int → Int} {g : PyData → PyData → Option PyData} (hg : ∀ a b d, g a b = some d → ∃ i j, a = .int i ∧ b = .int j ∧ C i j ∧ d = .int (f i j)) : Prim2 K (rI C fun i j => .int (f i j)) g := by
  intro Y M H x y da db d Q g0 dx dy e q
  obtain ⟨i, j, rfl, rfl, hc, rfl⟩ := hg _ _ _ e
  exact ⟨i, j, dx.int, dy.int, hc, q Y H _ (Step.refl Y H) g0 (.int _)⟩
theorem p2b {f : Int → Int → Bool} {g : PyData → PyData → Option PyData} (hg : ∀ a b d, g a b = some d → ∃ i j, a = .int i ∧ b = .int j ∧ d = .bool (f i j)) : Prim2 K (rI0 fun i j => .bl (f i j)) g := by
  intro Y M H x y da db d Q g0 dx dy e q
  obtain ⟨i, j, rfl, rfl, rfl⟩ := hg _ _ _ e
  exact ⟨i, j, dx.int, dy.int, q Y H _ (Step.refl Y H) g0 (.bl _)⟩
theorem inv2 {f : Int → Int → PyData} {a b d : PyData} (h : (match a, b with | .int i, .int j => some (f i j) | _, _ => none) = some d) : ∃ i j, a = .int i ∧ b = .int j ∧ d = f i j := by
  cases a with
  | int i =>
    cases b with
    | int j => exact ⟨i, j, rfl, rfl, (Option.some.inj h).symm⟩
    | _ => cases h
  | _ => cases h
theorem inv2c {C : Int → Int → Prop} [∀ i j, Decidable (C i j)] {f : Int → Int → PyData} {a b d : PyData} (h : (match a, b with | .int i, .int j => if C i j then some (f i j) else none | _, _ => none) = some d) : ∃ i j, a = .int i ∧ b = .int j ∧ C i j ∧ d = f i j := by
  cases a with
  | int i =>
    cases b with
    | int j =>
      have h : (if C i j then some (f i j) else none) = some d := h
      by_cases hc : C i j
      · rw [if_pos hc] at h
        exact ⟨i, j, rfl, rfl, hc, (Option.some.inj h).symm⟩
      · rw [if_neg hc] at h; cases h
    | _ => cases h
  | _ => cases h
theorem p_sub : Prim2 K (rI0 fun i j => .int (i - j)) dSub := p2i fun a b d h => inv2 (f := fun i j => .int (i - j)) h
theorem p_mod : Prim2 K (rI (fun _ j => 0 < j) fun i j => .int (i % j)) dMod := p2ic fun a b d h => inv2c (C := fun i j => 0 < j) (f := fun i j => .int (i % j)) h
theorem p_div : Prim2 K (rI CDiv fun i j => .int (i / j)) dDiv := p2ic fun a b d h => inv2c (C := fun i j => 0 < j ∧ j < 1073741824) (f := fun i j => .int (i / j)) h
theorem p_pow : Prim2 K (rI CPow fun i j => .int (i ^ j.toNat)) dPow := p2ic fun a b d h => inv2c (C := fun i j => 0 ≤ j ∧ j ≤ 1000000 ∧ i.natAbs < 2 ^ 64) (f := fun i j => .int (i ^ j.toNat)) h
theorem p_shl : Prim2 K (rI CPow fun i j => .int (i * 2 ^ j.toNat)) dShl := p2ic fun a b d h => inv2c (C := fun i j => 0 ≤ j ∧ j ≤ 1000000 ∧ i.natAbs < 2 ^ 64) (f := fun i j => .int (i * 2 ^ j.toNat)) h
theorem p_shr : Prim2 K (rI (fun _ j => 0 ≤ j) fun i j => .int (i / 2 ^ j.toNat)) dShr := p2ic fun a b d h => inv2c (C := fun i j => 0 ≤ j) (f := fun i j => .int (i / 2 ^ j.toNat)) h
theorem p_band : Prim2 K (rI0 fun i j => .int (Builtin.bitAnd i j)) dBand := p2i fun a b d h => inv2 (f := fun i j => .int (Builtin.bitAnd i j)) h
theorem p_bor : Prim2 K (rI0 fun i j => .int (Builtin.bitOr i j)) dBor := p2i fun a b d h => inv2 (f := fun i j => .int (Builtin.bitOr i j)) h
theorem p_bxor : Prim2 K (rI0 fun i j => .int (Builtin.bitXor i j)) dBxor := p2i fun a b d h => inv2 (f := fun i j => .int (Builtin.bitXor i j)) h
theorem p_lt : Prim2 K (rI0 fun i j => .bl (decide (i < j))) dLt := p2b fun a b d h => inv2 (f := fun i j => .bool (decide (i < j))) h
theorem p_le : Prim2 K (rI0 fun i j => .bl (decide (i ≤ j))) dLe := p2b fun a b d h => inv2 (f := fun i j => .bool (decide (i ≤ j))) h
theorem p_gt : Prim2 K (rI0 fun i j => .bl (decide (j < i))) dGt := p2b fun a b d h => inv2 (f := fun i j => .bool (decide (j < i))) h
theorem p_ge : Prim2 K (rI0 fun i j => .bl (decide (j ≤ i))) dGe := p2b fun a b d h => inv2 (f := fun i j => .bool (decide (j ≤ i))) h
theorem p_eq : Prim2 K (rEqD K) dEq := by
  intro Y M H x y da db d Q g0 dx dy e q
  unfold dEq at e
  by_cases hc : SeqAt.shaped da = true ∧ SeqAt.shaped db = true
  · rw [if_pos hc] at e
    cases e
    exact ⟨da, db, dx.dp, dy.dp, hc.1, hc.2, q Y H _ (Step.refl Y H) g0 (.bl _)⟩
  · rw [if_neg hc] at e; cases e
theorem p_ne : Prim2 K (rNeD K) dNe := by
  intro Y M H x y da db d Q g0 dx dy e q
  unfold dNe at e
  by_cases hc : SeqAt.shaped da = true ∧ SeqAt.shaped db = true
  · rw [if_pos hc] at e
    cases e
    exact ⟨da, db, dx.dp, dy.dp, hc.1, hc.2, q Y H _ (Step.refl Y H) g0 (.bl _)⟩
  · rw [if_neg hc] at e; cases e
theorem p_in : Prim2 K (fun x y H Q => (rInD K x y H Q ∨ rInT K x y H Q) ∨ ∃ i j, x = .str i ∧ y = .str j ∧ Q (.bl (!(Builtin.Str.occurrences j i 0 j.length 1).isEmpty)) H) dIn := by
  intro Y M H x y da db d Q g0 dx dy e q
  cases db with
  | list ds =>
    have e : (if SeqAt.shaped da = true ∧ SeqAt.shaped (.list ds) = true then some (PyData.bool (ds.any fun z => PyData.eqv z da)) else none) = some d := e
    by_cases hc : SeqAt.shaped da = true ∧ SeqAt.shaped (.list ds) = true
    · rw [if_pos hc] at e
      cases e
      exact .inl (.inl ⟨da, ds, dx.dp, dy.dp, hc.1, hc.2, q Y H _ (Step.refl Y H) g0 (.bl _)⟩)
    · rw [if_neg hc] at e; cases e
  | tuple ds =>
    have e : (if SeqAt.shaped da = true ∧ SeqAt.shaped (.tuple ds) = true then some (PyData.bool (ds.any fun z => PyData.eqv z da)) else none) = some d := e
    by_cases hc : SeqAt.shaped da = true ∧ SeqAt.shaped (.tuple ds) = true
    · rw [if_pos hc] at e
      cases e
      exact .inl (.inr ⟨da, ds, dx.dp, dy.dp, hc.1, hc.2, q Y H _ (Step.refl Y H) g0 (.bl _)⟩)
    · rw [if_neg hc] at e; cases e
  | str j =>
    cases da with
    | str i =>
      cases e
      exact .inr ⟨i, j, dx.str, dy.str, q Y H _ (Step.refl Y H) g0 (.bl _)⟩
    | _ => cases e
  | _ => cases da <;> cases e
theorem p_notIn : Prim2 K (fun x y H Q => (rNotInD K x y H Q ∨ rNotInT K x y H Q) ∨ ∃ i j, x = .str i ∧ y = .str j ∧ Q (.bl (!(!(Builtin.Str.occurrences j i 0 j.length 1).isEmpty))) H) dNotIn := by
  intro Y M H x y da db d Q g0 dx dy e q
  cases db with
  | list ds =>
    have e : (if SeqAt.shaped da = true ∧ SeqAt.shaped (.list ds) = true then some (PyData.bool (!ds.any fun z => PyData.eqv z da)) else none) = some d := e
    by_cases hc : SeqAt.shaped da = true ∧ SeqAt.shaped (.list ds) = true
    · rw [if_pos hc] at e
      cases e
      exact .inl (.inl ⟨da, ds, dx.dp, dy.dp, hc.1, hc.2, q Y H _ (Step.refl Y H) g0 (.bl _)⟩)
    · rw [if_neg hc] at e; cases e
  | tuple ds =>
    have e : (if SeqAt.shaped da = true ∧ SeqAt.shaped (.tuple ds) = true then some (PyData.bool (!ds.any fun z => PyData.eqv z da)) else none) = some d := e
    by_cases hc : SeqAt.shaped da = true ∧ SeqAt.shaped (.tuple ds) = true
    · rw [if_pos hc] at e
      cases e
      exact .inl (.inr ⟨da, ds, dx.dp, dy.dp, hc.1, hc.2, q Y H _ (Step.refl Y H) g0 (.bl _)⟩)
    · rw [if_neg hc] at e; cases e
  | str j =>
    cases da with
    | str i =>
      cases e
      exact .inr ⟨i, j, dx.str, dy.str, q Y H _ (Step.refl Y H) g0 (.bl _)⟩
    | _ => cases e
  | _ => cases da <;> cases e
theorem p_isN : Prim2 K (fun x y H Q => y = .non ∧ Q (.bl (decide (x = .non))) H) dIsN := by
  intro Y M H x y da db d Q g0 dx dy e q
  cases db with
  | none =>
    refine ⟨dy.non, ?_⟩
    rw [dx.isnon]
    cases da <;> (cases e; exact q Y H _ (Step.refl Y H) g0 (.bl _))
  | _ => cases da <;> cases e
theorem p_notN : Prim2 K (fun x y H Q => y = .non ∧ Q (.bl (!decide (x = .non))) H) dNotN := by
  intro Y M H x y da db d Q g0 dx dy e q
  cases db with
  | none =>
    refine ⟨dy.non, ?_⟩
    rw [dx.isnon]
    cases da <;> (cases e; exact q Y H _ (Step.refl Y H) g0 (.bl _))
  | _ => cases da <;> cases e
theorem p_neg : Prim1 K (rU fun i => .int (-i)) dNeg := by
  intro Y M H x da d Q g0 dx e q
  cases da with
  | int i => cases e; exact ⟨i, dx.int, q Y H _ (Step.refl Y H) g0 (.int _)⟩
  | _ => cases e
theorem p_inv : Prim1 K (rU fun i => .int (Builtin.bitNot i)) dInv := by
  intro Y M H x da d Q g0 dx e q
  cases da with
  | int i => cases e; exact ⟨i, dx.int, q Y H _ (Step.refl Y H) g0 (.int _)⟩
  | _ => cases e
/-- the readings of + -/
abbrev rAddAll (K : PySem.W.Frag) : R2 := fun x y H Q =>
  ((fun x y H Q => (rI0 fun i j => .int (i + j)) x y H Q ∨ (fun x y H Q => ∃ i j, x = V.str i ∧ y = .str j ∧ i.length + j.length ≤ sizeLine ∧ Q (.str (i ++ j)) H) x y H Q : R2) x y H Q) ∨ ((fun x y H Q => rCatA K x y H Q ∨ rCat x y H Q : R2) x y H Q)
theorem op_addAll {X : Cx} : OpR X (binaryOp .Add) (rAddAll X.K) := OpR.or (OpR.or op_add op_add_str) (OpR.or op_catA op_cat)
/-- an int and a bool -/
def rAddB : R2 := fun x y H Q => ∃ i b, x = V.int i ∧ y = V.bl b ∧ Q (.int (i + if b = true then 1 else 0)) H
theorem op_addB {X : Cx} : OpR X (binaryOp .Add) rAddB := by
  rintro pins s σ H x y v u Q I rx ry ⟨i, b, rfl, rfl, q⟩
  obtain ⟨t, rfl⟩ := rx
  cases ry
  exact PySem.add_int_bool ⟨.int _, H, I.tok _, ⟨_, rfl⟩, q⟩
theorem op_addAll2 {X : Cx} : OpR X (binaryOp .Add) (fun x y H Q => rAddAll X.K x y H Q ∨ rAddB x y H Q) := OpR.or op_addAll op_addB
theorem p_add : Prim2S K (fun x y H Q => rAddAll K x y H Q ∨ rAddB x y H Q) dAdd := by
  intro Y M H x y da db s Q g0 dx dy e q
  cases da with
  | int i =>
    cases db with
    | int j =>
      cases e
      exact .inl (.inl (.inl ⟨i, j, dx.dr.int, dy.dr.int, q Y H _ (Step.refl Y H) g0 (show Rp K Y.F H _ _ from .int _)⟩))
    | bool b =>
      cases e
      exact .inr ⟨i, b, dx.dr.int, dy.dr.bl, q Y H _ (Step.refl Y H) g0 (show Rp K Y.F H _ _ from .int _)⟩
    | _ => cases e
  | str i =>
    cases db with
    | str j =>
      have e : (if i.length + j.length ≤ SL then some (Sl.v (.dat (.str (i ++ j)))) else none) = some s := e
      by_cases hc : i.length + j.length ≤ SL
      · rw [if_pos hc] at e
        cases e
        exact .inl (.inl (.inr ⟨i, j, dx.dr.str, dy.dr.str, by rw [sl_eq]; exact hc, q Y H _ (Step.refl Y H) g0 (show Rp K Y.F H _ _ from .str _)⟩))
      · rw [if_neg hc] at e; cases e
    | _ => cases e
  | tuple a =>
    cases db with
    | tuple b =>
      have e : (if a.length + b.length ≤ SL then some (Sl.v (.dat (.tuple (a ++ b)))) else none) = some s := e
      by_cases hc : a.length + b.length ≤ SL
      · rw [if_pos hc] at e
        cases e
        obtain ⟨p1, xs, rfl, t1, r1⟩ := dx.dr.tupT
        obtain ⟨p2, ys, rfl, t2, r2⟩ := dy.dr.tupT
        refine .inl (.inr (.inl ⟨p1, p2, xs, ys, rfl, rfl, .inl (.inl t1), .inl (.inl t2), by rw [r1.length, r2.length, sl_eq]; exact hc, fun hx => ?_, fun _ hy => ?_, fun _ _ p hp => ?_⟩))
        · subst hx
          have ha : a = [] := List.eq_nil_of_length_eq_zero r1.length.symm
          subst ha
          exact q Y H _ (Step.refl Y H) g0 (show Rp K Y.F H _ _ from .tup t2 r2)
        · subst hy
          have hb : b = [] := List.eq_nil_of_length_eq_zero r2.length.symm
          subst hb
          refine q Y H _ (Step.refl Y H) g0 (show Rp K Y.F H _ _ from ?_)
          rw [List.append_nil]
          exact .tup t1 r1
        · exact q Y _ _ (Step.laid hp) (g0.laid hp) (show Rp K Y.F _ _ _ from Rp.newT g0 hp (r1.append r2))
      · rw [if_neg hc] at e; cases e
    | _ => cases e
  | list a =>
    cases db with
    | list b =>
      have e : (if a.length + b.length ≤ SL then some (Sl.own (a ++ b)) else none) = some s := e
      by_cases hc : a.length + b.length ≤ SL
      · rw [if_pos hc] at e
        cases e
        obtain ⟨p1, xs, rfl, t1, r1⟩ := dx.lst
        obtain ⟨p2, ys, rfl, t2, r2⟩ := dy.lst
        exact .inl (.inr (.inr ⟨p1, p2, xs, ys, rfl, rfl, t1, t2, by rw [r1.length, r2.length, sl_eq]; exact hc, fun p hp => q Y _ _ (Step.laid hp) (g0.laid hp) ⟨p, rfl, Ow.new g0 hp (r1.append r2), hp⟩⟩))
      · rw [if_neg hc] at e; cases e
    | _ => cases e
  | _ => cases db <;> cases e
/-- t * 1: t itself -/
theorem tuple_mul1 (l : Addr) (items : Array Value) (n : Nat) (dd : Option Addr) (sl : Array (Option Value)) (u : Tok) :
    Meets (Builtin.«tuple.__mul__» ⟨[.ref l, .int 1 u], []⟩) (fun _ R s => s.heap.get? l = some { cls := .type "tuple", dict := dd, data := .seq items n, slots := sl } ∧ R (.ok (.ret (Value.ref l))) s) :=
  .of_wp fun prog w A R s h => by
    obtain ⟨hp, g, d, tk, os⟩ := s
    obtain ⟨hl, h⟩ := h
    have f1 := AutoSeq1.idx_int
    have c1 : (items.isEmpty || (1 : Int) == 1) = true := by rw [show ((1 : Int) == 1) = true from rfl, Bool.or_true]
    wp_walk using wpAny_loadPart' hl
    exact ⟨_, rfl, h⟩
def rRep1 (K : PySem.W.Frag) : R2 := fun x y H Q => ∃ l xs, x = .ref l ∧ y = .int 1 ∧ SqT K H l xs ∧ Q x H
theorem op_rep1 {X : Cx} : OpR X (binaryOp .Mult) (rRep1 X.K) := by
  rintro pins s σ H x y v u Q I rx ry ⟨l, xs, rfl, rfl, hT, q⟩
  cases rx
  obtain ⟨t, rfl⟩ := ry
  obtain ⟨its, r, ⟨⟨cls, dd, data, sl⟩, ho, hc, n, hd⟩, hs⟩ := I.tuple hT
  simp only at hc hd
  subst hc hd
  exact wpAny_binaryOp_repeat_ref (T := "tuple") (U := "int") (by decide) ⟨_, ho, rfl⟩ (fun s' => typeIs_int s' 1 t) noFill_tuple_mul F.fills_int_mul F.slot_int_rmul repeat_tuple F.slot_int_index.lookup
    (call_meets F.slot_int_rmul (typeIs_int s 1 t) F.entry_int_rmul (F.args_int_rmul_2 _ _) (int_rmul_tuple 1 t l its.toArray n dd sl)
      ⟨ho, rfl, ⟨_, ho, rfl⟩, call_meets F.slot_tuple_mul ⟨_, ho, rfl⟩ F.entry_tuple_mul (F.args_tuple_mul_2 _ _) (tuple_mul1 l its.toArray n dd sl t) ⟨ho, ⟨.ref l, H, I, rfl, q⟩⟩⟩)
abbrev rMulAll (K : PySem.W.Frag) : R2 := fun x y H Q => (rI CMul fun i j => .int (i * j)) x y H Q ∨ ((fun x y H Q => (rRepT K x y H Q ∨ rRep1 K x y H Q) ∨ rRep x y H Q : R2) x y H Q)
theorem op_mulAll {X : Cx} : OpR X (binaryOp .Mult) (rMulAll X.K) := OpR.or op_mul (OpR.or (OpR.or op_repT op_rep1) op_rep)
theorem RpA.reps {F : Addr → Prop} {H : Hp} {xs : List V} {ds : List PyData} (h : RpA K F H xs ds) : ∀ n : Nat, RpA K F H (List.replicate n xs).flatten (List.replicate n ds).flatten
  | 0 => .nil
  | n + 1 => by
    rw [List.replicate_succ, List.replicate_succ, List.flatten_cons, List.flatten_cons]
    exact h.append (RpA.reps h n)
theorem p_mul : Prim2S K (rMulAll K) dMul := by
  intro Y M H x y da db s Q g0 dx dy e q
  cases da with
  | int i =>
    cases db with
    | int j =>
      have e : (if (-(2 ^ 64) < i ∧ i < 2 ^ 64) ∨ (-(2 ^ 64) < j ∧ j < 2 ^ 64) then some (Sl.v (.dat (.int (i * j)))) else none) = some s := e
      by_cases hc : (-(2 ^ 64) < i ∧ i < 2 ^ 64) ∨ (-(2 ^ 64) < j ∧ j < 2 ^ 64)
      · rw [if_pos hc] at e
        cases e
        exact .inl ⟨i, j, dx.dr.int, dy.dr.int, hc, q Y H _ (Step.refl Y H) g0 (show Rp K Y.F H _ _ from .int _)⟩
      · rw [if_neg hc] at e; cases e
    | _ => cases e
  | tuple a =>
    cases db with
    | int k =>
      have e : (if k = 1 then some (Sl.v (.dat (.tuple a))) else if a ≠ [] ∧ 2 ≤ k ∧ k ≤ 1000 ∧ a.length ≤ 1000 then some (Sl.v (.dat (.tuple (List.replicate k.toNat a).flatten))) else none) = some s := e
      obtain ⟨p1, xs, rfl, tt1, r1⟩ := dx.dr.tupT
      have t1 : SqT K H p1 xs := .inl (.inl tt1)
      by_cases h1 : k = 1
      · rw [if_pos h1] at e
        cases e
        subst h1
        exact .inr (.inl (.inr ⟨p1, xs, rfl, dy.dr.int, t1, q Y H _ (Step.refl Y H) g0 (show Rp K Y.F H _ _ from .tup tt1 r1)⟩))
      rw [if_neg h1] at e
      by_cases hc : a ≠ [] ∧ 2 ≤ k ∧ k ≤ 1000 ∧ a.length ≤ 1000
      · rw [if_pos hc] at e
        cases e
        obtain ⟨h1, h2, h3, h4⟩ := hc
        refine .inr (.inl (.inl ⟨p1, k, xs, rfl, dy.dr.int, t1, fun hx => h1 ?_, h2, h3, by rw [r1.length]; exact h4, fun p hp => ?_⟩))
        · subst hx
          exact List.eq_nil_of_length_eq_zero r1.length.symm
        · exact q Y _ _ (Step.laid hp) (g0.laid hp) (show Rp K Y.F _ _ _ from Rp.newT g0 hp (r1.reps _))
      · rw [if_neg hc] at e; cases e
    | _ => cases e
  | list a =>
    cases db with
    | int k =>
      have e : (if -(2 ^ 63) ≤ k ∧ k < 2 ^ 63 ∧ a.length * k.toNat ≤ SL then some (Sl.own (List.replicate k.toNat a).flatten) else none) = some s := e
      by_cases hc : -(2 ^ 63) ≤ k ∧ k < 2 ^ 63 ∧ a.length * k.toNat ≤ SL
      · rw [if_pos hc] at e
        cases e
        obtain ⟨p1, xs, rfl, t1, r1⟩ := dx.lst
        obtain ⟨h1, h2, h3⟩ := hc
        exact .inr (.inr ⟨p1, k, xs, rfl, dy.dr.int, t1, h1, h2, by rw [r1.length, sl_eq]; exact h3, fun p hp => q Y _ _ (Step.laid hp) (g0.laid hp) ⟨p, rfl, Ow.new g0 hp (r1.reps _), hp⟩⟩)
      · rw [if_neg hc] at e; cases e
    | _ => cases e
  | _ => cases db <;> cases e
end
/-! ### the operators in short -/
section
variable {X : Cx} {P : Pm} {a b c : Expr} {pos : Pos} {f1 f2 f3 : Ex Val}
theorem sx_add (ha : SE X P a f1) (hb : SE X P b f2) : SX X P (.BinOp a .Add b pos) (xOp2 dAdd f1 f2) := sx_op op_addAll2 p_add ha hb
theorem sx_mul (ha : SE X P a f1) (hb : SE X P b f2) : SX X P (.BinOp a .Mult b pos) (xOp2 dMul f1 f2) := sx_op op_mulAll p_mul ha hb
theorem se_sub (ha : SE X P a f1) (hb : SE X P b f2) : SE X P (.BinOp a .Sub b pos) (eOp2 dSub f1 f2) := se_op op_sub p_sub ha hb
theorem se_mod (ha : SE X P a f1) (hb : SE X P b f2) : SE X P (.BinOp a .Mod b pos) (eOp2 dMod f1 f2) := se_op op_mod p_mod ha hb
theorem se_div (ha : SE X P a f1) (hb : SE X P b f2) : SE X P (.BinOp a .FloorDiv b pos) (eOp2 dDiv f1 f2) := se_op op_fdiv p_div ha hb
theorem se_pow (ha : SE X P a f1) (hb : SE X P b f2) : SE X P (.BinOp a .Pow b pos) (eOp2 dPow f1 f2) := se_op op_pow p_pow ha hb
theorem se_shl (ha : SE X P a f1) (hb : SE X P b f2) : SE X P (.BinOp a .LShift b pos) (eOp2 dShl f1 f2) := se_op op_shl p_shl ha hb
theorem se_shr (ha : SE X P a f1) (hb : SE X P b f2) : SE X P (.BinOp a .RShift b pos) (eOp2 dShr f1 f2) := se_op op_shr p_shr ha hb
theorem se_band (ha : SE X P a f1) (hb : SE X P b f2) : SE X P (.BinOp a .BitAnd b pos) (eOp2 dBand f1 f2) := se_op op_and p_band ha hb
theorem se_bor (ha : SE X P a f1) (hb : SE X P b f2) : SE X P (.BinOp a .BitOr b pos) (eOp2 dBor f1 f2) := se_op op_or p_bor ha hb
theorem se_bxor (ha : SE X P a f1) (hb : SE X P b f2) : SE X P (.BinOp a .BitXor b pos) (eOp2 dBxor f1 f2) := se_op op_xor p_bxor ha hb
theorem se_neg (ha : SE X P a f1) : SE X P (.UnaryOp .USub a pos) (eUn dNeg f1) := se_un un_neg p_neg ha
theorem se_inv (ha : SE X P a f1) : SE X P (.UnaryOp .Invert a pos) (eUn dInv f1) := se_un un_inv p_inv ha
/-- a comparison: its rule -/
structure CmpR (X : Cx) (op : CmpOp) (g : PyData → PyData → Option PyData) : Prop where
  ex : ∃ r, OpR X (compareOp op) r ∧ Prim2 X.K r g
theorem cr_eq {k : Nat} (hr : Room k X.A) : CmpR X .Eq dEq := ⟨_, op_eqD hr.units, p_eq⟩
theorem cr_ne {k : Nat} (hr : Room k X.A) : CmpR X .NotEq dNe := ⟨_, op_neD hr.units, p_ne⟩
theorem cr_lt : CmpR X .Lt dLt := ⟨_, op_lt, p_lt⟩
theorem cr_le : CmpR X .LtE dLe := ⟨_, op_le, p_le⟩
theorem cr_gt : CmpR X .Gt dGt := ⟨_, op_gt, p_gt⟩
theorem cr_ge : CmpR X .GtE dGe := ⟨_, op_ge, p_ge⟩
theorem Room.u65 {k : Nat} {A : Around} (hr : Room k A) : A.units + 65 < cLine := by have := hr.un; omega
theorem cr_in {k : Nat} (hr : Room k X.A) : CmpR X .In dIn := ⟨_, OpR.or (OpR.or (op_inD (Room.u65 hr)) (op_inT (Room.u65 hr))) op_in_str, p_in⟩
theorem cr_notIn {k : Nat} (hr : Room k X.A) : CmpR X .NotIn dNotIn := ⟨_, OpR.or (OpR.or (op_notInD (Room.u65 hr)) (op_notInT (Room.u65 hr))) op_notIn_str, p_notIn⟩
theorem cr_is : CmpR X .Is dIsN := ⟨_, op_isN, p_isN⟩
theorem cr_isnot : CmpR X .IsNot dNotN := ⟨_, op_notN, p_notN⟩
theorem se_c {op : CmpOp} {g : PyData → PyData → Option PyData} (hc : CmpR X op g) (ha : SE X P a f1) (hb : SE X P b f2) (hm : behindInMarks op b = false := by rfl) : SE X P (.Compare a [op] [b] pos) (eOp2 g f1 f2) := by
  obtain ⟨r, h1, h2⟩ := hc.ex
  exact se_cmp h1 h2 hm ha hb
theorem st_c {op : CmpOp} {g : PyData → PyData → Option PyData} (hc : CmpR X op g) (ha : SE X P a f1) (hb : SE X P b f2) (hm : behindInMarks op b = false := by rfl) : ST X P (.Compare a [op] [b] pos) (toB (eOp2 g f1 f2)) := by
  obtain ⟨r, h1, h2⟩ := hc.ex
  exact st_cmp h1 h2 hm ha hb
theorem se_cc {op op' : CmpOp} {g g' : PyData → PyData → Option PyData} (h1 : CmpR X op g) (h2 : CmpR X op' g') (ha : SE X P a f1) (hb : SE X P b f2) (hc : SE X P c f3) (hm : lastMarks [op, op'] [b, c] = false := by rfl) : SE X P (.Compare a [op, op'] [b, c] pos) (eChain g g' f1 f2 f3) := by
  obtain ⟨r, p1, p2⟩ := h1.ex
  obtain ⟨r', p3, p4⟩ := h2.ex
  exact se_chain p1 p2 p3 p4 ha hb hc hm
theorem st_cc {op op' : CmpOp} {g g' : PyData → PyData → Option PyData} (h1 : CmpR X op g) (h2 : CmpR X op' g') (ha : SE X P a f1) (hb : SE X P b f2) (hc : SE X P c f3) (hm : lastMarks [op, op'] [b, c] = false := by rfl) : ST X P (.Compare a [op, op'] [b, c] pos) (toB (eChain g g' f1 f2 f3)) := by
  obtain ⟨r, p1, p2⟩ := h1.ex
  obtain ⟨r', p3, p4⟩ := h2.ex
  exact st_chain p1 p2 p3 p4 ha hb hc hm
end
end Mn

set_option Elab.async false
set_option linter.all false
set_option maxRecDepth 100000
set_option maxHeartbeats 4000000
namespace Mn
open PySem PySem.Spec PyProof.Rows L2

/-! ### places -/
/-- a[i] -/
def at1 (d : PyData) (i : Int) : Option PyData := match d with
  | .list ds => atI ds i
  | .tuple ds => atI ds i
  | .str z => if z.length ≤ SL then (atI z.cps.toList i).map fun c => .str ⟨#[c]⟩ else none
  | _ => none
def ixVal (st : MSt) (M : MH) (a : Val) (i : Int) : Option Val := match a with
  | .loc n => match M[n]? with
    | some (.lst vs) => atI vs i
    | _ => none
  | v => (deref st M v).bind fun d => (at1 d i).map .dat
@[simp] theorem ixVal_dat (st : MSt) (M : MH) (d : PyData) (i : Int) : ixVal st M (.dat d) i = (at1 d i).map .dat := nofl rfl
def intOf : Val → Option Int
  | .dat (.int i) => some i
  | _ => none
@[simp] theorem intOf_int (i : Int) : intOf (.dat (.int i)) = some i := nofl rfl
theorem intOf_some {v : Val} {i : Int} (h : intOf v = some i) : v = .dat (.int i) := by
  cases v with
  | dat d => cases d with
    | int j => cases h; rfl
    | _ => cases h
  | _ => cases h
def eIx (f1 f2 : Ex Val) : Ex Val := fun st M => (f1 st M).bind fun a M1 => (f2 st M1).bind fun b M2 => Out.ofOpt ((intOf b).bind fun i => ixVal st M2 a i) M2
section
variable {K : PySem.W.Frag} {Y : Wd} {H : Hp} {M : MH} {st : MSt} {σ : L2.St}
theorem atI_rp {F : Addr → Prop} {ds : List PyData} {xs : List V} (r : RpA K F H xs ds) {i : Int} {d : PyData} (h : atI ds i = some d) : ∃ x, atI xs i = some x ∧ Rp K F H x d := by
  unfold atI at h ⊢
  rw [r.length]
  cases q : ixN ds.length i with
  | none => rw [q] at h; cases h
  | some j =>
    rw [q] at h
    obtain ⟨x, hx, rx⟩ := r.get (show ds[j]? = some d from h)
    exact ⟨x, hx, rx⟩
theorem atI_pr {α β : Type} {F : α → β → Prop} {xs : List α} {vs : List β} (r : Paired F xs vs) {i : Int} {v : β} (h : atI vs i = some v) : ∃ x, atI xs i = some x ∧ F x v := by
  unfold atI at h ⊢
  rw [Paired.length r]
  cases q : ixN vs.length i with
  | none => rw [q] at h; cases h
  | some j =>
    rw [q] at h
    obtain ⟨x, hx, rx⟩ := Paired.get r (show vs[j]? = some v from h)
    exact ⟨x, hx, rx⟩
theorem VRp.int {x : V} {i : Int} (h : VRp K Y H st σ x (.dat (.int i))) : x = .int i := by
  cases h; rfl
/-- the item at a place -/
theorem ix_ok (g : GR K Y M H) (fr : FR K Y st H σ) {x : V} {a v : Val} {i : Int} (r : VRp K Y H st σ x a) (h : ixVal st M a i = some v) {Q : VK} (q : ∀ y, VRp K Y H st σ y v → Q y H) : rIx K x (.int i) H Q := by
  have gen : ∀ d, deref st M a = some d → (at1 d i).map Val.dat = some v → rIx K x (.int i) H Q := fun d hd e => by
    obtain ⟨d', hd', rfl⟩ := Option.map_eq_some_iff.mp e
    have dr := Dr.of g fr r hd
    cases d with
    | list ds =>
      obtain ⟨p, xs, rfl, h1, h2⟩ := dr.lst
      obtain ⟨y, hy, ry⟩ := atI_rp h2 (show atI ds i = some d' from hd')
      exact .inl ⟨p, xs, i, y, rfl, rfl, h1, hy, q y ry⟩
    | tuple ds =>
      obtain ⟨p, xs, rfl, h1, h2⟩ := dr.tup
      obtain ⟨y, hy, ry⟩ := atI_rp h2 (show atI ds i = some d' from hd')
      exact .inr (.inl ⟨p, xs, i, y, rfl, rfl, h1, hy, q y ry⟩)
    | str z =>
      have hd' : (if z.length ≤ SL then (atI z.cps.toList i).map fun c => PyData.str ⟨#[c]⟩ else none) = some d' := hd'
      by_cases hl : z.length ≤ SL
      · rw [if_pos hl] at hd'
        obtain ⟨c, hc, rfl⟩ := Option.map_eq_some_iff.mp hd'
        exact .inr (.inr ⟨z, i, c, dr.str, rfl, by rw [sl_eq]; exact hl, hc, q _ (.str _)⟩)
      · rw [if_neg hl] at hd'; cases hd'
    | _ => cases hd'
  cases a with
  | loc n =>
    obtain ⟨p, rfl, hm⟩ := r
    have h : (match M[n]? with | some (.lst vs) => atI vs i | _ => none) = some v := h
    cases e : M[n]? with
    | none => rw [e] at h; cases h
    | some o =>
      obtain ⟨b, hb, u, hu, ob⟩ := g.obj n o e
      rw [hm] at hb
      cases hb
      rw [e] at h
      cases o with
      | lst vs =>
        cases u with
        | lst xs =>
          have pr : Paired (VR0 K Y H) xs vs := ob
          obtain ⟨y, hy, ry⟩ := atI_pr pr h
          exact .inl ⟨p, xs, i, y, rfl, rfl, SqL.of hu, hy, q y (VR0.vr ry)⟩
        | _ => exact ob.elim
      | dct _ => cases h
      | dctT _ => cases h
  | dat d =>
    exact gen d rfl h
  | slot j =>
    obtain ⟨d, h1, h2⟩ := Option.bind_eq_some_iff.mp (show (deref st M (.slot j)).bind (fun d => (at1 d i).map Val.dat) = some v from h)
    exact gen d h1 h2
  | ro ds =>
    obtain ⟨d, h1, h2⟩ := Option.bind_eq_some_iff.mp (show (deref st M (.ro ds)).bind (fun d => (at1 d i).map Val.dat) = some v from h)
    exact gen d h1 h2
end
section
variable {X : Cx} {P : Pm} {e a b c : Expr} {pos : Pos} {f1 f2 f3 : Ex Val}
theorem se_ix (ha : SE X P a f1) (hb : SE X P b f2) (hs : PlainIx b := by exact fun _ _ => rfl) : SE X P (.Subscript a b pos) (eIx f1 f2) := by
  refine PE.imp (pe_ix ix_seq ha hb hs) fun σ H Q h => ?_
  obtain ⟨Y, M, st, g0, fr, h⟩ := h
  refine ⟨Y, M, st, g0, fr, Post.bind (R1 := RV X.K) shV h fun va M1 Y1 H1 x _ s1 g1 r1 q1 => ?_⟩
  have fr1 := fr.step g0 s1
  refine ⟨Y1, M1, st, g1, fr1, Post.bind (R1 := RV X.K) shV q1 fun vb M2 Y2 H2 y _ s2 g2 r2 q2 => ?_⟩
  have fr2 := fr1.step g1 s2
  obtain ⟨v, e, q⟩ := Post.opt q2
  obtain ⟨i, ei, e⟩ := Option.bind_eq_some_iff.mp e
  cases intOf_some ei
  cases VRp.int r2
  exact ix_ok g2 fr2 (VRp.step g1 s2 r1) e fun z rz => q Y2 H2 z (Step.refl Y2 H2) g2 rz

/-! ### slices -/
def cutD {α : Type} (ds : List α) (lo hi : Option Int) : List α := (ds.drop (HT.sIx ds.length 0 lo)).take (HT.sIx ds.length ds.length hi - HT.sIx ds.length 0 lo)
def slD (d : PyData) (lo hi : Option Int) : Option Sl := match d with
  | .list ds => some (.own (cutD ds lo hi))
  | .tuple ds => some (.v (.dat (.tuple (cutD ds lo hi))))
  | .str z => if z.length ≤ SL then some (.v (.dat (.str (cutS z lo hi)))) else none
  | _ => none
/-- an optional bound -/
abbrev SO (X : Cx) (P : Pm) (e : Option Expr) (f : Ex (Option Int)) : Prop := PO X e (fun σ H Q => Rn X.K P (fun _ _ _ _ _ x v => x = v) f σ H Q)
def oNone : Ex (Option Int) := fun _ M => .ok none M
def oSome (f : Ex Val) : Ex (Option Int) := fun st M => (f st M).bind fun v M1 => Out.ofOpt ((intOf v).map some) M1
theorem PO.imp {o : Option Expr} {t t' : TO} (h : PO X o t) (i : ∀ σ H Q, t' σ H Q → t σ H Q) : PO X o t' := ⟨fun pins s σ H Q I q => h.run pins s σ H Q I (i σ H Q q)⟩
theorem so_none : SO X P none oNone := by
  refine PO.imp po_none fun σ H Q h => ?_
  obtain ⟨Y, M, st, g0, fr, h⟩ := h
  exact Post.ok h (Step.refl Y H) g0 rfl
theorem so_some {f : Ex Val} (ha : SE X P a f) : SO X P (some a) (oSome f) := by
  refine PO.imp (po_some ha) fun σ H Q h => ?_
  obtain ⟨Y, M, st, g0, fr, h⟩ := h
  refine ⟨Y, M, st, g0, fr, Post.bind (R1 := RV X.K) ⟨fun _ _ h => h⟩ h fun va M1 Y1 H1 x _ s1 g1 r1 q1 => ?_⟩
  obtain ⟨v, e, q⟩ := Post.opt q1
  obtain ⟨i, ei, rfl⟩ := Option.map_eq_some_iff.mp e
  cases intOf_some ei
  cases VRp.int r1
  exact ⟨i, rfl, Post.ok q (Step.refl Y1 H1) g1 rfl⟩
def xSl (f : Ex Val) (l u : Ex (Option Int)) : Ex Sl := fun st M => (f st M).bind fun a M1 => (l st M1).bind fun lo M2 => (u st M2).bind fun hi M3 => Out.ofOpt ((deref st M3 a).bind fun d => slD d lo hi) M3
theorem cutV_eq {K : PySem.W.Frag} {F : Addr → Prop} {H : Hp} {ds : List PyData} {xs : List V} (r : RpA K F H xs ds) (lo hi : Option Int) : RpA K F H (cutV xs lo hi) (cutD ds lo hi) := by
  unfold cutV cutD
  rw [r.length]
  exact (r.drop _).take _
theorem cutD_all {α : Type} {ds : List α} {lo hi : Option Int} (h : HT.sIx ds.length 0 lo = 0 ∧ HT.sIx ds.length ds.length hi = ds.length) : cutD ds lo hi = ds := by
  unfold cutD
  rw [h.1, h.2]
  simp
theorem sx_sl {lo hi : Option Expr} {p2 : Pos} {l u : Ex (Option Int)} (ha : SE X P a f1) (hl : SO X P lo l) (hu : SO X P hi u) : SX X P (.Subscript a (.Slice lo hi none p2) pos) (xSl f1 l u) := by
  refine PE.imp (pe_slice (SlR.or sl_list (SlR.or sl_tupA sl_str)) ha hl hu) fun σ H Q h => ?_
  obtain ⟨Y, M, st, g0, fr, h⟩ := h
  refine ⟨Y, M, st, g0, fr, Post.bind (R1 := RV X.K) shS h fun va M1 Y1 H1 x _ s1 g1 r1 q1 => ?_⟩
  have fr1 := fr.step g0 s1
  refine ⟨Y1, M1, st, g1, fr1, Post.bind shS q1 fun lo M2 Y2 H2 lo' _ s2 g2 r2 q2 => ?_⟩
  cases (show lo' = lo from r2)
  have fr2 := fr1.step g1 s2
  refine ⟨Y2, M2, st, g2, fr2, Post.bind shS q2 fun hi M3 Y3 H3 hi' _ s3 g3 r3 q3 => ?_⟩
  cases (show hi' = hi from r3)
  have fr3 := fr2.step g2 s3
  obtain ⟨s, e, q⟩ := Post.opt q3
  obtain ⟨d, ed, e⟩ := Option.bind_eq_some_iff.mp e
  have dr := Dr.of g3 fr3 (VRp.step g2 s3 (VRp.step g1 s2 r1)) ed
  cases d with
  | list ds =>
    cases e
    obtain ⟨p, xs, rfl, h1, h2⟩ := dr.lst
    exact .inl ⟨p, xs, rfl, h1, fun t ht => q Y3 _ _ (Step.laid ht) (g3.laid ht) ⟨t, rfl, Ow.new g3 ht (cutV_eq h2 lo hi), ht⟩⟩
  | tuple ds =>
    cases e
    obtain ⟨p, xs, rfl, h1, h2⟩ := dr.tupT
    refine .inr (.inl ⟨p, xs, rfl, .inl (.inl h1), fun ha => ?_, fun _ t ht => ?_⟩)
    · rw [h2.length] at ha
      refine q Y3 _ _ (Step.refl Y3 H3) g3 (show Rp X.K Y3.F H3 _ _ from ?_)
      rw [cutD_all ha]
      exact .tup h1 h2
    · exact q Y3 _ _ (Step.laid ht) (g3.laid ht) (show Rp X.K Y3.F _ _ _ from Rp.newT g3 ht (cutV_eq h2 lo hi))
  | str z =>
    have e : (if z.length ≤ SL then some (Sl.v (.dat (.str (cutS z lo hi)))) else none) = some s := e
    by_cases hz : z.length ≤ SL
    · rw [if_pos hz] at e
      cases e
      exact .inr (.inr ⟨z, dr.str, by rw [sl_eq]; exact hz, q Y3 _ _ (Step.refl Y3 H3) g3 (show Rp X.K Y3.F H3 _ _ from .str _)⟩)
    · rw [if_neg hz] at e; cases e
  | _ => cases e

/-! ### lists of arguments -/
def aNil : Ex (List Val) := fun _ M => .ok [] M
def aCons (f : Ex Val) (r : Ex (List Val)) : Ex (List Val) := fun st M => (f st M).bind fun a M1 => (r st M1).bind fun l M2 => .ok (a :: l) M2
theorem sa_nil : SA X P [] aNil := by
  refine PA.imp pa_nil fun σ H Q h => ?_
  obtain ⟨Y, M, st, g0, fr, h⟩ := h
  exact Post.ok h (Step.refl Y H) g0 (show Paired _ [] [] from .nil)
theorem sa_cons {es : List Expr} {r : Ex (List Val)} (ha : SE X P a f1) (hr : SA X P es r) (hs : starEach (a :: es) X.env = (false, eval a X.env) :: starEach es X.env := by rfl) : SA X P (a :: es) (aCons f1 r) := by
  refine PA.imp (pa_cons ha hr hs) fun σ H Q h => ?_
  obtain ⟨Y, M, st, g0, fr, h⟩ := h
  refine ⟨Y, M, st, g0, fr, Post.bind (R1 := RV X.K) shA h fun va M1 Y1 H1 x _ s1 g1 r1 q1 => ?_⟩
  have fr1 := fr.step g0 s1
  refine ⟨Y1, M1, st, g1, fr1, Post.bind (R1 := RA X.K) shA q1 fun vs M2 Y2 H2 xs _ s2 g2 r2 q2 => ?_⟩
  exact Post.ok q2 (Step.refl Y2 H2) g2 (show Paired _ (x :: xs) (va :: vs) from .cons (VRp.step g1 s2 r1) r2)
theorem dats_vr {K : PySem.W.Frag} {Y : Wd} {H : Hp} {st : MSt} {σ : L2.St} : ∀ {vs : List Val} {xs : List V} {ds : List PyData}, Paired (VRp K Y H st σ) xs vs → datAll vs = some ds → RpA K Y.F H xs ds
  | [], _, ds, h, e => by
    cases h
    cases (show ([] : List PyData) = ds from Option.some.inj e)
    exact .nil
  | .dat d :: vs, _, ds, h, e => by
    cases h with
    | cons h1 h2 =>
      rw [datAll_cons] at e
      obtain ⟨es, e1, rfl⟩ := Option.map_eq_some_iff.mp e
      exact .cons h1 (dats_vr h2 e1)
  | .loc _ :: _, _, _, _, e => by cases e
  | .slot _ :: _, _, _, _, e => by cases e
  | .ro _ :: _, _, _, _, e => by cases e
/-- (a, b, ..) -/
def eTup (fs : Ex (List Val)) : Ex Val := fun st M => (fs st M).bind fun vs M1 => Out.ofOpt ((datAll vs).bind fun ds => if ds.length ≤ SL then some (.dat (.tuple ds)) else none) M1
theorem se_tup {es : List Expr} {k : Nat} {fs : Ex (List Val)} (h : SA X P es fs) : SE X P (.Tuple es k pos) (eTup fs) := by
  refine PE.imp (pe_tup h) fun σ H Q h => ?_
  obtain ⟨Y, M, st, g0, fr, h⟩ := h
  refine ⟨Y, M, st, g0, fr, Post.bind (R1 := RA X.K) shV h fun vs M1 Y1 H1 xs _ s1 g1 r1 q1 => ?_⟩
  obtain ⟨v, e, q⟩ := Post.opt q1
  obtain ⟨ds, ed, e⟩ := Option.bind_eq_some_iff.mp e
  have r := dats_vr r1 ed
  by_cases hl : ds.length ≤ SL
  · rw [if_pos hl] at e
    cases e
    exact ⟨by rw [r.length, sl_eq]; exact hl, fun p hp => q Y1 _ _ (Step.laid hp) (g1.laid hp) (show Rp X.K Y1.F _ _ _ from Rp.newT g1 hp r)⟩
  · rw [if_neg hl] at e; cases e
/-- [a, b, ..] of data -/
def xLst (fs : Ex (List Val)) : Ex Sl := fun st M => (fs st M).bind fun vs M1 => Out.ofOpt ((datAll vs).bind fun ds => if ds.length ≤ SL then some (.own ds) else none) M1
theorem sx_lst {es : List Expr} {fs : Ex (List Val)} (h : SA X P es fs) : SX X P (.List es pos) (xLst fs) := by
  refine PE.imp (pe_lst h) fun σ H Q h => ?_
  obtain ⟨Y, M, st, g0, fr, h⟩ := h
  refine ⟨Y, M, st, g0, fr, Post.bind (R1 := RA X.K) shS h fun vs M1 Y1 H1 xs _ s1 g1 r1 q1 => ?_⟩
  obtain ⟨v, e, q⟩ := Post.opt q1
  obtain ⟨ds, ed, e⟩ := Option.bind_eq_some_iff.mp e
  have r := dats_vr r1 ed
  by_cases hl : ds.length ≤ SL
  · rw [if_pos hl] at e
    cases e
    exact ⟨by rw [r.length, sl_eq]; exact hl, fun p hp => q Y1 _ _ (Step.laid hp) (g1.laid hp) ⟨p, rfl, Ow.new g1 hp r, hp⟩⟩
  · rw [if_neg hl] at e; cases e

/-! ### shared objects -/
/-- a list of one's own becomes a shared object -/
theorem Ow.share {K : PySem.W.Frag} {Y : Wd} {H : Hp} {M : MH} (g : GR K Y M H) {a : Addr} {ds : List PyData} (o : Ow K Y H a ds) : GR K (Y.add M.length a) (M ++ [.lst (ds.map .dat)]) H := by
  obtain ⟨⟨xs, hx, r⟩, h2, h3⟩ := o
  exact g.addO hx h2 h3 (show Paired (VR0 K Y H) xs (ds.map .dat) from rp_dats r)
/-- a new list as a shared object -/
def eLoc (f : Ex Sl) : Ex Val := fun st M => (f st M).bind fun s M1 => match s with
  | .own ds => .ok (.loc M1.length) (M1 ++ [.lst (ds.map .dat)])
  | .v _ => .err
theorem se_loc {f : Ex Sl} (h : SX X P e f) : SE X P e (eLoc f) := by
  refine PE.imp h fun σ H Q h => ?_
  obtain ⟨Y, M, st, g, fr, h⟩ := h
  refine ⟨Y, M, st, g, fr, ?_⟩
  unfold eLoc at h
  cases q : f st M with
  | ok s M' =>
    rw [q] at h
    intro Y' H' x sp g' r
    cases s with
    | v y => exact False.elim h
    | own ds =>
      obtain ⟨a, rfl, o, n⟩ := r
      refine h (Y'.add M'.length a) H' _ ?_ (Ow.share g' o) ⟨a, rfl, ?_⟩
      · refine ⟨fun k b e => ?_, sp.F, fun k b e => ?_, sp.fF, sp.kp⟩
        · show (if k = M'.length then some a else Y'.m k) = some b
          rw [if_neg (Nat.ne_of_lt (g'.lt k b (sp.m k b e)))]
          exact sp.m k b e
        · have e : (if k = M'.length then some a else Y'.m k) = some b := e
          by_cases hk : k = M'.length
          · rw [if_pos hk] at e
            cases e
            exact .inr n
          · rw [if_neg hk] at e
            exact sp.fm k b e
      · show (if M'.length = M'.length then some a else Y'.m M'.length) = some a
        rw [if_pos rfl]
  | exc e M' => rw [q] at h; exact h
  | err => rw [q] at h; exact h
def noSlots : List Val → Bool
  | [] => true
  | v :: r => noSlot v && noSlots r
theorem prd_v0 {K : PySem.W.Frag} {Y : Wd} {H : Hp} {st : MSt} {σ : L2.St} : ∀ {vs : List Val} {xs : List V}, Paired (VRp K Y H st σ) xs vs → noSlots vs = true → Paired (VR0 K Y H) xs vs
  | [], _, h, _ => by cases h; exact .nil
  | v :: vs, _, h, e => by
    cases h with
    | cons h1 h2 =>
      have e' := Bool.and_eq_true_iff.mp (show (noSlot v && noSlots vs) = true from e)
      exact .cons (VRp.v0 h1 e'.1) (prd_v0 h2 e'.2)
/-- [a, b, ..] as a shared object, its items any values -/
def eLstL (fs : Ex (List Val)) : Ex Val := fun st M => (fs st M).bind fun vs M1 => if noSlots vs = true ∧ vs.length ≤ SL then .ok (.loc M1.length) (M1 ++ [.lst vs]) else .err
theorem se_lstL {es : List Expr} {fs : Ex (List Val)} (h : SA X P es fs) : SE X P (.List es pos) (eLstL fs) := by
  refine PE.imp (pe_lst h) fun σ H Q h => ?_
  obtain ⟨Y, M, st, g0, fr, h⟩ := h
  refine ⟨Y, M, st, g0, fr, Post.bind (R1 := RA X.K) shV h fun vs M1 Y1 H1 xs _ s1 g1 r1 q1 => ?_⟩
  by_cases hc : noSlots vs = true ∧ vs.length ≤ SL
  · rw [if_pos hc] at q1
    have pr := prd_v0 r1 hc.1
    refine ⟨by rw [Paired.length pr, sl_eq]; exact hc.2, fun p hp => ?_⟩
    obtain ⟨g2, s2⟩ := g1.newO (u := .lst xs) (o := .lst vs) hp pr
    exact q1 _ _ _ s2 g2 ⟨p, rfl, Wd.add_self⟩
  · rw [if_neg hc] at q1; exact False.elim q1
end
end Mn

set_option Elab.async false
set_option linter.all false
set_option maxRecDepth 100000
set_option maxHeartbeats 4000000
namespace Mn
open PySem PySem.Spec PyProof.Rows L2

/-! ### defs whose frames know that no repr is running -/
/-- as FnOk, where it is known around that no repr runs -/
structure FnG (P : Program) (w : World) (K : PySem.W.Frag) (mg : Str → Option Value) (base : Heap) (CX : CXT) (k : Nat) (f : Addr) (fd : FuncData) (ps : List Str) (sp : Sp) : Prop where
  len : ∀ vs H Q E, sp vs H Q E → vs.length = ps.length
  go : ∀ (B : Around) (out : List Env) (s : Shared) (H : Hp) (ar : Args) (us : List Value) (vs : List V) (Q : VK) (E : XK), B.guards = some [] → Room k B → Env0 P w K mg base B out s H →
    BindsTo s fd ar (ps.zip us) → Vals vs us → sp vs H Q E → codeAny (model P w) B (.call (.ref f) ar) (CR CX out P w H s Q E) s
section
variable {P : Program} {w : World} {K : PySem.W.Frag} {mg : Str → Option Value} {base : Heap} {CX : CXT} {f : Addr} {fd : FuncData} {ps : List Str} {sp : Sp}
theorem FnG.mono {j k : Nat} (F : FnG P w K mg base CX j f fd ps sp) (h : j ≤ k) : FnG P w K mg base CX k f fd ps sp :=
  ⟨F.len, fun B out s H ar us vs Q E hg hr => F.go B out s H ar us vs Q E hg (hr.mono h)⟩
theorem FnG.imp {k : Nat} {sp' : Sp} (F : FnG P w K mg base CX k f fd ps sp) (h : ∀ vs H Q E, sp' vs H Q E → sp vs H Q E) : FnG P w K mg base CX k f fd ps sp' :=
  ⟨fun vs H Q E q => F.len vs H Q E (h _ _ _ _ q), fun B out s H ar us vs Q E hg hr e0 hb hv q => F.go B out s H ar us vs Q E hg hr e0 hb hv (h _ _ _ _ q)⟩
/-- a def by its body -/
theorem fnG_of {k : Nat} {nm qn : Str} {pars : Arguments} {bd : List Stmt} {sco : Scope} {dV kV dc pm cdv ct oc : Value} {an od : Option Addr} {osl : Array (Option Value)} {N : List Str}
    (hf : K.lookup f = some ⟨oc, od, .func (PySem.W.fnOf nm qn pars bd sco dV kV dc pm an cdv ct), osl⟩) (hcode : PySem.W.codeIn K cdv qn = true) (S : FnScope N ps sco) (len : ∀ vs H Q E, sp vs H Q E → vs.length = ps.length)
    (hb : ∀ (B : Around) (out : List Env) (s : Shared) (H : Hp) (vs : List V) (Q : VK) (E : XK), (B.deeper (envOfC qn sco s.heap.objs.size f cdv)).guards = some [] → Room k (B.deeper (envOfC qn sco s.heap.objs.size f cdv)) → sp vs H Q E →
      ∃ t, PSs (cxOf CX P w K mg base N qn sco f cdv B out s H E) bd t ∧ t { nx := fun _ H' => Q .non H', rt := Q } (start N vs) H) :
    FnG P w K mg base CX (k + 1) f (PySem.W.fnOf nm qn pars bd sco dV kV dc pm an cdv ct) ps sp := by
  refine ⟨len, fun B out s H ar us vs Q E hg hr env0 bnd rv hs => ?_⟩
  have inK : K.In s.heap := env0.mod.kin.keeps fun b o e => (env0.bs b o e).1
  have noLim : s.heap.NoLimit := env0.mod.nolimit.keeps fun b o e => (env0.bs b o e).1
  have seen : ∀ y ∈ ps.zip us, sco.names.lookup y.1 = some .local ∨ (sco.names.lookup y.1 = some .cell ∧ ((cellsFrom (s.heap.objs.size + 1) sco.names []).lookup y.1).isSome = true) := by
    rintro ⟨n, v⟩ hy
    rcases S.par n (List.of_mem_zip hy).1 with q | q
    · exact .inl q
    · exact .inr ⟨q, PySem.W.cellsFrom_some _ _ _ (.inl q)⟩
  refine codeAny_call_function hr.depth (inK _ _ hf) rfl S.co S.gen rfl (PySem.W.codeRec_of inK hcode) (bnd _ _ _ _ ?_)
  refine wpAny_newFunctionEnv_cells S.kind seen fun env he s1 called => ?_
  subst he
  refine ⟨noLim.keeps called.toInCall.keep, codeAny_func ?_⟩
  obtain ⟨t, walked, hq⟩ := hb B out s H vs Q E hg (hr.deeper _) hs
  have atStart := inv_start (CX := CX) (E := E) S hr.hd env0 (len _ _ _ _ hs) rv called
  have out_ : ∀ {σ' : L2.St} {H' : Hp} {v : V} {u : Value} {s' : Shared}, Inv (cxOf CX P w K mg base N qn sco f cdv B out s H E) [] σ' H' s' → RelV v u → Q v H' → CE out P w H s Q u s' :=
    fun {σ' H' v u s'} J r q => ⟨v, H', J.os, J.bare, J.base, J.hok, r, q⟩
  refine wpAny_mono (walked.run [] s1 (start N vs) H _ atStart hq) (fun fl s' here => ?_) fun _ _ z => z
  cases fl with
  | next =>
    obtain ⟨σ', H', J, q⟩ := here
    exact out_ (v := V.non) (u := Value.none) J rfl q
  | ret u =>
    obtain ⟨v, σ', H', J, r, q⟩ := here
    exact out_ J r q
  | brk =>
    obtain ⟨_, _, _, q⟩ := here
    exact q.elim
  | cont =>
    obtain ⟨_, _, _, q⟩ := here
    exact q.elim
end
/-! ### what a def promises -/
/-- a def that computes g from n arguments -/
def spM (K : PySem.W.Frag) (ER : Exn → Value → Option Addr → Hp → Prop) (n : Nat) (g : List Val → MH → Out Sl) : Sp := fun vs H Q E => vs.length = n ∧ ∃ Y M as, GR K Y M H ∧ Paired (VR0 K Y H) vs as ∧
  match g as M with
  | .ok s M' => ∀ Y' H' x, Step Y H Y' H' → GR K Y' M' H' → SlR K Y' H H' x s → Q x H'
  | .exc e M' => ∀ Y' H' c d, Step Y H Y' H' → GR K Y' M' H' → ER e c d H' → E c d H'
  | .err => False
section
variable {X : Cx} {CX : CXT} {P : Pm} {k : Nat} {f : Addr} {fd : FuncData} {ps ks : List Str} {sp : Sp} {x : Str} {p pos : Pos} {e : Expr} {es : List Expr} {kws : List Keyword}
theorem pe_callG {E : L2.St → XK} {t : TA} (F : FnG X.prog X.w X.K X.mg X.base CX k f fd ps sp) (hgd : X.A.guards = some []) (hr : Room k X.A) (hg : Gl X x) (hm : X.mg x = some (.ref f)) (hk : PySem.W.keepIn X.K (.ref f) = true) (hb : Binds X.K fd ps [])
    (hx : ∀ σ, PassesAt CX X σ (E σ)) (ha : PA X (e :: es) t) (hdb : (x == ("__debug__" : Str)) = false := by decide) (he : starEach (e :: es) X.env = (false, eval e X.env) :: starEach es X.env := by rfl) (hpl : (backTo pos (starEach es X.env)).any (·.1) = false := by rfl) :
    PE X (.Call (.Name x p) (e :: es) [] pos) (tCallS sp E t) := by
  refine ⟨fun pins s σ H Q I h => wpAny_Call_Name_kw (ld_glob I hg hm ?_ hdb)⟩
  refine PySem.W.callWith_K (h₀ := X.base) I.ok.mod.kin hk (thn (ha.run pos pins s σ H _ I h) fun us s1 ⟨vs, H1, J, rv, q⟩ => ⟨J.kIn, ?_⟩) he hpl
  have hl : us.length = ps.length := rv.length.symm.trans (F.len _ _ _ _ q)
  have bd := hb s1 us J.kIn (by rw [List.append_nil]; exact hl)
  rw [List.append_nil] at bd
  refine wpAny_call (codeAny_mono (F.go X.A X.stack s1 H1 ⟨us, []⟩ us vs Q (E σ) hgd hr J.env0 bd rv q) fun r s' back => ?_)
  cases r with
  | error ex => exact hx σ pins H1 s1 ex s' J back
  | ok fl =>
    cases fl with
    | ret u => exact J.after back
    | next => exact back.elim
    | brk => exact back.elim
    | cont => exact back.elim
/-- f() -/
theorem pe_callG0 {E : L2.St → XK} (F : FnG X.prog X.w X.K X.mg X.base CX k f fd [] sp) (hgd : X.A.guards = some []) (hr : Room k X.A) (hg : Gl X x) (hm : X.mg x = some (.ref f)) (hk : PySem.W.keepIn X.K (.ref f) = true) (hb : Binds X.K fd [] [])
    (hx : ∀ σ, PassesAt CX X σ (E σ)) (hdb : (x == ("__debug__" : Str)) = false := by decide) : PE X (.Call (.Name x p) [] [] pos) (tCallS sp E tNil) := by
  refine ⟨fun pins s σ H Q I h => wpAny_Call_Name_kw (ld_glob I hg hm ?_ hdb)⟩
  refine PySem.W.callWith_K0 I.kIn hk ?_
  have bd := hb s [] I.kIn rfl
  refine wpAny_call (codeAny_mono (F.go X.A X.stack s H ⟨[], []⟩ [] [] Q (E σ) hgd hr I.env0 bd .nil h) fun r s' back => ?_)
  cases r with
  | error ex => exact hx σ pins H s ex s' I back
  | ok fl =>
    cases fl with
    | ret u => exact I.after back
    | next => exact back.elim
    | brk => exact back.elim
    | cont => exact back.elim
def xCall (g : List Val → MH → Out Sl) (fs : Ex (List Val)) : Ex Sl := fun st M => (fs st M).bind fun vs M1 => if noSlots vs = true then g vs M1 else .err
theorem rn_call {K : PySem.W.Frag} {n : Nat} {g : List Val → MH → Out Sl} {fs : Ex (List Val)} {σ : L2.St} {H : Hp} {Q : VK} (hn : ∀ vs M, noSlots vs = true → (∀ s M', g vs M = .ok s M' → vs.length = n) ∧ (∀ e M', g vs M = .exc e M' → vs.length = n))
    (h : Rn K P (RS K) (xCall g fs) σ H Q) : Rn K P (RA K) fs σ H fun vs H1 => spM K P.ER n g vs H1 Q (WE P.Wx σ) := by
  obtain ⟨Y, M, st, g0, fr, h⟩ := h
  refine ⟨Y, M, st, g0, fr, Post.bind (R1 := RA K) shS h fun vs M1 Y1 H1 xs _ s1 g1 r1 q1 => ?_⟩
  cases hc : noSlots vs with
  | false => rw [hc] at q1; exact False.elim q1
  | true =>
    rw [hc, if_pos rfl] at q1
    have pr := prd_v0 r1 hc
    have hl := Paired.length pr
    cases q : g vs M1 with
    | ok s M' =>
      rw [q] at q1
      refine ⟨by rw [hl]; exact (hn vs M1 hc).1 s M' q, Y1, M1, vs, g1, pr, ?_⟩
      rw [q]
      exact q1
    | exc e M' =>
      rw [q] at q1
      refine ⟨by rw [hl]; exact (hn vs M1 hc).2 e M' q, Y1, M1, vs, g1, pr, ?_⟩
      rw [q]
      exact q1
    | err => rw [q] at q1; exact False.elim q1
/-- a function of n arguments answers nothing else -/
def ArityN (n : Nat) (g : List Val → MH → Out Sl) : Prop := ∀ vs M, vs.length ≠ n → g vs M = .err
theorem arity_ok {n : Nat} {g : List Val → MH → Out Sl} (h : ArityN n g) (vs : List Val) (M : MH) (_ : noSlots vs = true) : (∀ s M', g vs M = .ok s M' → vs.length = n) ∧ (∀ e M', g vs M = .exc e M' → vs.length = n) := by
  refine ⟨fun s M' e => Classical.byContradiction fun hl => ?_, fun e' M' e => Classical.byContradiction fun hl => ?_⟩
  · rw [h vs M hl] at e; cases e
  · rw [h vs M hl] at e; cases e
theorem sx_call {n : Nat} {g : List Val → MH → Out Sl} {fs : Ex (List Val)} (F : FnG X.prog X.w X.K X.mg X.base CX k f fd ps (spM X.K P.ER n g)) (hgd : X.A.guards = some []) (hr : Room k X.A) (hg : Gl X x) (hm : X.mg x = some (.ref f))
    (hk : PySem.W.keepIn X.K (.ref f) = true) (hb : Binds X.K fd ps []) (hx : ∀ σ, PassesAt CX X σ (WE P.Wx σ)) (hn : ArityN n g) (ha : SA X P (e :: es) fs)
    (hdb : (x == ("__debug__" : Str)) = false := by decide) (he : starEach (e :: es) X.env = (false, eval e X.env) :: starEach es X.env := by rfl) (hpl : (backTo pos (starEach es X.env)).any (·.1) = false := by rfl) :
    SX X P (.Call (.Name x p) (e :: es) [] pos) (xCall g fs) := PE.imp (pe_callG (E := fun σ => WE P.Wx σ) F hgd hr hg hm hk hb hx ha hdb he hpl) fun _ _ _ h => rn_call (arity_ok hn) h
theorem sx_call0 {g : List Val → MH → Out Sl} (F : FnG X.prog X.w X.K X.mg X.base CX k f fd [] (spM X.K P.ER 0 g)) (hgd : X.A.guards = some []) (hr : Room k X.A) (hg : Gl X x) (hm : X.mg x = some (.ref f))
    (hk : PySem.W.keepIn X.K (.ref f) = true) (hb : Binds X.K fd [] []) (hx : ∀ σ, PassesAt CX X σ (WE P.Wx σ)) (hn : ArityN 0 g) (hdb : (x == ("__debug__" : Str)) = false := by decide) :
    SX X P (.Call (.Name x p) [] [] pos) (xCall g aNil) := PE.imp (pe_callG0 (E := fun σ => WE P.Wx σ) F hgd hr hg hm hk hb hx hdb) fun σ H Q h => by
  have h' := rn_call (arity_ok hn) h
  obtain ⟨Y, M, st, g0, fr, h'⟩ := h'
  exact Post.ok h' (Step.refl Y H) g0 (show Paired _ [] [] from .nil)
/-- f(k = v, ..): all by name, in the def's own order -/
structure KBo (K : PySem.W.Frag) (fd : FuncData) (ps : List Str) : Prop where
  to : ∀ (s : Shared) (ws : List Value), K.In s.heap → ws.length = ps.length → BindsTo s fd ⟨[], ps.zip ws⟩ (ps.zip ws)
abbrev SK (X : Cx) (P : Pm) (ks : List Keyword) (f : Ex (List Val)) : Prop := PK X ks (Rn X.K P (RA X.K) f)
theorem PK.imp {ks : List Keyword} {t t' : TA} (h : PK X ks t) (i : ∀ σ H Q, t' σ H Q → t σ H Q) : PK X ks t' := ⟨fun pos pins s σ H Q I q => h.run pos pins s σ H Q I (i σ H Q q)⟩
theorem sk_nil : SK X P [] aNil := by
  refine PK.imp pk_nil fun σ H Q h => ?_
  obtain ⟨Y, M, st, g0, fr, h⟩ := h
  exact Post.ok h (Step.refl Y H) g0 (show Paired _ [] [] from .nil)
theorem sk_cons {nm : Option Str} {kpos : Pos} {f1 : Ex Val} {r : Ex (List Val)} (ha : SE X P e f1) (hr : SK X P kws r) : SK X P (⟨nm, e, kpos⟩ :: kws) (aCons f1 r) := by
  refine PK.imp (pk_cons ha hr) fun σ H Q h => ?_
  obtain ⟨Y, M, st, g0, fr, h⟩ := h
  refine ⟨Y, M, st, g0, fr, Post.bind (R1 := RV X.K) shA h fun va M1 Y1 H1 x _ s1 g1 r1 q1 => ?_⟩
  have fr1 := fr.step g0 s1
  refine ⟨Y1, M1, st, g1, fr1, Post.bind (R1 := RA X.K) shA q1 fun vs M2 Y2 H2 xs _ s2 g2 r2 q2 => ?_⟩
  exact Post.ok q2 (Step.refl Y2 H2) g2 (show Paired _ (x :: xs) (va :: vs) from .cons (VRp.step g1 s2 r1) r2)
/-- f(k = v, ..), nothing by place -/
theorem pe_callGK {E : L2.St → XK} {tk : TA} (F : FnG X.prog X.w X.K X.mg X.base CX k f fd ps sp) (hgd : X.A.guards = some []) (hr : Room k X.A) (hg : Gl X x) (hm : X.mg x = some (.ref f)) (hk : PySem.W.keepIn X.K (.ref f) = true) (hb : KBo X.K fd ps)
    (hx : ∀ σ, PassesAt CX X σ (E σ)) (hkw : PK X kws tk) (hall : (backToKw pos (keywordEach kws X.env)).all (·.1.isSome) = true := by rfl) (hks : (backToKw pos (keywordEach kws X.env)).filterMap (·.1) = ps := by rfl)
    (hdb : (x == ("__debug__" : Str)) = false := by decide) (hpl : ((backTo pos (starEach [] X.env)).any (·.1) || (backToKw pos (keywordEach kws X.env)).any (·.1.isNone)) = false := by rfl) :
    PE X (.Call (.Name x p) [] kws pos) (tCallS sp E tk) := by
  refine ⟨fun pins s σ H Q I h => wpAny_Call_Name_kw (ld_glob I hg hm ?_ hdb)⟩
  refine PySem.W.callWith_KW0 (h₀ := X.base) I.ok.mod.kin hk hall (thn (hkw.run pos pins s σ H _ I h) fun ws s1 ⟨vs, H1, J, rv, q⟩ => ⟨J.kIn, ?_⟩) hpl
  rw [hks]
  have hl : ws.length = ps.length := rv.length.symm.trans (F.len _ _ _ _ q)
  refine wpAny_call (codeAny_mono (F.go X.A X.stack s1 H1 ⟨[], ps.zip ws⟩ ws vs Q (E σ) hgd hr J.env0 (hb.to s1 ws J.kIn hl) rv q) fun r s' back => ?_)
  cases r with
  | error ex => exact hx σ pins H1 s1 ex s' J back
  | ok fl =>
    cases fl with
    | ret u => exact J.after back
    | next => exact back.elim
    | brk => exact back.elim
    | cont => exact back.elim
theorem sx_callK {n : Nat} {g : List Val → MH → Out Sl} {fs : Ex (List Val)} (F : FnG X.prog X.w X.K X.mg X.base CX k f fd ps (spM X.K P.ER n g)) (hgd : X.A.guards = some []) (hr : Room k X.A) (hg : Gl X x) (hm : X.mg x = some (.ref f))
    (hk : PySem.W.keepIn X.K (.ref f) = true) (hb : KBo X.K fd ps) (hx : ∀ σ, PassesAt CX X σ (WE P.Wx σ)) (hn : ArityN n g) (ha : SK X P kws fs)
    (hall : (backToKw pos (keywordEach kws X.env)).all (·.1.isSome) = true := by rfl) (hks : (backToKw pos (keywordEach kws X.env)).filterMap (·.1) = ps := by rfl)
    (hdb : (x == ("__debug__" : Str)) = false := by decide) (hpl : ((backTo pos (starEach [] X.env)).any (·.1) || (backToKw pos (keywordEach kws X.env)).any (·.1.isNone)) = false := by rfl) :
    SX X P (.Call (.Name x p) [] kws pos) (xCall g fs) := PE.imp (pe_callGK (E := fun σ => WE P.Wx σ) F hgd hr hg hm hk hb hx ha hall hks hdb hpl) fun _ _ _ h => rn_call (arity_ok hn) h
end

/-! ### built-in functions -/
def derefAll (st : MSt) (M : MH) : List Val → Option (List PyData)
  | [] => some []
  | v :: r => (deref st M v).bind fun d => (derefAll st M r).map (d :: ·)
@[simp] theorem derefAll_nil (st : MSt) (M : MH) : derefAll st M [] = some [] := nofl rfl
@[simp] theorem derefAll_cons (st : MSt) (M : MH) (v : Val) (r : List Val) : derefAll st M (v :: r) = (deref st M v).bind fun d => (derefAll st M r).map (d :: ·) := nofl rfl
def eFn (g : List PyData → Option PyData) (fs : Ex (List Val)) : Ex Val := fun st M => (fs st M).bind fun vs M1 => Out.ofOpt ((derefAll st M1 vs).bind fun ds => (g ds).map .dat) M1
def xFn (g : List PyData → Option Sl) (fs : Ex (List Val)) : Ex Sl := fun st M => (fs st M).bind fun vs M1 => Out.ofOpt ((derefAll st M1 vs).bind g) M1
def PrimN (K : PySem.W.Frag) (r : List V → Hp → VK → Prop) (g : List PyData → Option PyData) : Prop := ∀ {Y : Wd} {M : MH} {H : Hp} {xs : List V} {ds : List PyData} {d : PyData} {Q : VK}, GR K Y M H → Paired (Dr K Y H) xs ds → g ds = some d →
  (∀ Y' H' z, Step Y H Y' H' → GR K Y' M H' → Rp K Y'.F H' z d → Q z H') → r xs H Q
def PrimNS (K : PySem.W.Frag) (r : List V → Hp → VK → Prop) (g : List PyData → Option Sl) : Prop := ∀ {Y : Wd} {M : MH} {H : Hp} {xs : List V} {ds : List PyData} {s : Sl} {Q : VK}, GR K Y M H → Paired (Dr K Y H) xs ds → g ds = some s →
  (∀ Y' H' z, Step Y H Y' H' → GR K Y' M H' → SlR K Y' H H' z s → Q z H') → r xs H Q
theorem derefAll_dr {K : PySem.W.Frag} {Y : Wd} {H : Hp} {M : MH} {st : MSt} {σ : L2.St} (g : GR K Y M H) (fr : FR K Y st H σ) : ∀ {vs : List Val} {xs : List V} {ds : List PyData}, Paired (VRp K Y H st σ) xs vs → derefAll st M vs = some ds → Paired (Dr K Y H) xs ds
  | [], _, ds, h, e => by
    cases h
    cases (show ([] : List PyData) = ds from Option.some.inj e)
    exact .nil
  | v :: vs, _, ds, h, e => by
    cases h with
    | cons h1 h2 =>
      obtain ⟨d, ed, e⟩ := Option.bind_eq_some_iff.mp e
      obtain ⟨es, e1, rfl⟩ := Option.map_eq_some_iff.mp e
      exact .cons (Dr.of g fr h1 ed) (derefAll_dr g fr h2 e1)
section
variable {X : Cx} {P : Pm} {e : Expr} {es : List Expr} {x : Str} {p pos : Pos} {fs : Ex (List Val)} {id T : String} {r : List V → Hp → VK → Prop}
theorem rn_fn {K : PySem.W.Frag} {g : List PyData → Option PyData} (hp : PrimN K r g) {σ : L2.St} {H : Hp} {Q : VK} (h : Rn K P (RV K) (eFn g fs) σ H Q) : Rn K P (RA K) fs σ H fun vs H1 => r vs H1 Q := by
  obtain ⟨Y, M, st, g0, fr, h⟩ := h
  refine ⟨Y, M, st, g0, fr, Post.bind (R1 := RA K) shV h fun vs M1 Y1 H1 xs _ s1 g1 r1 q1 => ?_⟩
  obtain ⟨v, e, q⟩ := Post.opt q1
  obtain ⟨ds, ed, e⟩ := Option.bind_eq_some_iff.mp e
  obtain ⟨d, e2, rfl⟩ := Option.map_eq_some_iff.mp e
  exact hp g1 (derefAll_dr g1 (fr.step g0 s1) r1 ed) e2 fun Y' H' z s g' rz => q Y' H' z s g' rz
theorem rn_fnS {K : PySem.W.Frag} {g : List PyData → Option Sl} (hp : PrimNS K r g) {σ : L2.St} {H : Hp} {Q : VK} (h : Rn K P (RS K) (xFn g fs) σ H Q) : Rn K P (RA K) fs σ H fun vs H1 => r vs H1 Q := by
  obtain ⟨Y, M, st, g0, fr, h⟩ := h
  refine ⟨Y, M, st, g0, fr, Post.bind (R1 := RA K) shS h fun vs M1 Y1 H1 xs _ s1 g1 r1 q1 => ?_⟩
  obtain ⟨v, e, q⟩ := Post.opt q1
  obtain ⟨ds, ed, e2⟩ := Option.bind_eq_some_iff.mp e
  exact hp g1 (derefAll_dr g1 (fr.step g0 s1) r1 ed) e2 fun Y' H' z s g' rz => q Y' H' z s g' rz
/-- a built-in function's rule: a plain answer, a new list -/
structure BiR (X : Cx) (id : String) (g : List PyData → Option PyData) : Prop where
  ex : ∃ r, CallR X (.builtin id) r ∧ PrimN X.K r g
structure BiS (X : Cx) (id : String) (g : List PyData → Option Sl) : Prop where
  ex : ∃ r, CallR X (.builtin id) r ∧ PrimNS X.K r g
structure TyR (X : Cx) (T : String) (g : List PyData → Option PyData) : Prop where
  ex : ∃ r, CallR X (.type T) r ∧ PrimN X.K r g
structure TyS (X : Cx) (T : String) (g : List PyData → Option Sl) : Prop where
  ex : ∃ r, CallR X (.type T) r ∧ PrimNS X.K r g
theorem se_bi {g : List PyData → Option PyData} (b : BiR X id g) (hg : Gl X x) (hm : X.mg x = none) (hv : bootBuiltins x = some (.builtin id)) (ha : SA X P (e :: es) fs) (hn : x ≠ "__name__" := by decide) (hdb : (x == ("__debug__" : Str)) = false := by decide)
    (he : starEach (e :: es) X.env = (false, eval e X.env) :: starEach es X.env := by rfl) (hpl : (backTo pos (starEach es X.env)).any (·.1) = false := by rfl) : SE X P (.Call (.Name x p) (e :: es) [] pos) (eFn g fs) := by
  obtain ⟨r, h1, h2⟩ := b.ex
  exact PE.imp (pe_callB h1 hg hm hv ha hn hdb he hpl) fun _ _ _ h => rn_fn h2 h
theorem sx_bi {g : List PyData → Option Sl} (b : BiS X id g) (hg : Gl X x) (hm : X.mg x = none) (hv : bootBuiltins x = some (.builtin id)) (ha : SA X P (e :: es) fs) (hn : x ≠ "__name__" := by decide) (hdb : (x == ("__debug__" : Str)) = false := by decide)
    (he : starEach (e :: es) X.env = (false, eval e X.env) :: starEach es X.env := by rfl) (hpl : (backTo pos (starEach es X.env)).any (·.1) = false := by rfl) : SX X P (.Call (.Name x p) (e :: es) [] pos) (xFn g fs) := by
  obtain ⟨r, h1, h2⟩ := b.ex
  exact PE.imp (pe_callB h1 hg hm hv ha hn hdb he hpl) fun _ _ _ h => rn_fnS h2 h
theorem se_ty {g : List PyData → Option PyData} (b : TyR X T g) (hg : Gl X x) (hm : X.mg x = none) (hv : bootBuiltins x = some (.type T)) (ha : SA X P (e :: es) fs) (hn : x ≠ "__name__" := by decide) (hdb : (x == ("__debug__" : Str)) = false := by decide)
    (he : starEach (e :: es) X.env = (false, eval e X.env) :: starEach es X.env := by rfl) (hpl : (backTo pos (starEach es X.env)).any (·.1) = false := by rfl) : SE X P (.Call (.Name x p) (e :: es) [] pos) (eFn g fs) := by
  obtain ⟨r, h1, h2⟩ := b.ex
  exact PE.imp (pe_callTy h1 hg hm hv ha hn hdb he hpl) fun _ _ _ h => rn_fn h2 h
theorem sx_ty {g : List PyData → Option Sl} (b : TyS X T g) (hg : Gl X x) (hm : X.mg x = none) (hv : bootBuiltins x = some (.type T)) (ha : SA X P (e :: es) fs) (hn : x ≠ "__name__" := by decide) (hdb : (x == ("__debug__" : Str)) = false := by decide)
    (he : starEach (e :: es) X.env = (false, eval e X.env) :: starEach es X.env := by rfl) (hpl : (backTo pos (starEach es X.env)).any (·.1) = false := by rfl) : SX X P (.Call (.Name x p) (e :: es) [] pos) (xFn g fs) := by
  obtain ⟨r, h1, h2⟩ := b.ex
  exact PE.imp (pe_callTy h1 hg hm hv ha hn hdb he hpl) fun _ _ _ h => rn_fnS h2 h
end
/-! what they answer -/
@[simp] def gLen : List PyData → Option PyData
  | [.list ds] => some (.int ds.length)
  | [.tuple ds] => some (.int ds.length)
  | [.str z] => if z.length ≤ SL then some (.int z.length) else none
  | _ => none
@[simp] def gAbs : List PyData → Option PyData | [.int i] => some (.int (if i < 0 then -i else i)) | _ => none
@[simp] def gMax2 : List PyData → Option PyData | [.int i, .int j] => some (.int (if j > i then j else i)) | _ => none
@[simp] def gMin2 : List PyData → Option PyData | [.int i, .int j] => some (.int (if j < i then j else i)) | _ => none
@[simp] def gInt : List PyData → Option PyData | [.int i] => some (.int i) | [.bool k] => some (.int (if k then 1 else 0)) | _ => none
def intsOf : List PyData → Option (List Int)
  | [] => some []
  | .int i :: r => (intsOf r).map (i :: ·)
  | _ :: _ => none
def boolsOf : List PyData → Option (List Bool)
  | [] => some []
  | .bool i :: r => (boolsOf r).map (i :: ·)
  | _ :: _ => none
@[simp] theorem intsOf_nil : intsOf [] = some [] := nofl rfl
@[simp] theorem intsOf_cons (i : Int) (r : List PyData) : intsOf (.int i :: r) = (intsOf r).map (i :: ·) := nofl rfl
@[simp] theorem boolsOf_nil : boolsOf [] = some [] := nofl rfl
@[simp] theorem boolsOf_cons (i : Bool) (r : List PyData) : boolsOf (.bool i :: r) = (boolsOf r).map (i :: ·) := nofl rfl
@[simp] theorem intsOf_map (ns : List Int) : intsOf (ns.map .int) = some ns := by
  induction ns with
  | nil => rfl
  | cons n r ih => simp [ih]
@[simp] theorem boolsOf_map (ns : List Bool) : boolsOf (ns.map .bool) = some ns := by
  induction ns with
  | nil => rfl
  | cons n r ih => simp [ih]
theorem intsOf_some : ∀ {ds : List PyData} {ns : List Int}, intsOf ds = some ns → ds = ns.map .int
  | [], ns, h => by
    cases (show [] = ns from Option.some.inj h)
    rfl
  | d :: ds, ns, h => by
    cases d with
    | int i =>
      rw [intsOf_cons] at h
      obtain ⟨ms, e, rfl⟩ := Option.map_eq_some_iff.mp h
      rw [intsOf_some e]
      rfl
    | _ => cases h
theorem boolsOf_some : ∀ {ds : List PyData} {ns : List Bool}, boolsOf ds = some ns → ds = ns.map .bool
  | [], ns, h => by
    cases (show [] = ns from Option.some.inj h)
    rfl
  | d :: ds, ns, h => by
    cases d with
    | bool i =>
      rw [boolsOf_cons] at h
      obtain ⟨ms, e, rfl⟩ := Option.map_eq_some_iff.mp h
      rw [boolsOf_some e]
      rfl
    | _ => cases h
def gAll : List PyData → Option PyData | [.list ds] => (boolsOf ds).map fun bs => .bool (bs.all id) | _ => none
def gAny : List PyData → Option PyData | [.list ds] => (boolsOf ds).map fun bs => .bool (bs.any id) | _ => none
def gSum : List PyData → Option PyData | [.list ds] => (intsOf ds).map fun ns => .int ns.sum | _ => none
@[simp] theorem gAll_map (bs : List Bool) : gAll [.list (bs.map .bool)] = some (.bool (bs.all id)) := by simp [gAll]
@[simp] theorem gAny_map (bs : List Bool) : gAny [.list (bs.map .bool)] = some (.bool (bs.any id)) := by simp [gAny]
@[simp] theorem gSum_map (ns : List Int) : gSum [.list (ns.map .int)] = some (.int ns.sum) := by simp [gSum]
/-- ascending -/
def sortI (ns : List Int) : List Int := ns.mergeSort (fun a b => decide (a ≤ b))
def gSorted : List PyData → Option Sl | [.list ds] => (intsOf ds).map fun ns => .own ((sortI ns).map .int) | _ => none
@[simp] theorem gSorted_map (ns : List Int) : gSorted [.list (ns.map .int)] = some (.own ((sortI ns).map .int)) := by simp [gSorted]
@[simp] def gList : List PyData → Option Sl | [.list ds] => some (.own ds) | [.tuple ds] => some (.own ds) | _ => none
@[simp] def gTuple : List PyData → Option PyData | [.list ds] => some (.tuple ds) | [.tuple ds] => some (.tuple ds) | _ => none
section
variable {K : PySem.W.Frag}
theorem one {Y : Wd} {H : Hp} {xs : List V} {ds : List PyData} {d : PyData} (h : Paired (Dr K Y H) xs ds) (e : ds = [d]) : ∃ x, xs = [x] ∧ Dr K Y H x d := by
  subst e
  cases h with
  | cons h1 h2 =>
    cases h2
    exact ⟨_, rfl, h1⟩
theorem two {Y : Wd} {H : Hp} {xs : List V} {ds : List PyData} {d d' : PyData} (h : Paired (Dr K Y H) xs ds) (e : ds = [d, d']) : ∃ x x', xs = [x, x'] ∧ Dr K Y H x d ∧ Dr K Y H x' d' := by
  subst e
  cases h with
  | cons h1 h2 =>
    cases h2 with
    | cons h2 h3 =>
      cases h3
      exact ⟨_, _, rfl, h1, h2⟩
variable {X : Cx}
theorem bi_len : BiR X "len" gLen := by
  refine ⟨_, call_len, ?_⟩
  intro Y M H xs ds d Q g0 h e q
  have fin : ∀ {x : V} {n : Nat}, xs = [x] → LenV X.K x H n → d = .int n → ∃ x n, xs = [x] ∧ LenV X.K x H n ∧ Q (.int n) H := fun {x n} h1 h2 h3 => by
    subst h3
    exact ⟨x, n, h1, h2, q Y H _ (Step.refl Y H) g0 (.int _)⟩
  match ds, e with
  | [.list es], e =>
    cases e
    obtain ⟨x, rfl, dx⟩ := one h rfl
    obtain ⟨a, ys, rfl, h1, h2⟩ := dx.lst
    exact fin (n := ys.length) rfl (.inl ⟨ys, h1, rfl⟩) (by rw [h2.length])
  | [.tuple es], e =>
    cases e
    obtain ⟨x, rfl, dx⟩ := one h rfl
    obtain ⟨a, ys, rfl, h1, h2⟩ := dx.tup
    exact fin (n := ys.length) rfl (.inr ⟨ys, h1, rfl⟩) (by rw [h2.length])
  | [.str z], e =>
    have e : (if z.length ≤ SL then some (PyData.int z.length) else none) = some d := e
    obtain ⟨x, rfl, dx⟩ := one h rfl
    by_cases hz : z.length ≤ SL
    · rw [if_pos hz] at e
      cases e
      rw [dx.str]
      exact ⟨_, z.length, rfl, ⟨by rw [sl_eq]; exact hz, rfl⟩, q Y H _ (Step.refl Y H) g0 (.int _)⟩
    · rw [if_neg hz] at e; cases e
theorem bi_abs : BiR X "abs" gAbs := by
  refine ⟨_, call_abs, ?_⟩
  intro Y M H xs ds d Q g0 h e q
  match ds, e with
  | [.int i], e =>
    cases e
    obtain ⟨x, rfl, dx⟩ := one h rfl
    rw [dx.int]
    exact ⟨i, rfl, q Y H _ (Step.refl Y H) g0 (.int _)⟩
theorem bi_max2 (hc : X.calm = true) : BiR X "max" gMax2 := by
  refine ⟨_, call_max2 hc, ?_⟩
  intro Y M H xs ds d Q g0 h e q
  match ds, e with
  | [.int i, .int j], e =>
    cases e
    obtain ⟨x, y, rfl, dx, dy⟩ := two h rfl
    rw [dx.int, dy.int]
    exact ⟨i, j, rfl, q Y H _ (Step.refl Y H) g0 (.int _)⟩
theorem bi_min2 (hc : X.calm = true) : BiR X "min" gMin2 := by
  refine ⟨_, call_min2 hc, ?_⟩
  intro Y M H xs ds d Q g0 h e q
  match ds, e with
  | [.int i, .int j], e =>
    cases e
    obtain ⟨x, y, rfl, dx, dy⟩ := two h rfl
    rw [dx.int, dy.int]
    exact ⟨i, j, rfl, q Y H _ (Step.refl Y H) g0 (.int _)⟩
theorem ty_int : TyR X "int" gInt := by
  refine ⟨_, call_int1, ?_⟩
  intro Y M H xs ds d Q g0 h e q
  match ds, e with
  | [.int i], e =>
    cases e
    obtain ⟨x, rfl, dx⟩ := one h rfl
    rw [dx.int]
    exact .inl ⟨i, rfl, q Y H _ (Step.refl Y H) g0 (.int _)⟩
  | [.bool k], e =>
    cases e
    obtain ⟨x, rfl, dx⟩ := one h rfl
    rw [dx.bl]
    exact .inr ⟨k, rfl, q Y H _ (Step.refl Y H) g0 (.int _)⟩
theorem bi_all (hc : X.calm = true) : BiR X "all" gAll := by
  refine ⟨_, cr_all hc, ?_⟩
  intro Y M H xs ds d Q g0 h e q
  match ds, e with
  | [.list es], e =>
    obtain ⟨bs, eb, rfl⟩ := Option.map_eq_some_iff.mp (show (boolsOf es).map (fun bs => PyData.bool (bs.all id)) = some d from e)
    obtain ⟨x, rfl, dx⟩ := one h rfl
    obtain ⟨a, ys, rfl, h1, h2⟩ := dx.lst
    rw [boolsOf_some eb] at h2
    rw [RpA.bl_inv h2] at h1
    exact ⟨a, bs, rfl, h1, q Y H _ (Step.refl Y H) g0 (.bl _)⟩
theorem bi_any (hc : X.calm = true) : BiR X "any" gAny := by
  refine ⟨_, cr_any hc, ?_⟩
  intro Y M H xs ds d Q g0 h e q
  match ds, e with
  | [.list es], e =>
    obtain ⟨bs, eb, rfl⟩ := Option.map_eq_some_iff.mp (show (boolsOf es).map (fun bs => PyData.bool (bs.any id)) = some d from e)
    obtain ⟨x, rfl, dx⟩ := one h rfl
    obtain ⟨a, ys, rfl, h1, h2⟩ := dx.lst
    rw [boolsOf_some eb] at h2
    rw [RpA.bl_inv h2] at h1
    exact ⟨a, bs, rfl, h1, q Y H _ (Step.refl Y H) g0 (.bl _)⟩
theorem bi_sum (hc : X.calm = true) : BiR X "sum" gSum := by
  refine ⟨_, cr_sum hc, ?_⟩
  intro Y M H xs ds d Q g0 h e q
  match ds, e with
  | [.list es], e =>
    obtain ⟨ns, eb, rfl⟩ := Option.map_eq_some_iff.mp (show (intsOf es).map (fun bs => PyData.int bs.sum) = some d from e)
    obtain ⟨x, rfl, dx⟩ := one h rfl
    obtain ⟨a, ys, rfl, h1, h2⟩ := dx.lst
    rw [intsOf_some eb] at h2
    rw [RpA.int_inv h2] at h1
    exact ⟨a, ns, rfl, h1, q Y H _ (Step.refl Y H) g0 (.int _)⟩
theorem sortI_perm (ns : List Int) : (sortI ns).Perm ns := List.mergeSort_perm ns _
theorem sortI_sorted (ns : List Int) : (sortI ns).Pairwise (· ≤ ·) := by
  have h := List.pairwise_mergeSort (le := fun a b : Int => decide (a ≤ b)) (fun a b c h1 h2 => by
    have h1 := of_decide_eq_true h1
    have h2 := of_decide_eq_true h2
    exact decide_eq_true (Int.le_trans h1 h2)) (fun a b => by
    rcases Int.le_total a b with h | h
    · simp [h]
    · simp [h]) ns
  exact h.imp fun h => of_decide_eq_true h
theorem sorted_eq : ∀ {xs ys : List Int}, xs.Perm ys → xs.Pairwise (· ≤ ·) → ys.Pairwise (· ≤ ·) → xs = ys := fun {xs ys} p h1 h2 =>
  p.eq_of_pairwise (fun a b _ _ h h' => Int.le_antisymm h h') h1 h2
theorem bi_sorted : BiS X "sorted" gSorted := by
  refine ⟨_, cr_sortedI, ?_⟩
  intro Y M H xs ds d Q g0 h e q
  match ds, e with
  | [.list es], e =>
    obtain ⟨ns, eb, rfl⟩ := Option.map_eq_some_iff.mp (show (intsOf es).map (fun bs => Sl.own ((sortI bs).map .int)) = some d from e)
    obtain ⟨x, rfl, dx⟩ := one h rfl
    obtain ⟨a, ys, rfl, h1, h2⟩ := dx.lst
    rw [intsOf_some eb] at h2
    rw [RpA.int_inv h2] at h1
    refine ⟨a, ns, rfl, h1, fun ns' p hperm hsort hp => ?_⟩
    have e2 : ns' = sortI ns := sorted_eq (hperm.trans (sortI_perm ns).symm) hsort (sortI_sorted ns)
    rw [e2]
    exact q Y _ _ (Step.laid hp) (g0.laid hp) ⟨p, rfl, Ow.new g0 hp RpA.ints, hp⟩
theorem ty_list : TyS X "list" gList := by
  refine ⟨_, call_list_of, ?_⟩
  intro Y M H xs ds d Q g0 h e q
  match ds, e with
  | [.list es], e =>
    cases e
    obtain ⟨x, rfl, dx⟩ := one h rfl
    obtain ⟨a, ys, rfl, h1, h2⟩ := dx.lst
    exact ⟨a, ys, rfl, .inl h1, fun p hp => q Y _ _ (Step.laid hp) (g0.laid hp) ⟨p, rfl, Ow.new g0 hp h2, hp⟩⟩
  | [.tuple es], e =>
    cases e
    obtain ⟨x, rfl, dx⟩ := one h rfl
    obtain ⟨a, ys, rfl, h1, h2⟩ := dx.tup
    exact ⟨a, ys, rfl, .inr h1, fun p hp => q Y _ _ (Step.laid hp) (g0.laid hp) ⟨p, rfl, Ow.new g0 hp h2, hp⟩⟩
theorem ty_tuple : TyR X "tuple" gTuple := by
  refine ⟨_, call_tuple_of, ?_⟩
  intro Y M H xs ds d Q g0 h e q
  match ds, e with
  | [.list es], e =>
    cases e
    obtain ⟨x, rfl, dx⟩ := one h rfl
    obtain ⟨a, ys, rfl, h1, h2⟩ := dx.lst
    exact ⟨a, ys, rfl, .inl ⟨h1, fun p hp => q Y _ _ (Step.laid hp) (g0.laid hp) (Rp.newT g0 hp h2)⟩⟩
  | [.tuple es], e =>
    cases e
    obtain ⟨x, rfl, dx⟩ := one h rfl
    obtain ⟨a, ys, rfl, h1, h2⟩ := dx.tupT
    exact ⟨a, ys, rfl, .inr ⟨.inl (.inl h1), q Y _ _ (Step.refl Y H) g0 (.tup h1 h2)⟩⟩
end
end Mn

set_option Elab.async false
set_option linter.all false
set_option maxRecDepth 100000
set_option maxHeartbeats 4000000
/-! list(reversed(l)), tuple(reversed(t)) -/
namespace Mn
open PySem PySem.Spec PyProof.Rows L2
section
variable {prog : Program} {w : World} {A : Around} {E : Value → Shared → Prop} {s : Shared}
/-- an iterator whose length nobody hints at -/
def NoHint (prog : Program) (w : World) (it : Addr) (T : String) (S0 : Heap → Prop) : Prop :=
  ∀ (B : Around) (E : Value → Shared → Prop) (z : Shared) (Q : Bool → Shared → Prop), z.TypeIs (.ref it) T → S0 z.heap → (∀ b tk, Q b { z with toks := tk }) → wpAny (model prog w) B (Builtin.List.listLengthHint (.ref it)) Q E z
/-- S (new, empty) is filled from the iterator -/
theorem fill_from {it S : Addr} {T : String} {fp wr : List Addr} {n : Nat} {Pi : Nat → Value → Prop} {Si : Nat → Heap → Prop} {R : Result → Shared → Prop} {c0 : Nat} {res : Value}
    (W : Walks prog w A.in1 it fp wr n Pi Si) (hT : s.TypeIs (.ref it) T) (hl : (Value.type T == Value.type "list") = false) (ht : (Value.type T == Value.type "tuple") = false) (hint : NoHint prog w it T (Si 0))
    (hn : n ≤ sizeLine) (nS : S ∉ fp) (hne : S ≠ it) (st0 : Si 0 s.heap) (hS : s.heap.get? S = some { cls := .type "list", data := .seq #[] c0 })
    (fin : ∀ h' tk acc c', (∀ b o, b ≠ S → b ∉ wr → s.heap.get? b = some o → h'.get? b = some o) → h'.get? S = some { cls := .type "list", dict := none, data := .seq acc c', slots := #[] } → ItemsOf Pi acc n →
      R (.ok (.ret res)) { s with heap := h', toks := tk }) {Qf : PySem.Fin → Shared → Prop} {Ef : Value → Shared → Prop} (hQ : ∀ c' s', (c'.quiet = true ∧ codeAny (model prog w) A c' R s') → Qf (.again c') s') :
    wpAny (model prog w) A.in1 (Builtin.List.listExtendWith (.ref S) (.ref it) res) Qf Ef s := by
  have other : Builtin.List.listSameRef (.ref S) (.ref it) = false := by simp [Builtin.List.listSameRef, hne]
  unfold Builtin.List.listExtendWith
  refine wpAny_bind (wpAny_typeOf hT ?_)
  simp only [other, hl, ht, Bool.or_false, Bool.false_eq_true, if_false]
  refine wpAny_bind (W.self 0 s _ _ st0 ?_)
  refine wpAny_bind (wpAny_holding (hint _ _ _ _ hT st0 fun bh th => ?_))
  have run : ∀ (h : Heap) (c1 : Nat), (∀ b o, b ≠ S → s.heap.get? b = some o → h.get? b = some o) → h.get? S = some { cls := .type "list", data := .seq #[] c1 } → codeAny (model prog w) A (.builtin "list.extend.loop" ⟨[.ref S, .ref it, res], []⟩) R { s with heap := h, toks := th } := by
    intro h c1 kept hS1
    refine codeAny_extend_loopS W.toS hn S nS res n 0 { s with heap := h, toks := th } #[] c1 rfl (Nat.zero_le _) (W.frame 0 _ _ st0 fun b hb o e => kept b o (fun z => nS (z ▸ hb)) e) hS1 (ItemsOf.nil _) fun s' acc c' mv hS' got => ?_
    rw [Moved.eq_with mv]
    exact fin s'.heap s'.toks acc c' (fun b o hb hw e => mv.heap b o (fun z => (List.mem_cons.mp z).elim hb hw) (kept b o hb e)) hS' got
  refine wpAny_ite_split (fun _ => ?_) fun _ => wpAny_pure (hQ _ _ ⟨plainId_quiet F.plain_extend_loop _, run s.heap c0 (fun _ _ _ e => e) hS⟩)
  refine wpAny_bind (wpAny_rule (wpAny_bind ?_))
  show wpAny _ _ (updateSeq S (·.push .none) >>= fun _ => updateSeq S (·.pop)) _ _ _
  refine wpAny_bind (wpAny_updateSeq hS rfl ?_)
  have t1 := Heap.get?_update_self (Obj.mapSeq (·.push Value.none)) hS rfl
  refine wpAny_updateSeq (hz := by seq_fits) t1 rfl ?_
  have t2 := Heap.get?_update_self (Obj.mapSeq (·.pop)) t1 rfl
  exact wpAny_pure (hQ _ _ ⟨plainId_quiet F.plain_extend_loop _, run _ _ (fun b o hb e => (Heap.get?_update_other _ _ (Ne.symm hb)).trans ((Heap.get?_update_other _ _ (Ne.symm hb)).trans e)) t2⟩)
/-- list(it) -/
theorem list_from {it : Addr} {T : String} {fp wr : List Addr} {n : Nat} {Pi : Nat → Value → Prop} {Si : Nat → Heap → Prop} {Q : Value → Shared → Prop}
    (W : Walks prog w A.in1.in1 it fp wr n Pi Si) (hT : s.TypeIs (.ref it) T) (hl : (Value.type T == Value.type "list") = false) (ht : (Value.type T == Value.type "tuple") = false) (hint : NoHint prog w it T (Si 0))
    (hn : n ≤ sizeLine) (old : ∀ b ∈ fp, b < s.heap.objs.size) (iin : it ∈ fp) (st0 : Si 0 s.heap)
    (fin : ∀ h' tk acc c', (∀ b o, b ∉ wr → s.heap.get? b = some o → h'.get? b = some o) → h'.get? s.heap.objs.size = some { cls := .type "list", dict := none, data := .seq acc c', slots := #[] } → ItemsOf Pi acc n →
      Q (.ref s.heap.objs.size) { s with heap := h', toks := tk }) :
    wpAny (model prog w) A (call (.type "list") [.ref it]) Q E s := by
  refine callType_codes (Q₁ := fun obj s₁ => obj = .ref s.heap.objs.size ∧ s₁ = { s with heap := s.heap.push { cls := .type "list", data := .seq #[] } }) F.called_list (F.typeCall_list_1 _) F.entry_list_init
    (code_list_new _ ⟨rfl, rfl⟩) fun obj s₁ made => ?_
  obtain ⟨rfl, rfl⟩ := made
  have hS : (s.heap.push { cls := .type "list", data := .seq #[] }).get? s.heap.objs.size = some { cls := .type "list", data := .seq #[] } := Heap.get?_push_size _ rfl
  have nS : s.heap.objs.size ∉ fp := fun z => absurd (old _ z) (Nat.lt_irrefl _)
  have hne : s.heap.objs.size ≠ it := fun z => nS (z ▸ iin)
  refine ⟨⟨_, hS, rfl⟩, F.args_list_init_2 _ _, ?_⟩
  show wpAny _ _ (do let was ← Builtin.List.listItems (.ref s.heap.objs.size); Builtin.List.listUpdate (.ref s.heap.objs.size) (fun _ => #[]); letGo was.toList.reverse; Builtin.List.listExtendWith (.ref s.heap.objs.size) (.ref it) .none) _ _ _
  refine wpAny_bind ?_
  unfold Builtin.List.listItems
  refine wpAny_bind (wpAny_seqItems hS rfl (wpAny_pure ?_))
  show wpAny _ _ (updateSeq s.heap.objs.size (fun _ => #[]) >>= fun _ => letGo (#[] : Array Value).toList.reverse >>= fun _ => Builtin.List.listExtendWith (.ref s.heap.objs.size) (.ref it) .none) _ _ _
  refine wpAny_bind (wpAny_updateSeq hS rfl ?_)
  have hS2 := Heap.get?_update_self (Obj.mapSeq (fun _ => (#[] : Array Value))) hS rfl
  have oth : ∀ b o, b ≠ s.heap.objs.size → s.heap.get? b = some o → ((s.heap.push { cls := .type "list", data := .seq #[] }).update s.heap.objs.size (Obj.mapSeq (fun _ => (#[] : Array Value)))).get? b = some o :=
    fun b o hb e => (Heap.get?_update_other _ _ (Ne.symm hb)).trans (Heap.get?_push_of_some _ e)
  refine wpAny_bind (wpAny_letGo ?_)
  obtain ⟨ot, hot, hct⟩ := hT
  refine fill_from W (T := T) ⟨ot, oth it ot hne.symm hot, hct⟩ hl ht hint hn nS hne (W.frame 0 _ _ st0 fun b hb o e => oth b o (fun z => nS (z ▸ hb)) e) hS2 (fun h' tk acc c' keep hS' got => ?_) (fun _ _ z => z)
  exact ⟨rfl, fin h' tk acc c' (fun b o hb e => keep b o (Nat.ne_of_lt (Heap.lt_size e)) hb (oth b o (Nat.ne_of_lt (Heap.lt_size e)) e)) hS' got⟩
theorem nohint_lri {it : Addr} {S0 : Heap → Prop} : NoHint prog w it "list_reverseiterator" S0 := by
  intro B E z Q hT _ hq
  unfold Builtin.List.listLengthHint
  refine wpAny_bind (wpAny_specialOf hT RT.nolen_lri ?_)
  show wpAny _ B (specialOf (Value.ref it) (Str.ofString "__length_hint__") >>= _) _ _ _
  refine wpAny_bind (wpAny_specialOf hT RT.hint_lri ?_)
  generalize hid : ("list_reverseiterator.__length_hint__" : String) = id0
  wp_delta
  rw [show splitId id0 = some ("list_reverseiterator", "__length_hint__") from by subst hid; decide +kernel]
  subst hid
  exact wpAny_bind (wpAny_isInstance (b := true) hT (by rw [isSubtype_type]; kernel_rfl) (wpAny_pure (hq false z.toks)))
end
section
variable {X : Cx} {P : Pm} {e : Expr} {p p2 pos pos2 : Pos} {f : Ex Val}
/-- list(reversed(x)), x a list -/
def tLstRev (K : PySem.W.Frag) (te : TE) : TE := fun σ H Q => te σ H fun v H1 => ∃ (a : Addr) (xs : List V), v = .ref a ∧ SqL K H1 a xs ∧ ∀ q, H1 q = none → Q (.ref q) (upd H1 q (.lst xs.reverse))
theorem pe_listRev {te : TE} (hc : X.calm = true) (hg : Gl X "list") (hm : X.mg "list" = none) (hg2 : Gl X "reversed") (hm2 : X.mg "reversed" = none) (he : PE X e te)
    (hs : starEach [e] X.env = (false, eval e X.env) :: starEach [] X.env := by rfl)
    (hs2 : starEach [.Call (.Name "reversed" p2) [e] [] pos2] X.env = (false, eval (.Call (.Name "reversed" p2) [e] [] pos2) X.env) :: starEach [] X.env := by rfl) :
    PE X (.Call (.Name "list" p) [.Call (.Name "reversed" p2) [e] [] pos2] [] pos) (tLstRev X.K te) := by
  refine ⟨fun pins s σ H Q I h => ?_⟩
  refine Call_ (ld_blt I hg hm boot_list (PyProof.Rows.callWith_type1 (args_cons (Call_ (ld_blt I hg2 hm2 PyProof.Rows.boot_reversed (PyProof.Rows.callWith_type1 (args_cons (thn (he.run pins s σ H _ I h) fun u s1 ⟨v, H1, J, rv, q1⟩ => args_nil ?_) hs) hs rfl))) hs2) hs2 rfl))
  obtain ⟨a, xs, ev, hq, q⟩ := q1
  subst ev
  cases (show u = Value.ref a from rv)
  obtain ⟨its, vs, pl, hz⟩ := J.list hq
  refine call_reversed_list pl.isList (args_nil ?_)
  have J2 : Inv X pins σ H1 { s1 with heap := s1.heap.push (revObj a ((its.toArray.size : Int) - 1)) } := J.kept (t' := s1.toks) fun b o e => Heap.get?_push_of_some _ e
  obtain ⟨f0, f1, _, f3, f4, f5⟩ := J.fpOk (H' := H1) (b := s1.heap.objs.size) (Nat.le_refl _) (J.hok.fresh (Nat.le_refl _))
  have hl := pl.isList
  obtain ⟨ol, hol, _⟩ := id hl
  have hlt : a < s1.heap.objs.size := Heap.lt_size hol
  have hne : a ≠ s1.heap.objs.size := Nat.ne_of_lt hlt
  have hn : its.toArray.size ≤ sizeLine := by rw [List.size_toArray, ← vs.length]; exact hz
  have e0 : ((its.toArray.size : Nat) : Int) - 1 - ((0 : Nat) : Int) = (its.toArray.size : Int) - 1 := by omega
  have it0 : (s1.heap.push (revObj a ((its.toArray.size : Int) - 1))).IsRevIter s1.heap.objs.size a ((its.toArray.size : Int) - 1) := ⟨_, Heap.get?_push_size _ rfl, rfl, rfl⟩
  refine list_from (s := { s1 with heap := s1.heap.push (revObj a ((its.toArray.size : Int) - 1)) }) (Walks.listRev (A := X.A.in1.in1) (J.ok.hd hc) s1.heap.objs.size a hne its.toArray) (T := "list_reverseiterator")
    it0.typeIs (by decide) (by decide) nohint_lri hn (fun b hb => ?_) (by simp) ⟨Nat.zero_le _, by rw [e0]; exact it0, hl.push _⟩ fun h' tk acc c' keep hS got => ?_
  · rw [Heap.size_push]
    rcases List.mem_cons.mp hb with z | z
    · rw [z]; exact Nat.lt_succ_self _
    · rw [List.mem_singleton.mp z]; exact Nat.lt_succ_of_lt hlt
  · have big : (s1.heap.push (revObj a ((its.toArray.size : Int) - 1))).objs.size = s1.heap.objs.size + 1 := Heap.size_push ..
    have keep0 : ∀ b o, s1.heap.get? b = some o → h'.get? b = some o := fun b o e => keep b o (fun z => absurd (Heap.lt_size e) (by rw [List.mem_singleton.mp z]; exact Nat.lt_irrefl _)) (Heap.get?_push_of_some _ e)
    refine ⟨.ref (s1.heap.objs.size + 1), upd H1 (s1.heap.objs.size + 1) (.lst xs.reverse), J.laid (t' := tk) keep0 (Nat.le_succ _) (show ObjOk X.prog X.w _ h' _ (.lst xs.reverse) from ⟨by rw [List.length_reverse]; exact hz, acc.toList, c', RT.vals_rev vs got, ?_⟩), ?_, q _ (J.hok.fresh (Nat.le_succ _))⟩
    · rw [Array.toArray_toList, ← big]
      exact hS
    · show Value.ref _ = Value.ref _
      rw [← big]
def gRevL0 : List PyData → Option Sl := fun ds => match ds with | [.list es] => some (.own es.reverse) | _ => none
@[simp] theorem gRevL0_list (es : List PyData) : gRevL0 [.list es] = some (.own es.reverse) := nofl rfl
theorem sx_listRev (hc : X.calm = true) (hg : Gl X "list") (hm : X.mg "list" = none) (hg2 : Gl X "reversed") (hm2 : X.mg "reversed" = none) (he : SE X P e f)
    (hs : starEach [e] X.env = (false, eval e X.env) :: starEach [] X.env := by rfl)
    (hs2 : starEach [.Call (.Name "reversed" p2) [e] [] pos2] X.env = (false, eval (.Call (.Name "reversed" p2) [e] [] pos2) X.env) :: starEach [] X.env := by rfl) :
    SX X P (.Call (.Name "list" p) [.Call (.Name "reversed" p2) [e] [] pos2] [] pos) (xFn gRevL0 (aCons f aNil)) := by
  refine PE.imp (pe_listRev hc hg hm hg2 hm2 he hs hs2) fun σ H Q h => ?_
  obtain ⟨Y, M, st, g0, fr, h⟩ := h
  have h : Post X.K P (RS X.K) st σ Y H ((f st M).bind fun v M1 => Out.ofOpt ((derefAll st M1 [v]).bind fun ds => match ds with | [.list es] => some (Sl.own es.reverse) | _ => none) M1) Q := by
    have e : xFn gRevL0 (aCons f aNil) st M = (f st M).bind fun v M1 => Out.ofOpt ((derefAll st M1 [v]).bind fun ds => match ds with | [.list es] => some (Sl.own es.reverse) | _ => none) M1 := by
      unfold xFn aCons aNil
      cases f st M <;> rfl
    rw [← e]
    exact h
  refine ⟨Y, M, st, g0, fr, Post.bind (R1 := RV X.K) shS h fun va M1 Y1 H1 x _ s1 g1 r1 q1 => ?_⟩
  obtain ⟨v, ev, q⟩ := Post.opt q1
  obtain ⟨ds, ed, e2⟩ := Option.bind_eq_some_iff.mp ev
  obtain ⟨d, e3, e4⟩ := Option.bind_eq_some_iff.mp (show ((deref st M1 va).bind fun d => (derefAll st M1 []).map (d :: ·)) = some ds from ed)
  cases (show [d] = ds from Option.some.inj e4)
  have dr := Dr.of g1 (fr.step g0 s1) r1 e3
  cases d with
  | list es =>
    cases e2
    obtain ⟨a, ys, rfl, h1, h2⟩ := dr.lst
    exact ⟨a, ys, rfl, h1, fun t ht => q Y1 _ _ (Step.laid ht) (g1.laid ht) ⟨t, rfl, Ow.new g1 ht h2.reverse, ht⟩⟩
  | _ => cases e2
end
section
variable {prog : Program} {w : World} {A : Around} {E : Value → Shared → Prop} {s : Shared}
theorem collect_from {it : Addr} {T : String} {fp wr : List Addr} {n : Nat} {Pi : Nat → Value → Prop} {Si : Nat → Heap → Prop} {Q : List Value → Shared → Prop}
    (W : Walks prog w A.in1 it fp wr n Pi Si) (hT : s.TypeIs (.ref it) T) (hl : (Value.type T == Value.type "list") = false) (ht : (Value.type T == Value.type "tuple") = false) (hint : NoHint prog w it T (Si 0))
    (hn : n ≤ sizeLine) (old : ∀ b ∈ fp, b < s.heap.objs.size) (iin : it ∈ fp) (st0 : Si 0 s.heap)
    (fin : ∀ h' tk acc, (∀ b o, b ∉ wr → s.heap.get? b = some o → h'.get? b = some o) → ItemsOf Pi acc n → Q acc.toList { s with heap := h', toks := tk }) : wpAny (model prog w) A (collect (.ref it)) Q E s := by
  unfold collect
  refine wpAny_bind (wpAny_runValue (codeAny_builtin F.entry_proto_collect ?_))
  rw [Around.under_plainId F.plain_proto_collect _]
  show wpAny _ A.in1 (newList [] >>= fun fresh => again (.builtin "list.__iadd__" ⟨[fresh, .ref it], []⟩)) _ _ s
  refine wpAny_bind (wpAny_newObj_type (wpAny_pure ⟨plainId_quiet F.plain_list_iadd _, codeAny_builtin F.entry_list_iadd ?_⟩))
  rw [Around.under_plainId F.plain_list_iadd _]
  have hS : (s.heap.push { cls := .type "list", data := .seq ([] : List Value).toArray }).get? s.heap.objs.size = some { cls := .type "list", data := .seq #[] } := Heap.get?_push_size _ rfl
  have nS : s.heap.objs.size ∉ fp := fun z => absurd (old _ z) (Nat.lt_irrefl _)
  obtain ⟨ot, hot, hct⟩ := hT
  show wpAny _ A.in1 (Builtin.List.listExtendWith (.ref s.heap.objs.size) (.ref it) (.ref s.heap.objs.size)) _ _ _
  refine fill_from (s := { s with heap := s.heap.push { cls := .type "list", data := .seq ([] : List Value).toArray } }) W (T := T) ⟨ot, Heap.get?_push_of_some _ hot, hct⟩ hl ht hint hn nS (fun z => nS (z ▸ iin))
    (W.frame 0 _ _ st0 fun b _ o e => Heap.get?_push_of_some _ e) hS (fun h' tk acc c' keep hS' got => ?_) (fun _ _ z => z)
  show wpAny _ A (load s.heap.objs.size >>= _) _ _ _
  refine wpAny_bind (wpAny_load hS' (wpAny_pure ?_))
  exact fin h' tk acc (fun b o hb e => keep b o (Nat.ne_of_lt (Heap.lt_size e)) hb (Heap.get?_push_of_some _ e)) got
theorem tuple_from {it : Addr} {T : String} {fp wr : List Addr} {n : Nat} {Pi : Nat → Value → Prop} {Si : Nat → Heap → Prop} {Q : Value → Shared → Prop}
    (W : Walks prog w A.in1.in1.in1 it fp wr n Pi Si) (hT : s.TypeIs (.ref it) T) (hl : (Value.type T == Value.type "list") = false) (ht : (Value.type T == Value.type "tuple") = false) (hint : NoHint prog w it T (Si 0))
    (hn : n ≤ sizeLine) (old : ∀ b ∈ fp, b < s.heap.objs.size) (iin : it ∈ fp) (st0 : Si 0 s.heap)
    (fin : ∀ (h' : Heap) (tk : Nat) (acc : Array Value), (∀ b o, b ∉ wr → s.heap.get? b = some o → h'.get? b = some o) → ItemsOf Pi acc n → Q (.ref h'.objs.size) { s with heap := h'.push { cls := .type "tuple", data := .seq acc }, toks := tk }) :
    wpAny (model prog w) A (call (.type "tuple") [.ref it]) Q E s := by
  refine callType_codes (Q₁ := fun obj s₁ => s₁.TypeIs obj "tuple" ∧ Q obj s₁) F.called_tuple (F.typeCall_tuple_1 _) F.entry_object_init
    (codeAny_of_tree ?_) fun obj s₁ made => ⟨made.1, F.args_object_init_2 obj _, object_init_meets F.called_tuple.init.lookup F.called_tuple.made (by decide) prog w A.in1 _ s₁ ⟨made.1, rfl, made.2⟩⟩
  show wpAny _ A.in1.in1 (do checkBuiltinCall "tuple.__new__" ⟨[.type "tuple", .ref it], []⟩; again (.builtin "tuple.__new__" ⟨[.type "tuple", .ref it], []⟩)) _ _ s
  refine wpAny_bind (wpAny_of_eq (F.newCall_tuple_1 _) (wpAny_pure ⟨plainId_quiet F.plain_tuple_new _, codeAny_builtin F.entry_tuple_new ?_⟩))
  rw [Around.under_plainId F.plain_tuple_new _]
  have k1 := sub_tuple_self
  have k2 := init_tuple_lookup
  have k3 := madeHere_tuple
  wp_walk using wpAny_typeOf hT, collect_from W hT hl ht hint hn old iin st0
  intro h' tk acc keep got
  show wpAny _ _ (Builtin.Tuple.tupleExact acc.toList.toArray >>= fun v => ret v) _ _ _
  unfold Builtin.Tuple.tupleExact
  refine wpAny_bind (wpAny_newObj_type ?_ (by show acc.toList.toArray.size ≤ sizeLine; simp only [Array.toArray_toList]; rw [got.1]; exact hn))
  refine wpAny_pure ?_
  have e : acc.toList.toArray = acc := by simp
  rw [e]
  exact ⟨⟨_, Heap.get?_push_size _ rfl, rfl⟩, fin h' tk acc keep got⟩
theorem nolen_rt : typeLookup (.type "reversed") "__len__" = pure none := by rw [typeLookup_type, builtinLookup_eq_fast]; kernel_rfl
theorem hint_rt : typeLookup (.type "reversed") "__length_hint__" = pure (some (.builtin "reversed.__length_hint__")) := by rw [typeLookup_type, builtinLookup_eq_fast]; kernel_rfl
theorem tup_at {h h' : Heap} {t : Addr} {items : Array Value} (x : IsTup h t items) (e : ∀ o, h.get? t = some o → h'.get? t = some o) : IsTup h' t items := by
  obtain ⟨o, ho, hc, r⟩ := x
  exact ⟨o, e o ho, hc, r⟩
theorem walksRt (hh : A.handled = none) (I t : Addr) (hne : t ≠ I) (items : Array Value) (hz : items.size ≤ sizeLine) :
    Walks prog w A I [I, t] [I] items.size (fun i v => items[items.size - 1 - i]? = some v) (fun i h => i ≤ items.size ∧ RT.IsRt h I t ((items.size : Int) - 1 - (i : Int)) ∧ IsTup h t items) where
  sub := fun b hb => by simp at hb; simp [hb]
  frame := fun _ _ _ x hk => ⟨x.1, x.2.1.at fun o e => hk I (by simp) o e, tup_at x.2.2 fun o e => hk t (by simp) o e⟩
  item := fun i s Q E hi x hQ => by
    have e : (items.size : Int) - 1 - (i : Int) = ((items.size - 1 - i : Nat) : Int) := by omega
    have hit := x.2.1
    rw [e] at hit
    have hx : items[items.size - 1 - i]? = some (items[items.size - 1 - i]'(by omega)) := Array.getElem?_eq_getElem (by omega)
    refine RT.next_rt_item hit x.2.2 hx hz fun h' hit' same => ?_
    have e2 : ((items.size - 1 - i : Nat) : Int) - 1 = (items.size : Int) - 1 - ((i + 1 : Nat) : Int) := by omega
    rw [e2] at hit'
    exact hQ _ h' (s.toks + 1) hx ⟨hi, hit', tup_at x.2.2 fun o eo => (same.2 t hne).trans eo⟩ fun b o hb eo => (same.2 b fun z => hb (by simp [z])).trans eo
  done := fun s Q E x hQ => by
    have e : (items.size : Int) - 1 - (items.size : Int) = -1 := by omega
    have hit := x.2.1
    rw [e] at hit
    exact RT.next_rt_end hh hit fun h' kept => hQ h' s.toks fun b o hb eo => kept b o (fun z => hb (by simp [z])) eo
  self := fun _ _ _ _ x hQ => RT.iter_rt x.2.1 hQ
end
section
variable {prog : Program} {w : World}
theorem slot_rt_hint : Slot "reversed" "__length_hint__" "reversed.__length_hint__" :=
  .of (owner := "reversed") (n := "__length_hint__") (by rw [typeLookup_type, builtinLookup_eq_fast]; kernel_rfl) (by decide +kernel) (by decide +kernel) (by decide +kernel)
    (by first | exact .inl (by decide +kernel) | exact .inr (by decide +kernel)) (by rw [isSubtype_type]; kernel_rfl)
theorem entry_rt_hint : entryFor table "reversed.__length_hint__" = some Builtin.«reversed.__length_hint__» := entryFor_of_tree (by kernel_rfl)
theorem args_rt_hint (a : Value) : argsOk "reversed.__length_hint__" ⟨[a], []⟩ := by
  unfold argsOk; rw [signature?_of (id := "reversed.__length_hint__") (n := ['_', '_', 't', 'n', 'i', 'h', '_', 'h', 't', 'g', 'n', 'e', 'l', '_', '_']) (o := ['d', 'e', 's', 'r', 'e', 'v', 'e', 'r']) (by kernel_rfl) RT.owner_rt]; kernel_rfl
theorem hint_rtup {it t : Addr} {items : Array Value} (hz : items.size ≤ sizeLine) : NoHint prog w it "reversed" (fun h => 0 ≤ items.size ∧ RT.IsRt h it t ((items.size : Int) - 1 - ((0 : Nat) : Int)) ∧ IsTup h t items) := by
  intro B E z Q hT st hq
  obtain ⟨_, hit, ht⟩ := st
  obtain ⟨o, ho, hc, hd⟩ := id hit
  have hs := hz
  rw [sizeLine_eq] at hs
  unfold Builtin.List.listLengthHint
  refine wpAny_bind (wpAny_specialOf hT nolen_rt ?_)
  show wpAny _ B (specialOf (Value.ref it) (Str.ofString "__length_hint__") >>= _) _ _ _
  refine wpAny_bind (wpAny_specialOf hT hint_rt ?_)
  generalize hid : ("reversed.__length_hint__" : String) = id0
  wp_delta
  rw [show splitId id0 = some ("reversed", "__length_hint__") from by subst hid; decide +kernel]
  subst hid
  refine wpAny_bind (wpAny_isInstance (b := true) hT (by rw [isSubtype_type]; kernel_rfl) ?_)
  refine wpAny_ite_split (fun hab => absurd hab (by decide)) (fun _ => ?_)
  refine wpAny_ite_split (fun hab => absurd hab (by decide +kernel)) (fun _ => ?_)
  refine wpAny_bind (wpAny_rule ?_)
  refine wpAny_bind (wpAny_of_eq (slot_rt_hint.bind _) ?_)
  refine wpAny_bind (wpAny_attempt (wpAny_call_entry slot_rt_hint hT entry_rt_hint ?_ (args_rt_hint _)))
  unfold Builtin.«reversed.__length_hint__»
  refine wpAny_bind (wpAny_of_eq (a := Value.ref it) rfl ?_)
  refine wpAny_bind (wpAny_field ho hd (x := .ref t) rfl ?_)
  refine wpAny_ite_split (fun hab => Bool.noConfusion hab) (fun _ => ?_)
  have hlen : ∀ (A : Around) (E : Value → Shared → Prop) (Q : Value → Shared → Prop), Q (.int items.size (z.toks + 1)) { z with toks := z.toks + 1 + 1 } → wpAny (model prog w) A (call (.builtin "len") [.ref t]) Q E z := fun A E Q k => len_tuple ht (by omega) k
  refine wpAny_bind (hlen _ _ _ ?_)
  refine wpAny_bind (wpAny_of_eq (a := some ((items.size : Nat) : Int)) rfl ?_)
  refine wpAny_bind (wpAny_field (s := { z with toks := z.toks + 1 + 1 }) ho hd (x := rawInt ((items.size : Int) - 1 - ((0 : Nat) : Int))) rfl ?_)
  show wpAny _ _ (if ((items.size : Nat) : Int) < (items.size : Int) - 1 - ((0 : Nat) : Int) + 1 then _ else retInt ((items.size : Int) - 1 - ((0 : Nat) : Int) + 1)) _ _ _
  rw [if_neg (by omega)]
  have e1 : (items.size : Int) - 1 - ((0 : Nat) : Int) + 1 = (items.size : Int) := by omega
  rw [e1]
  unfold retInt
  refine wpAny_bind (wpAny_mkInt ?_)
  refine wpAny_pure ?_
  refine Exists.intro (Value.int (items.size : Int) (z.toks + 1 + 1)) ?_
  refine And.intro rfl ?_
  show wpAny _ _ (asInt? (Value.int (items.size : Int) (z.toks + 1 + 1)) >>= _) _ _ _
  have ai : asInt? (Value.int (items.size : Int) (z.toks + 1 + 1)) = pure (some (items.size : Int)) := by rw [asInt?]
  rw [ai]
  refine wpAny_bind ?_
  refine wpAny_pure ?_
  have c1 : ¬ (!Builtin.List.listFitsIndex (items.size : Int)) = true := by
    rw [fitsIndex_both (by omega) (by omega)]
    exact Bool.false_ne_true
  have c2 : ¬ Builtin.List.listTooLong ((items.size : Nat) : Int).toNat = true := by
    rw [Int.toNat_natCast, notLongL hz]
    exact Bool.false_ne_true
  have c3 : ¬ (items.size : Int) < 0 := by omega
  simp only [c1, c2, c3, if_false, Bool.false_eq_true]
  exact wpAny_pure (hq _ _)
end
section
variable {X : Cx} {P : Pm} {e : Expr} {p p2 pos pos2 : Pos} {f : Ex Val}
/-- tuple(reversed(t)), t a tuple -/
def tTupRevT (K : PySem.W.Frag) (te : TE) : TE := fun σ H Q => te σ H fun v H1 => ∃ (a : Addr) (xs : List V), v = .ref a ∧ (SqL K H1 a xs ∨ SqT K H1 a xs) ∧ ∀ q, H1 q = none → Q (.ref q) (upd H1 q (.tup xs.reverse))
theorem pe_tupRevA {te : TE} (hc : X.calm = true) (hg : Gl X "tuple") (hm : X.mg "tuple" = none) (hg2 : Gl X "reversed") (hm2 : X.mg "reversed" = none) (he : PE X e te)
    (hs : starEach [e] X.env = (false, eval e X.env) :: starEach [] X.env := by rfl)
    (hs2 : starEach [.Call (.Name "reversed" p2) [e] [] pos2] X.env = (false, eval (.Call (.Name "reversed" p2) [e] [] pos2) X.env) :: starEach [] X.env := by rfl) :
    PE X (.Call (.Name "tuple" p) [.Call (.Name "reversed" p2) [e] [] pos2] [] pos) (tTupRevT X.K te) := by
  refine ⟨fun pins s σ H Q I h => ?_⟩
  refine Call_ (ld_blt I hg hm boot_tuple (PyProof.Rows.callWith_type1 (args_cons (Call_ (ld_blt I hg2 hm2 PyProof.Rows.boot_reversed (PyProof.Rows.callWith_type1 (args_cons (thn (he.run pins s σ H _ I h) fun u s1 ⟨v, H1, J, rv, q1⟩ => args_nil ?_) hs) hs rfl))) hs2) hs2 rfl))
  obtain ⟨a, xs, ev, hq, q⟩ := q1
  subst ev
  cases (show u = Value.ref a from rv)
  obtain ⟨f0, f1, _, f3, f4, f5⟩ := J.fpOk (H' := H1) (b := s1.heap.objs.size) (Nat.le_refl _) (J.hok.fresh (Nat.le_refl _))
  have close : ∀ {its : List Value} {h' h0 : Heap} {tk t0 : Nat} {acc : Array Value}, Vals xs its → xs.length ≤ sizeLine → Inv X pins σ H1 { s1 with heap := h0, toks := t0 } → (∀ b o, b ∉ [s1.heap.objs.size] → h0.get? b = some o → h'.get? b = some o) →
      ItemsOf (fun i v => its.toArray[its.toArray.size - 1 - i]? = some v) acc its.toArray.size → EP X pins σ Q (.ref h'.objs.size) { s1 with heap := h'.push { cls := .type "tuple", data := .seq acc }, toks := tk } := fun {its h' h0 tk t0 acc} vs hz J2 keep got => by
    have J3 : Inv X pins σ H1 { s1 with heap := h', toks := tk } := J2.turned (t' := tk) (fun b o hb e => keep b o (fun z => hb (List.mem_singleton.mp z)) e) f0 f1 f3 f4 f5
    refine ⟨.ref h'.objs.size, upd H1 h'.objs.size (.tup xs.reverse), J3.laid (t' := tk) (fun c o e => Heap.get?_push_of_some _ e) (Nat.le_refl _) (show ObjOk X.prog X.w _ _ _ (.tup xs.reverse) from ⟨by rw [List.length_reverse]; exact hz, acc.toList, RT.vals_rev vs got, ?_⟩), rfl, q _ (J3.hok.fresh (Nat.le_refl _))⟩
    rw [Array.toArray_toList]
    exact IsTup.new _ _
  rcases hq with hq | hq
  · obtain ⟨its, vs, pl, hz⟩ := J.list hq
    refine call_reversed_list pl.isList (args_nil ?_)
    have J2 : Inv X pins σ H1 { s1 with heap := s1.heap.push (revObj a ((its.toArray.size : Int) - 1)) } := J.kept (t' := s1.toks) fun b o e => Heap.get?_push_of_some _ e
    have hl := pl.isList
    obtain ⟨ol, hol, _⟩ := id hl
    have hlt : a < s1.heap.objs.size := Heap.lt_size hol
    have hn : its.toArray.size ≤ sizeLine := by rw [List.size_toArray, ← vs.length]; exact hz
    have e0 : ((its.toArray.size : Nat) : Int) - 1 - ((0 : Nat) : Int) = (its.toArray.size : Int) - 1 := by omega
    have it0 : (s1.heap.push (revObj a ((its.toArray.size : Int) - 1))).IsRevIter s1.heap.objs.size a ((its.toArray.size : Int) - 1) := ⟨_, Heap.get?_push_size _ rfl, rfl, rfl⟩
    refine tuple_from (s := { s1 with heap := s1.heap.push (revObj a ((its.toArray.size : Int) - 1)) }) (Walks.listRev (A := X.A.in1.in1.in1) (J.ok.hd hc) s1.heap.objs.size a (Nat.ne_of_lt hlt) its.toArray) (T := "list_reverseiterator")
      it0.typeIs (by decide) (by decide) nohint_lri hn (fun b hb => ?_) (by simp) ⟨Nat.zero_le _, by rw [e0]; exact it0, hl.push _⟩ fun h' tk acc keep got => close vs hz J2 keep got
    rw [Heap.size_push]
    rcases List.mem_cons.mp hb with z | z
    · rw [z]; exact Nat.lt_succ_self _
    · rw [List.mem_singleton.mp z]; exact Nat.lt_succ_of_lt hlt
  · obtain ⟨its, vs, pl, hz⟩ := J.tuple hq
    have hn := line63
    have hn2 : its.toArray.size ≤ sizeLine := by rw [List.size_toArray, ← vs.length]; exact hz
    refine RT.call_reversed_tup pl (fun A E Q k => len_tuple pl (by omega) k) (args_nil ?_)
    have J2 : Inv X pins σ H1 { s1 with heap := s1.heap.push (RT.rtObj a ((its.toArray.size : Int) - 1)), toks := s1.toks + 1 + 1 } := J.kept (t' := s1.toks + 1 + 1) fun b o e => Heap.get?_push_of_some _ e
    have hlt : a < s1.heap.objs.size := pl.lt
    have e0 : ((its.toArray.size : Nat) : Int) - 1 - ((0 : Nat) : Int) = (its.toArray.size : Int) - 1 := by omega
    have it0 : RT.IsRt (s1.heap.push (RT.rtObj a ((its.toArray.size : Int) - 1))) s1.heap.objs.size a ((its.toArray.size : Int) - 1) := ⟨_, Heap.get?_push_size _ rfl, rfl, rfl⟩
    refine tuple_from (s := { s1 with heap := s1.heap.push (RT.rtObj a ((its.toArray.size : Int) - 1)), toks := s1.toks + 1 + 1 }) (walksRt (A := X.A.in1.in1.in1) (J.ok.hd hc) s1.heap.objs.size a (Nat.ne_of_lt hlt) its.toArray hn2) (T := "reversed")
      ⟨_, Heap.get?_push_size _ rfl, rfl⟩ (by decide) (by decide) (hint_rtup hn2) hn2 (fun b hb => ?_) (by simp) ⟨Nat.zero_le _, by rw [e0]; exact it0, tup_at pl fun o e => Heap.get?_push_of_some _ e⟩ fun h' tk acc keep got => close vs hz J2 keep got
    show b < (s1.heap.push _).objs.size
    rw [Heap.size_push]
    rcases List.mem_cons.mp hb with z | z
    · rw [z]; exact Nat.lt_succ_self _
    · rw [List.mem_singleton.mp z]; exact Nat.lt_succ_of_lt hlt
/-- g of the one argument's data: built-ins that stand as two calls -/
theorem one_fn {g : List PyData → Option PyData} {st : MSt} {M : MH} : eFn g (aCons f aNil) st M = (f st M).bind fun v M1 => Out.ofOpt ((deref st M1 v).bind fun d => (g [d]).map .dat) M1 := by
  unfold eFn aCons aNil
  cases f st M with
  | ok v M1 =>
    show Out.ofOpt ((derefAll st M1 [v]).bind fun ds => (g ds).map Val.dat) M1 = _
    rw [derefAll_cons, derefAll_nil]
    show _ = Out.ofOpt ((deref st M1 v).bind fun d => (g [d]).map Val.dat) M1
    cases deref st M1 v <;> rfl
  | exc e M1 => rfl
  | err => rfl
theorem one_fnS {g : List PyData → Option Sl} {st : MSt} {M : MH} : xFn g (aCons f aNil) st M = (f st M).bind fun v M1 => Out.ofOpt ((deref st M1 v).bind fun d => g [d]) M1 := by
  unfold xFn aCons aNil
  cases f st M with
  | ok v M1 =>
    show Out.ofOpt ((derefAll st M1 [v]).bind g) M1 = _
    rw [derefAll_cons, derefAll_nil]
    show _ = Out.ofOpt ((deref st M1 v).bind fun d => g [d]) M1
    cases deref st M1 v <;> rfl
  | exc e M1 => rfl
  | err => rfl
@[simp] def gRevT : List PyData → Option PyData | [.list es] => some (.tuple es.reverse) | [.tuple es] => some (.tuple es.reverse) | _ => none
theorem se_tupRev (hc : X.calm = true) (hg : Gl X "tuple") (hm : X.mg "tuple" = none) (hg2 : Gl X "reversed") (hm2 : X.mg "reversed" = none) (he : SE X P e f)
    (hs : starEach [e] X.env = (false, eval e X.env) :: starEach [] X.env := by rfl)
    (hs2 : starEach [.Call (.Name "reversed" p2) [e] [] pos2] X.env = (false, eval (.Call (.Name "reversed" p2) [e] [] pos2) X.env) :: starEach [] X.env := by rfl) :
    SE X P (.Call (.Name "tuple" p) [.Call (.Name "reversed" p2) [e] [] pos2] [] pos) (eFn gRevT (aCons f aNil)) := by
  refine PE.imp (pe_tupRevA hc hg hm hg2 hm2 he hs hs2) fun σ H Q h => ?_
  obtain ⟨Y, M, st, g0, fr, h⟩ := h
  rw [one_fn] at h
  refine ⟨Y, M, st, g0, fr, Post.bind (R1 := RV X.K) shV h fun va M1 Y1 H1 x _ s1 g1 r1 q1 => ?_⟩
  obtain ⟨v, ev, q⟩ := Post.opt q1
  obtain ⟨d, e3, e4⟩ := Option.bind_eq_some_iff.mp ev
  obtain ⟨d', e5, rfl⟩ := Option.map_eq_some_iff.mp e4
  have dr := Dr.of g1 (fr.step g0 s1) r1 e3
  cases d with
  | list es =>
    cases e5
    obtain ⟨a, ys, rfl, h1, h2⟩ := dr.lst
    exact ⟨a, ys, rfl, .inl h1, fun t ht => q Y1 _ _ (Step.laid ht) (g1.laid ht) (show Rp X.K Y1.F _ _ _ from Rp.newT g1 ht h2.reverse)⟩
  | tuple es =>
    cases e5
    obtain ⟨a, ys, rfl, h1, h2⟩ := dr.tup
    exact ⟨a, ys, rfl, .inr h1, fun t ht => q Y1 _ _ (Step.laid ht) (g1.laid ht) (show Rp X.K Y1.F _ _ _ from Rp.newT g1 ht h2.reverse)⟩
  | _ => cases e5
end
end Mn

set_option Elab.async false
set_option linter.all false
set_option maxRecDepth 100000
set_option maxHeartbeats 4000000
namespace Mn
open PySem PySem.Spec PyProof.Rows L2

/-! ### isinstance of data -/
inductive Ty where | int | bool | str | tuple | list
def Ty.nm : Ty → String | .int => "int" | .bool => "bool" | .str => "str" | .tuple => "tuple" | .list => "list"
@[simp] def Ty.is : Ty → PyData → Bool
  | .int, .int _ => true
  | .int, .bool _ => true
  | .bool, .bool _ => true
  | .str, .str _ => true
  | .tuple, .tuple _ => true
  | .list, .list _ => true
  | _, _ => false
def tyN : PyData → String | .none => "NoneType" | .bool _ => "bool" | .int _ => "int" | .str _ => "str" | .list _ => "list" | .tuple _ => "tuple" | .dict _ => "dict"
theorem kit_int (d : PyData) : kitB (tyN d) "int" = some (Ty.int.is d) := by cases d <;> (dsimp only [tyN, Ty.is]; decide +kernel)
theorem kit_bool (d : PyData) : kitB (tyN d) "bool" = some (Ty.bool.is d) := by cases d <;> (dsimp only [tyN, Ty.is]; decide +kernel)
theorem kit_str (d : PyData) : kitB (tyN d) "str" = some (Ty.str.is d) := by cases d <;> (dsimp only [tyN, Ty.is]; decide +kernel)
theorem kit_tuple (d : PyData) : kitB (tyN d) "tuple" = some (Ty.tuple.is d) := by cases d <;> (dsimp only [tyN, Ty.is]; decide +kernel)
theorem kit_list (d : PyData) : kitB (tyN d) "list" = some (Ty.list.is d) := by cases d <;> (dsimp only [tyN, Ty.is]; decide +kernel)
theorem kit_all (t : Ty) (d : PyData) : kitB (tyN d) t.nm = some (t.is d) := by
  cases t with
  | int => exact kit_int d
  | bool => exact kit_bool d
  | str => exact kit_str d
  | tuple => exact kit_tuple d
  | list => exact kit_list d
theorem Dr.ty {K : PySem.W.Frag} {Y : Wd} {H : Hp} {x : V} {d : PyData} (h : Dr K Y H x d) : TyX K H x (.type (tyN d)) := by
  cases d with
  | none => rw [h.non]; exact .base .non
  | bool b => rw [h.bl]; exact .base (.bl b)
  | int i => rw [h.int]; exact .base (.int i)
  | str z => rw [h.str]; exact .base (.str z)
  | list ds =>
    obtain ⟨a, xs, rfl, q, _⟩ := h.lst
    rcases q with (q | ⟨o, q⟩) | ⟨o, _, _, q, c, _⟩
    · exact .base (.lst q)
    · exact .base (.frz q)
    · exact .kList q c
  | tuple ds =>
    obtain ⟨a, xs, rfl, q, _⟩ := h.tup
    rcases q with (q | ⟨o, q⟩) | ⟨o, _, _, q, c, _⟩
    · exact .base (.tup q)
    · exact .fTuple q
    · exact .kTuple q c
  | dict _ =>
    rcases h with h | ⟨_, _, _, _, h, _⟩
    · cases h
    · cases h
def eIsI (t : Ty) (f : Ex Val) : Ex Val := fun st M => (f st M).bind fun v M1 => Out.ofOpt ((deref st M1 v).map fun d => .dat (.bool (t.is d))) M1
section
variable {X : Cx} {P : Pm} {e : Expr} {p p2 pos : Pos} {f : Ex Val}
theorem se_isi (t : Ty) {x : Str} (ha : SE X P e f) (hg : Gl X "isinstance") (hm : X.mg "isinstance" = none) (hg2 : Gl X x) (hm2 : X.mg x = none) (hv2 : bootBuiltins x = some (.type t.nm))
    (hn2 : x ≠ "__name__" := by decide) (hd2 : (x == ("__debug__" : Str)) = false := by decide)
    (he : starEach [e, .Name x p2] X.env = (false, eval e X.env) :: starEach [.Name x p2] X.env := by rfl) (he2 : starEach [.Name x p2] X.env = (false, eval (.Name x p2) X.env) :: starEach [] X.env := by rfl)
    (hpl : (backTo pos (starEach [.Name x p2] X.env)).any (·.1) = false := by rfl) :
    SE X P (.Call (.Name "isinstance" p) [e, .Name x p2] [] pos) (eIsI t f) := by
  have pb : PE X (.Name x p2) (tC (.ty t.nm)) := pe_bltn hg2 hm2 hv2 rfl hn2 hd2
  refine PE.imp (pe_callB call_isi hg hm (by decide +kernel) (pa_cons ha (pa_cons pb pa_nil he2) he) (by decide) (by decide) he hpl) fun σ H Q h => ?_
  obtain ⟨Y, M, st, g0, fr, h⟩ := h
  refine ⟨Y, M, st, g0, fr, Post.bind (R1 := RV X.K) shV h fun va M1 Y1 H1 x _ s1 g1 r1 q1 => ?_⟩
  obtain ⟨v, ev, q⟩ := Post.opt q1
  obtain ⟨d, ed, rfl⟩ := Option.map_eq_some_iff.mp ev
  have dr := Dr.of g1 (fr.step g0 s1) r1 ed
  exact ⟨x, .ty t.nm, _, _, t.is d, rfl, .ty _, dr.ty, kit_ty (kit_all t d), Post.ok q (Step.refl Y1 H1) g1 (show Rp X.K Y1.F H1 (.bl _) (.bool _) from .bl _)⟩

/-! ### repr of data -/
def isSeq : PyData → Bool | .list _ => true | .tuple _ => true | _ => false
def dRepr (d : PyData) : Option PyData := if isSeq d = true ∧ SeqAt.shaped d = true ∧ d.showable = true ∧ d.shown.length ≤ SL then some (.str d.shown) else none
def gRepr : List PyData → Option PyData | [d] => dRepr d | _ => none
theorem bi_repr {k : Nat} (hgd : X.A.guards = some []) (hr : Room k X.A) : BiR X "repr" gRepr := by
  refine ⟨fun xs H Q => ∃ x d, xs = [x] ∧ Dp X.K H x d ∧ isSeq d = true ∧ SeqAt.shaped d = true ∧ d.showable = true ∧ d.shown.length ≤ SL ∧ Q (.str d.shown) H, ?_, ?_⟩
  · intro pins s σ H xs us Q I r h
    obtain ⟨x, d, rfl, dp, h1, h2, h3, h4, q⟩ := h
    obtain ⟨u, rfl, ru⟩ := vals1 r
    obtain ⟨as, rd⟩ := Dp.reads I d x u dp ru
    obtain ⟨a, rfl⟩ : ∃ a, u = Value.ref a := by
      cases rd with
      | list => exact ⟨_, rfl⟩
      | tuple => exact ⟨_, rfl⟩
      | _ => cases h1
    have hu := hr.un
    have hd := SeqAt.depth_of_shaped h2
    refine repr_of_reads' rd h3 (PyData.noDict_hsm (PyData.hasDict_of_canLay d (SeqAt.canLay_of_shaped h2))) hgd (by omega) (fun _ _ e => e) (fun h' u tk kp => ?_) (by rw [sl_eq]; exact h4)
    exact ⟨.str d.shown, H, I.kept (t' := tk) kp, ⟨u, rfl⟩, q⟩
  · intro Y M H xs ds d Q g0 h e q
    match ds, e with
    | [d0], e =>
      have e : (if isSeq d0 = true ∧ SeqAt.shaped d0 = true ∧ d0.showable = true ∧ d0.shown.length ≤ SL then some (PyData.str d0.shown) else none) = some d := e
      obtain ⟨x, rfl, dx⟩ := one h rfl
      by_cases hc : isSeq d0 = true ∧ SeqAt.shaped d0 = true ∧ d0.showable = true ∧ d0.shown.length ≤ SL
      · rw [if_pos hc] at e
        cases e
        exact ⟨x, d0, rfl, dx.dp, hc.1, hc.2.1, hc.2.2.1, hc.2.2.2, q Y H _ (Step.refl Y H) g0 (.str _)⟩
      · rw [if_neg hc] at e; cases e

/-! ### ranges as lists and tuples -/
def rgD (a b : Int) : List PyData := (List.range (b - a).toNat).map fun i => PyData.int (a + (i : Nat))
theorem rg_rp {K : PySem.W.Frag} {F : Addr → Prop} {H : Hp} (a b : Int) : RpA K F H (rgV a b) (rgD a b) := by
  unfold rgV rgD
  generalize (List.range (b - a).toNat) = l
  induction l with
  | nil => exact .nil
  | cons n r ih => exact .cons (.int _) ih
def rgOk (a b : Int) : Bool := decide (-(2 ^ 62) ≤ a ∧ a < 2 ^ 62 ∧ -(2 ^ 62) ≤ b ∧ b < 2 ^ 62 ∧ (b - a).toNat ≤ 2 ^ 24)
theorem rgOk.of {a b : Int} (h : rgOk a b = true) : RgOk a b := by
  unfold rgOk at h
  have h' := of_decide_eq_true h
  exact h'
/-- the bounds of a range -/
def eRg1 (f : Ex Val) : Ex (Int × Int) := fun st M => (f st M).bind fun v M1 => Out.ofOpt ((intOf v).map fun n => (0, n)) M1
def eRg2 (f1 f2 : Ex Val) : Ex (Int × Int) := fun st M => (f1 st M).bind fun v M1 => (f2 st M1).bind fun w M2 => Out.ofOpt ((intOf v).bind fun a => (intOf w).map fun b => (a, b)) M2
/-- an expression that is a range -/
def SRg (X : Cx) (P : Pm) (e : Expr) (f : Ex (Int × Int)) : Prop := PRg X e fun σ H Q => Rn X.K P (fun _ _ _ _ _ x v => x = v) f σ H fun ab H1 => Q ab.1 ab.2 H1
theorem PRg.imp {e : Expr} {t t' : L2.St → Hp → (Int → Int → Hp → Prop) → Prop} (h : PRg X e t) (i : ∀ σ H Q, t' σ H Q → t σ H Q) : PRg X e t' := fun pins s σ H Q I q => h pins s σ H Q I (i σ H Q q)
theorem srg_1 {a : Expr} {f : Ex Val} (hg : Gl X "range") (hm : X.mg "range" = none) (ha : SE X P a f) (na : starEach [a] X.env = (false, eval a X.env) :: starEach [] X.env := by rfl) : SRg X P (.Call (.Name "range" p) [a] [] pos) (eRg1 f) := by
  refine PRg.imp (prg_1 hg hm ha na) fun σ H Q h => ?_
  obtain ⟨Y, M, st, g0, fr, h⟩ := h
  refine ⟨Y, M, st, g0, fr, Post.bind (R1 := RV X.K) ⟨fun _ _ h => h⟩ h fun va M1 Y1 H1 x _ s1 g1 r1 q1 => ?_⟩
  obtain ⟨v, ev, q⟩ := Post.opt q1
  obtain ⟨n, en, rfl⟩ := Option.map_eq_some_iff.mp ev
  cases intOf_some en
  cases VRp.int r1
  exact ⟨n, rfl, Post.ok q (Step.refl Y1 H1) g1 rfl⟩
theorem srg_2 {a b : Expr} {f1 f2 : Ex Val} (hg : Gl X "range") (hm : X.mg "range" = none) (ha : SE X P a f1) (hb : SE X P b f2) (na : starEach [a, b] X.env = (false, eval a X.env) :: starEach [b] X.env := by rfl)
    (nb : starEach [b] X.env = (false, eval b X.env) :: starEach [] X.env := by rfl) (hp : (backTo pos (starEach [b] X.env)).any (·.1) = false := by rfl) : SRg X P (.Call (.Name "range" p) [a, b] [] pos) (eRg2 f1 f2) := by
  refine PRg.imp (prg_2 hg hm ha hb na nb hp) fun σ H Q h => ?_
  obtain ⟨Y, M, st, g0, fr, h⟩ := h
  refine ⟨Y, M, st, g0, fr, Post.bind (R1 := RV X.K) ⟨fun _ _ h => h⟩ h fun va M1 Y1 H1 x _ s1 g1 r1 q1 => ?_⟩
  refine ⟨Y1, M1, st, g1, fr.step g0 s1, Post.bind (R1 := RV X.K) ⟨fun _ _ h => h⟩ q1 fun vb M2 Y2 H2 y _ s2 g2 r2 q2 => ?_⟩
  obtain ⟨v, ev, q⟩ := Post.opt q2
  obtain ⟨i, ei, ev⟩ := Option.bind_eq_some_iff.mp ev
  obtain ⟨j, ej, rfl⟩ := Option.map_eq_some_iff.mp ev
  cases intOf_some ei
  cases intOf_some ej
  cases VRp.int r1
  cases VRp.int r2
  exact ⟨i, j, rfl, rfl, Post.ok q (Step.refl Y2 H2) g2 rfl⟩
def xLstRg (f : Ex (Int × Int)) : Ex Sl := fun st M => (f st M).bind fun ab M1 => if rgOk ab.1 ab.2 = true then .ok (.own (rgD ab.1 ab.2)) M1 else .err
def eTupRg (f : Ex (Int × Int)) : Ex Val := fun st M => (f st M).bind fun ab M1 => if rgOk ab.1 ab.2 = true then .ok (.dat (.tuple (rgD ab.1 ab.2))) M1 else .err
theorem sx_listRg {f : Ex (Int × Int)} (hc : X.calm = true) (hg : Gl X "list") (hm : X.mg "list" = none) (he : SRg X P e f) (na : starEach [e] X.env = (false, eval e X.env) :: starEach [] X.env := by rfl) : SX X P (.Call (.Name "list" p) [e] [] pos) (xLstRg f) := by
  refine PE.imp (pe_listRg hc hg hm he na) fun σ H Q h => ?_
  obtain ⟨Y, M, st, g0, fr, h⟩ := h
  refine ⟨Y, M, st, g0, fr, Post.bind shS h fun ab M1 Y1 H1 x _ s1 g1 r1 q1 => ?_⟩
  cases (show x = ab from r1)
  cases hr : rgOk ab.1 ab.2 with
  | false => rw [hr] at q1; exact False.elim q1
  | true =>
    rw [hr, if_pos rfl] at q1
    exact ⟨rgOk.of hr, fun t ht => q1 Y1 _ _ (Step.laid ht) (g1.laid ht) ⟨t, rfl, Ow.new g1 ht (rg_rp _ _), ht⟩⟩
theorem se_tupRg {f : Ex (Int × Int)} (hc : X.calm = true) (hg : Gl X "tuple") (hm : X.mg "tuple" = none) (he : SRg X P e f) (na : starEach [e] X.env = (false, eval e X.env) :: starEach [] X.env := by rfl) : SE X P (.Call (.Name "tuple" p) [e] [] pos) (eTupRg f) := by
  refine PE.imp (pe_tupRg hc hg hm he na) fun σ H Q h => ?_
  obtain ⟨Y, M, st, g0, fr, h⟩ := h
  refine ⟨Y, M, st, g0, fr, Post.bind shV h fun ab M1 Y1 H1 x _ s1 g1 r1 q1 => ?_⟩
  cases (show x = ab from r1)
  cases hr : rgOk ab.1 ab.2 with
  | false => rw [hr] at q1; exact False.elim q1
  | true =>
    rw [hr, if_pos rfl] at q1
    exact ⟨rgOk.of hr, fun t ht => q1 Y1 _ _ (Step.laid ht) (g1.laid ht) (show Rp X.K Y1.F _ _ _ from Rp.newT g1 ht (rg_rp _ _))⟩
end

/-! ### what is walked -/
/-- the walk of J gives the items, as long as what was data stays -/
def MW (K : PySem.W.Frag) (J : It) (ds : List PyData) (Y : Wd) (H : Hp) : Prop := ∃ (G : Hp → Prop) (Yd : Nat → Hp → V → Hp → Prop), Walk J ds.length G Yd ∧ (∀ F2 H2, Wk Y.F F2 H H2 → G H2) ∧
  ∀ (Y2 : Wd) (M2 : MH) (H2 : Hp) (i : Nat) (x : V) (H3 : Hp) (d : PyData), Wk Y.F Y2.F H H2 → GR K Y2 M2 H2 → i < ds.length → Yd i H2 x H3 → ds[i]? = some d → Step Y2 H2 Y2 H3 ∧ GR K Y2 M2 H3 ∧ Rp K Y2.F H3 x d
/-- the same, as long as the frame's own lists stay too -/
def MWx (K : PySem.W.Frag) (J : It) (ds : List PyData) (Y : Wd) (H : Hp) : Prop := ∃ (G : Hp → Prop) (Yd : Nat → Hp → V → Hp → Prop), Walk J ds.length G Yd ∧ (∀ Y2 H2, Step Y H Y2 H2 → G H2) ∧
  ∀ (Y2 : Wd) (M2 : MH) (H2 : Hp) (i : Nat) (x : V) (H3 : Hp) (d : PyData), Step Y H Y2 H2 → GR K Y2 M2 H2 → i < ds.length → Yd i H2 x H3 → ds[i]? = some d → Step Y2 H2 Y2 H3 ∧ GR K Y2 M2 H3 ∧ Rp K Y2.F H3 x d
theorem MW.x {K : PySem.W.Frag} {J : It} {ds : List PyData} {Y : Wd} {H : Hp} {M : MH} (g : GR K Y M H) (h : MW K J ds Y H) : MWx K J ds Y H := by
  obtain ⟨G, Yd, w, h1, h2⟩ := h
  exact ⟨G, Yd, w, fun Y2 H2 s => h1 Y2.F H2 (s.wk g), fun Y2 M2 H2 i x H3 d s g2 hi y e => h2 Y2 M2 H2 i x H3 d (s.wk g) g2 hi y e⟩
abbrev RI (K : PySem.W.Frag) : RelT (List PyData) It := fun Y _ H _ _ J ds => MW K J ds Y H
abbrev RIx (K : PySem.W.Frag) : RelT (List PyData) It := fun Y _ H _ _ J ds => MWx K J ds Y H
theorem shI {K : PySem.W.Frag} : ShiftR K (RI K) := ⟨fun _ _ h => h⟩
theorem shIx {K : PySem.W.Frag} : ShiftR K (RIx K) := ⟨fun _ _ h => h⟩
/-- for a for; for a comprehension -/
abbrev SI (X : Cx) (P : Pm) (tg iter : Expr) (f : Ex (List PyData)) : Prop := PI X tg iter (fun σ H Q => Rn X.K P (RI X.K) f σ H Q)
abbrev SIx (X : Cx) (P : Pm) (tg iter : Expr) (f : Ex (List PyData)) : Prop := PI X tg iter (fun σ H Q => Rn X.K P (RIx X.K) f σ H Q)
theorem PI.imp {X : Cx} {tg iter : Expr} {t t' : TI} (h : PI X tg iter t) (i : ∀ σ H Q, t' σ H Q → t σ H Q) : PI X tg iter t' := ⟨fun pins s σ H Q I q => h.run pins s σ H Q I (i σ H Q q)⟩
theorem SI.x {X : Cx} {P : Pm} {tg iter : Expr} {f : Ex (List PyData)} (h : SI X P tg iter f) : SIx X P tg iter f := by
  refine PI.imp h fun σ H Q h => ?_
  obtain ⟨Y, M, st, g0, fr, h⟩ := h
  refine ⟨Y, M, st, g0, fr, ?_⟩
  cases e : f st M with
  | ok v M' =>
    rw [e] at h
    exact fun Y' H' x s g r => h Y' H' x s g (r.x g)
  | exc ex M' => rw [e] at h; exact h
  | err => rw [e] at h; exact h
def seqOf : PyData → Option (List PyData)
  | .list ds => some ds
  | .tuple ds => some ds
  | _ => none
end Mn

set_option Elab.async false
set_option linter.all false
set_option maxRecDepth 100000
set_option maxHeartbeats 4000000
namespace Mn
open PySem PySem.Spec PyProof.Rows L2

/-! ### walking a list or a tuple -/
def iAny (K : PySem.W.Frag) (te : TE) : TI := fun σ H R => te σ H fun v H1 => ∃ a, v = .ref a ∧ ((∃ xs, SqL K H1 a xs ∧ R (Itl K a) H1) ∨ (∃ xs, SqT K H1 a xs ∧ R (Itt K a) H1))
theorem pi_any {X : Cx} {tg e : Expr} {te : TE} (he : PE X e te) : PI X tg e (iAny X.K te) := by
  refine ⟨fun pins s σ H R I h => thn (he.run pins s σ H _ I h) fun v s1 ⟨x, H1, I1, r1, a, ex, q⟩ => ?_⟩
  subst ex
  obtain rfl : v = Value.ref a := r1
  rcases q with ⟨xs, hq, q⟩ | ⟨xs, hq, q⟩
  · obtain ⟨its, rv, p, hz⟩ := I1.list hq
    exact wpAny_pyIter_list p.isList (pi_one (tk := s1.toks) I1 _ (turn_list a _) ⟨_, Heap.get?_push_size _ rfl, rfl, rfl⟩ q)
  · obtain ⟨its, rv, p, hz⟩ := I1.tuple hq
    exact wpAny_pyIter_tuple (show s1.heap.IsTuple a its.toArray from p) (pi_one (tk := s1.toks) I1 _ (turn_tuple a _) ⟨_, Heap.get?_push_size _ rfl, rfl, rfl⟩ q)

/-! ### enumerate over a tuple -/
def IteT (K : PySem.W.Frag) (a : Addr) : It :=
  ⟨fun i H => ∃ (xs : List V) (x : V), SqT K H a xs ∧ xs[i]? = some x, fun i H v H' => ∃ T x, v = .ref T ∧ H T = none ∧ H' = upd H T (.tup [.int (i : Nat), x]) ∧ ∀ xs, SqT K H a xs → xs[i]? = some x, fun i H => ∃ xs : List V, SqT K H a xs ∧ xs.length = i⟩
theorem enum_ne_tup {h : Heap} {e it a : Addr} {n : Int} {old : Value} {its : Array Value} (he : IsEnum h e it n old) (p : h.IsTuple a its) : e ≠ a := fun z => by
  subst z
  obtain ⟨o, ho, hc, _⟩ := p
  have he : h.get? e = some _ := he
  rw [he] at ho
  cases ho
  injection hc with h1
  exact absurd h1 (by decide)
theorem turn_enumTup {P : Program} {w : World} {K : PySem.W.Frag} {elts : List Expr} {kk : Nat} {tpos : Pos} (a e it : Addr) :
    Turn P w K (.Tuple elts kk tpos) (IteT K a) [e, it] e (fun i h => (∃ old, IsEnum h e it ((i : Nat) : Int) old) ∧ h.IsTupleIter it a i ∧ e ≠ it) where
  mem := by simp
  obj := fun i h st b hb => by
    obtain ⟨⟨old, he⟩, ⟨o, ho, hc, hd⟩, _⟩ := st
    rcases (show b = e ∨ b = it by simpa using hb) with rfl | rfl
    · exact ⟨_, he, fun v q => nomatch q⟩
    · exact ⟨o, ho, fun v q => by rw [hd] at q; cases q⟩
  keep := fun i h h' st k => let ⟨⟨old, he⟩, hi, hne⟩ := st; ⟨⟨old, k e (by simp) _ he⟩, hi.at fun o q => k it (by simp) o q, hne⟩
  item := by
    intro X hP hw hK hc i pins s σ H E I hf st hg
    subst hP hw hK
    obtain ⟨⟨old, he⟩, hit, hne⟩ := st
    obtain ⟨xs, x, hq, hx⟩ := hg
    obtain ⟨its, rv, p, hz⟩ := I.tuple hq
    obtain ⟨u, hu, ru⟩ := rv.get hx
    have p : s.heap.IsTuple a its.toArray := p
    have hea : e ≠ a := enum_ne_tup he p
    have hai : a ≠ it := fun z => by
      subst z
      obtain ⟨o, ho, hc1, _⟩ := p
      obtain ⟨o2, ho2, hc2, _⟩ := hit
      rw [ho] at ho2
      cases ho2
      rw [hc1] at hc2
      injection hc2 with h1
      exact absurd h1 (by decide)
    have hel : e < s.heap.objs.size := Heap.lt_size he
    have hil : it < s.heap.objs.size := by obtain ⟨_, q, _⟩ := hit; exact Heap.lt_size q
    have hsz : i < its.toArray.size := by
      have h1 := (List.getElem?_eq_some_iff.mp hu).1
      simpa using h1
    refine wpAny_pyNext_enum_itemD (Draws.tuple (A := X.A.in1) (show X.A.in1.handled = none from I.ok.hd hc) it a hai its.toArray) he ⟨hit, p⟩ hsz hne (by simp [hne, hea]) fun y h' tk hP ho hs' hT hz' hk => ?_
    have ey : y = u := by
      have hP : its.toArray[i]? = some y := hP
      rw [List.getElem?_toArray, hu] at hP
      cases hP
      rfl
    subst ey
    refine ⟨_, rfl, wpAny_letOwnedTupleGo_enum (s := { s with heap := h', toks := tk + 1 }) ho fun h'' he' sb => ?_⟩
    have hT2 : h''.get? s.heap.objs.size = some { cls := .type "tuple", data := .seq #[.int i tk, y] } := (sb.2 _ (Nat.ne_of_gt hel)).trans hT
    have new : ObjOk X.prog X.w (upd H s.heap.objs.size (.tup [.int (i : Nat), x])) h'' s.heap.objs.size (.tup [.int (i : Nat), x]) :=
      ⟨by show 2 ≤ sizeLine; decide, [.int i tk, y], .cons ⟨_, rfl⟩ (.cons ru .nil), ⟨_, hT2, rfl, _, rfl⟩⟩
    have I1 : Inv X pins σ (upd H s.heap.objs.size (.tup [.int (i : Nat), x])) { s with heap := h'', toks := tk + 1 } :=
      I.turnedNew (ch := [e, it]) (fun b ob hb q => (sb.2 b (fun z => hb (by simp [z]))).trans (hk b ob (fun z => hb (by simp [z])) (fun z => hb (by simp [z])) q)) hf (Nat.le_refl _) new
    refine ⟨.ref s.heap.objs.size, _, I1, rfl, ⟨_, x, rfl, I.hok.fresh (Nat.le_refl _), rfl, fun ys hy => by rw [I.tuple_inj hy hq]; exact hx⟩, ⟨⟨y, ?_⟩, hs'.1.at fun o q => (sb.2 it (Ne.symm hne)).trans q, hne⟩, fun b hb => ?_⟩
    · rw [show ((i + 1 : Nat) : Int) = (i : Int) + 1 by omega]
      exact he'
    · have hb' : b < s.heap.objs.size := by
        rcases (show b = e ∨ b = it by simpa using hb) with rfl | rfl
        · exact hel
        · exact hil
      rw [upd_ne (Nat.ne_of_lt hb')]
      exact (hf b hb).1
  done := by
    intro X hP hw hK hc i pins s σ H E I hf st hg
    subst hP hw hK
    obtain ⟨⟨old, he⟩, hit, hne⟩ := st
    obtain ⟨xs, hq, hx⟩ := hg
    obtain ⟨its, rv, p, hz⟩ := I.tuple hq
    obtain ⟨f0, f1, f2, f3, f4, f5⟩ := hf it (by simp)
    have hl := rv.length
    have p : s.heap.IsTuple a its.toArray := p
    have hai : a ≠ it := fun z => by
      subst z
      obtain ⟨o, ho, hc1, _⟩ := p
      obtain ⟨o2, ho2, hc2, _⟩ := hit
      rw [ho] at ho2
      cases ho2
      rw [hc1] at hc2
      injection hc2 with h1
      exact absurd h1 (by decide)
    have hz' : its.toArray.size = i := by rw [List.size_toArray, ← hl]; exact hx
    rw [← hz'] at hit he
    exact wpAny_pyNext_enum_endD (Draws.tuple (A := X.A.in1) (show X.A.in1.handled = none from I.ok.hd hc) it a hai its.toArray) he ⟨hit, p⟩ fun h' eb => ⟨rfl, I.turned (t' := s.toks) (fun b o hb q => eb b o hb q) f0 f1 f3 f4 f5⟩
  self := fun A i s Q E st h => let ⟨⟨_, he⟩, _⟩ := st; wpAny_pyIter_enum he h
section
open Builtin
set_option maxHeartbeats 2000000 in
theorem meets_enumerate_newTup (l : Addr) (items : Array Value) :
    Meets (Builtin.«enumerate.__new__» ⟨[.type "enumerate", .ref l], []⟩) (fun _ R s => s.heap.IsTuple l items ∧
      R (.ok (.ret (.ref (s.heap.push { cls := .type "tuple_iterator", data := .fields #[.ref l, .int 0 0] }).objs.size)))
        { s with heap := (s.heap.push { cls := .type "tuple_iterator", data := .fields #[.ref l, .int 0 0] }).push { cls := .type "enumerate", data := .fields #[.none, .bool false, .ref s.heap.objs.size, rawInt 0, .none, .none] } }) :=
  .of_wp fun prog w A R s h => by
    obtain ⟨hp, g, d, tk, os⟩ := s
    obtain ⟨hl, h⟩ := h
    have hL : Heap.IsTuple (Shared.heap ⟨hp, g, d, tk, os⟩) l items := hl
    have hsub := sub_enumerate
    have q1 : ∀ {A' : Around} {E : Value → Shared → Prop} {Q : Value → Shared → Prop}, Q (.ref hp.objs.size) ⟨hp.push { cls := .type "tuple_iterator", data := .fields #[.ref l, .int 0 0] }, g, d, tk, os⟩ → wpAny (model prog w) A' (pyIter (.ref l)) Q E ⟨hp, g, d, tk, os⟩ :=
      fun q => wpAny_pyIter_tuple hL q
    wp_walk using q1
    refine wpAny_stack_any fun st => wpAny_pure ?_
    split
    · rename_i c _ _ _ _ _
      cases (c == Value.type "enumerate")
      · wp_walk using q1
        exact ⟨_, rfl, h⟩
      · wp_walk using q1
        exact ⟨_, rfl, h⟩
    · wp_walk using q1
      exact ⟨_, rfl, h⟩
end
theorem call_enumerate_tup {prog : Program} {w : World} {A : Around} {E : Value → Shared → Prop} {s : Shared} {l : Addr} {items : Array Value} {Q : Value → Shared → Prop} (hL : s.heap.IsTuple l items)
    (h : ∀ h', IsEnum h' (s.heap.objs.size + 1) s.heap.objs.size 0 .none → h'.IsTupleIter s.heap.objs.size l 0 → h'.objs.size = s.heap.objs.size + 2 → (∀ b o, s.heap.get? b = some o → h'.get? b = some o) → Q (.ref (s.heap.objs.size + 1)) { s with heap := h' }) :
    wpAny (model prog w) A (call (.type "enumerate") [.ref l]) Q E s := by
  refine callType_new F.called_enumerate (by decide) (F.typeCall_enumerate_1 _) (F.newCall_enumerate_1 _) (fun obj => F.args_object_init_2 obj _) F.entry_enumerate_new (meets_enumerate_newTup l items) ⟨hL, ?_⟩
  have hz : (s.heap.push { cls := .type "tuple_iterator", data := .fields #[.ref l, .int 0 0] }).objs.size = s.heap.objs.size + 1 := Heap.size_push ..
  show _ ∧ _
  rw [hz]
  have he : IsEnum ((s.heap.push { cls := .type "tuple_iterator", data := .fields #[.ref l, .int 0 0] }).push { cls := .type "enumerate", data := .fields #[.none, .bool false, .ref s.heap.objs.size, rawInt 0, .none, .none] }) (s.heap.objs.size + 1) s.heap.objs.size 0 .none := by
    have e1 := Heap.get?_push_size (s.heap.push { cls := .type "tuple_iterator", data := .fields #[.ref l, .int 0 0] }) (o := { cls := .type "enumerate", data := .fields #[.none, .bool false, .ref s.heap.objs.size, rawInt 0, .none, .none] }) rfl
    rw [hz] at e1
    exact e1
  exact ⟨⟨_, he, rfl⟩, h _ he ⟨_, Heap.get?_push_of_some _ (Heap.get?_push_size _ rfl), rfl, rfl⟩ (by rw [Heap.size_push, hz]) fun b o x => Heap.get?_push_of_some _ (Heap.get?_push_of_some _ x)⟩
/-- enumerate(x), x a list or a tuple -/
def iEnumA (K : PySem.W.Frag) (te : TE) : TI := fun σ H R => te σ H fun v H1 => ∃ a xs, v = .ref a ∧ ((SqL K H1 a xs ∧ R (Ite K a) H1) ∨ (SqT K H1 a xs ∧ R (IteT K a) H1))
theorem pi_enumA {X : Cx} {e : Expr} {te : TE} {p pos tpos : Pos} {elts : List Expr} {kk : Nat} (hg : Gl X "enumerate") (hm : X.mg "enumerate" = none) (he : PE X e te) (hs : starEach [e] X.env = (false, eval e X.env) :: starEach [] X.env := by rfl) :
    PI X (.Tuple elts kk tpos) (.Call (.Name "enumerate" p) [e] [] pos) (iEnumA X.K te) := by
  refine ⟨fun pins s σ H R I h => ?_⟩
  refine Call_ (ld_blt I hg hm boot_enumerate (PyProof.Rows.callWith_type1 (args_cons (thn (he.run pins s σ H _ I h) fun u s1 ⟨v, H1, I1, r1, q1⟩ => args_nil ?_) hs) hs rfl))
  obtain ⟨a, xs, ev, q⟩ := q1
  subst ev
  obtain rfl : u = Value.ref a := r1
  have ok2 : ∀ b ∈ [s1.heap.objs.size + 1, s1.heap.objs.size], FpOk X pins H1 b := fun b hb => by
    have hle : s1.heap.objs.size ≤ b := by
      rcases (show b = s1.heap.objs.size + 1 ∨ b = s1.heap.objs.size by simpa using hb) with z | z
      · rw [z]; exact Nat.le_add_right _ _
      · rw [z]; exact Nat.le_refl _
    exact I1.fpOk hle (I1.hok.fresh hle)
  rcases q with ⟨hq, q⟩ | ⟨hq, q⟩
  · obtain ⟨its, rv, p', hz⟩ := I1.list hq
    exact call_enumerate_list p'.isList fun h' he hit hsz hk => wpAny_pyIter_enum he ⟨s1.heap.objs.size + 1, [s1.heap.objs.size + 1, s1.heap.objs.size], _, _, H1, rfl, I1.kept (t' := s1.toks) hk, turn_enum a (s1.heap.objs.size + 1) s1.heap.objs.size, ⟨⟨.none, he⟩, hit, Nat.succ_ne_self _⟩, ok2, q⟩
  · obtain ⟨its, rv, p', hz⟩ := I1.tuple hq
    exact call_enumerate_tup (show s1.heap.IsTuple a its.toArray from p') fun h' he hit hsz hk => wpAny_pyIter_enum he ⟨s1.heap.objs.size + 1, [s1.heap.objs.size + 1, s1.heap.objs.size], _, _, H1, rfl, I1.kept (t' := s1.toks) hk, turn_enumTup a (s1.heap.objs.size + 1) s1.heap.objs.size, ⟨⟨.none, he⟩, hit, Nat.succ_ne_self _⟩, ok2, q⟩
section
variable {K : PySem.W.Frag} {a b : Addr} {xs ys : List V}
theorem walk_enumTup : Walk (IteT K a) xs.length (fun H => SqT K H a xs) (YPair (fun i => some (.int (i : Nat))) (fun i => xs[i]?)) := by
  refine ⟨fun i _ hi q => ⟨xs, xs[i], q, by simp [hi]⟩, fun _ q => ⟨xs, q, rfl⟩, fun i H v H' _ q y => ?_⟩
  obtain ⟨T, x, h1, h2, h3, h4⟩ := y
  exact ⟨T, .int (i : Nat), x, h1, h2, h3, rfl, h4 xs q⟩
theorem walk_zipTup {n : Nat} (hn : n = min xs.length ys.length) : Walk (RZ.ItzT K a b) n (fun H => SqT K H a xs ∧ SqT K H b ys) (YPair (fun i => xs[i]?) (fun i => ys[i]?)) := by
  subst hn
  refine ⟨fun i _ hi q => ?_, fun _ q => ⟨xs, ys, q.1, q.2, by omega⟩, fun i H v H' _ q y => ?_⟩
  · have h1 : i < xs.length := by omega
    have h2 : i < ys.length := by omega
    exact ⟨xs, ys, xs[i], ys[i], q.1, q.2, by simp [h1], by simp [h2]⟩
  · obtain ⟨T, x, z, h1, h2, h3, h4, h5⟩ := y
    exact ⟨T, x, z, h1, h2, h3, h4 xs q.1, h5 ys q.2⟩
end

/-! ### the items, as data -/
section
variable {K : PySem.W.Frag} {Y : Wd} {H : Hp} {M : MH} {st : MSt} {σ : L2.St}
theorem mwx_of {G : Hp → Prop} {J : It} {n : Nat} {xs : List V} {ds : List PyData} (g0 : GR K Y M H) (hn : n = ds.length) (w : Walk J n G (YAt xs)) (r : RpA K Y.F H xs ds) (hg : ∀ Y2 H2, Step Y H Y2 H2 → G H2) : MWx K J ds Y H := by
  subst hn
  refine ⟨G, YAt xs, w, hg, fun Y2 M2 H2 i x H3 d s g hi y e => ?_⟩
  obtain ⟨rfl, hx⟩ := y
  obtain ⟨x', hx', rx⟩ := (RpA.wk (s.wk g0) ds r).get e
  rw [hx] at hx'
  cases hx'
  exact ⟨Step.refl _ _, g, rx⟩
theorem mw_of {G : Hp → Prop} {J : It} {n : Nat} {xs : List V} {ds : List PyData} (hn : n = ds.length) (w : Walk J n G (YAt xs)) (r : RpA K Y.F H xs ds) (hg : ∀ F2 H2, Wk Y.F F2 H H2 → G H2) : MW K J ds Y H := by
  subst hn
  refine ⟨G, YAt xs, w, hg, fun Y2 M2 H2 i x H3 d wk g hi y e => ?_⟩
  obtain ⟨rfl, hx⟩ := y
  obtain ⟨x', hx', rx⟩ := (RpA.wk wk ds r).get e
  rw [hx] at hx'
  cases hx'
  exact ⟨Step.refl _ _, g, rx⟩
/-- pairs newly made at each turn -/
def pairD (a b : PyData) : PyData := .tuple [a, b]
theorem mw_pair {G : Hp → Prop} {J : It} {n : Nat} {fx fy : Nat → Option V} {ds : List PyData} (hn : n = ds.length) (w : Walk J n G (YPair fx fy)) (hg : ∀ F2 H2, Wk Y.F F2 H H2 → G H2)
    (r : ∀ i d x y, ds[i]? = some d → fx i = some x → fy i = some y → ∃ a b, d = pairD a b ∧ Rp K Y.F H x a ∧ Rp K Y.F H y b) : MW K J ds Y H := by
  subst hn
  refine ⟨G, YPair fx fy, w, hg, fun Y2 M2 H2 i x H3 d wk g hi y e => ?_⟩
  obtain ⟨T, x1, x2, rfl, hT, rfl, h1, h2⟩ := y
  obtain ⟨a, b, rfl, r1, r2⟩ := r i d x1 x2 e h1 h2
  exact ⟨Step.laid hT, g.laid hT, Rp.newT g hT (.cons (Rp.wk wk a r1) (.cons (Rp.wk wk b r2) .nil))⟩
theorem mwx_pair {G : Hp → Prop} {J : It} {n : Nat} {fx fy : Nat → Option V} {ds : List PyData} (g0 : GR K Y M H) (hn : n = ds.length) (w : Walk J n G (YPair fx fy)) (hg : ∀ Y2 H2, Step Y H Y2 H2 → G H2)
    (r : ∀ i d x y, ds[i]? = some d → fx i = some x → fy i = some y → ∃ a b, d = pairD a b ∧ Rp K Y.F H x a ∧ Rp K Y.F H y b) : MWx K J ds Y H := by
  subst hn
  refine ⟨G, YPair fx fy, w, hg, fun Y2 M2 H2 i x H3 d s g hi y e => ?_⟩
  obtain ⟨T, x1, x2, rfl, hT, rfl, h1, h2⟩ := y
  obtain ⟨a, b, rfl, r1, r2⟩ := r i d x1 x2 e h1 h2
  exact ⟨Step.laid hT, g.laid hT, Rp.newT g hT (.cons (Rp.wk (s.wk g0) a r1) (.cons (Rp.wk (s.wk g0) b r2) .nil))⟩
/-- what stays, of plain data -/
def datV : Val → Option PyData | .dat d => some d | _ => none
/-- .. and of what nobody but this frame writes -/
def ownV (st : MSt) (M : MH) : Val → Option PyData | .dat d => some d | .slot i => deref st M (.slot i) | .ro ds => some (.list ds) | .loc _ => none
@[simp] theorem datV_dat (d : PyData) : datV (.dat d) = some d := rfl
@[simp] theorem ownV_dat (st : MSt) (M : MH) (d : PyData) : ownV st M (.dat d) = some d := rfl
@[simp] theorem ownV_ro (st : MSt) (M : MH) (ds : List PyData) : ownV st M (.ro ds) = some (.list ds) := rfl
theorem seq_w {x : V} {v : Val} {d : PyData} (r : VRp K Y H st σ x v) (h : datV v = some d) : (∀ ds, d = .list ds → ∃ a xs, x = .ref a ∧ RpA K Y.F H xs ds ∧ ∀ F2 H2, Wk Y.F F2 H H2 → SqL K H2 a xs) ∧
    (∀ ds, d = .tuple ds → ∃ a xs, x = .ref a ∧ RpA K Y.F H xs ds ∧ ∀ F2 H2, Wk Y.F F2 H H2 → SqT K H2 a xs) := by
  cases v with
  | dat d' =>
    cases h
    refine ⟨fun ds e => ?_, fun ds e => ?_⟩
    · subst e
      cases r with
      | lst h1 h2 => exact ⟨_, _, rfl, h2, fun F2 H2 w => (h1.wk w).sq⟩
    · subst e
      cases r with
      | tup h1 h2 => exact ⟨_, _, rfl, h2, fun F2 H2 w => SqT.wk w (.inl (.inl h1))⟩
  | _ => cases h
theorem seq_x (g : GR K Y M H) (fr : FR K Y st H σ) {x : V} {v : Val} {d : PyData} (r : VRp K Y H st σ x v) (h : ownV st M v = some d) : (∀ ds, d = .list ds → ∃ a xs, x = .ref a ∧ RpA K Y.F H xs ds ∧ ∀ Y2 H2, Step Y H Y2 H2 → SqL K H2 a xs) ∧
    (∀ ds, d = .tuple ds → ∃ a xs, x = .ref a ∧ RpA K Y.F H xs ds ∧ ∀ Y2 H2, Step Y H Y2 H2 → SqT K H2 a xs) := by
  cases v with
  | dat d' =>
    have q := seq_w r (show datV (.dat d') = some d from h)
    refine ⟨fun ds e => ?_, fun ds e => ?_⟩
    · obtain ⟨a, xs, h1, h2, h3⟩ := q.1 ds e
      exact ⟨a, xs, h1, h2, fun Y2 H2 s => h3 Y2.F H2 (s.wk g)⟩
    · obtain ⟨a, xs, h1, h2, h3⟩ := q.2 ds e
      exact ⟨a, xs, h1, h2, fun Y2 H2 s => h3 Y2.F H2 (s.wk g)⟩
  | slot i =>
    obtain ⟨a, ds', rfl, h1, h2⟩ := r
    have h : (match st[i]? with | some (some (.own ds)) => some (PyData.list ds) | _ => none) = some d := h
    rw [h2] at h
    cases h
    obtain ⟨b, hb, o⟩ := fr.own i ds' h2
    rw [h1] at hb
    cases hb
    obtain ⟨⟨xs, hx, rx⟩, h3, h4⟩ := o
    refine ⟨fun ds e => ?_, fun ds e => by cases e⟩
    cases e
    exact ⟨a, xs, rfl, rx, fun Y2 H2 s => .inl (.inl (s.kp a _ hx h4))⟩
  | ro es =>
    cases h
    obtain ⟨a, xs, rfl, z, rx⟩ := r
    refine ⟨fun ds e => ?_, fun ds e => by cases e⟩
    cases e
    exact ⟨a, xs, rfl, rx, fun Y2 H2 s => (z.wk (s.wk g)).sq⟩
  | loc n => cases h
end

/-! ### the items in order -/
def enD (i : Nat) : List PyData → List PyData
  | [] => []
  | d :: r => pairD (.int (i : Nat)) d :: enD (i + 1) r
theorem enD_length : ∀ (ds : List PyData) (i : Nat), (enD i ds).length = ds.length
  | [], _ => rfl
  | d :: r, i => by rw [enD, List.length_cons, List.length_cons, enD_length r]
theorem enD_get : ∀ (ds : List PyData) (i j : Nat), (enD i ds)[j]? = (ds[j]?).map fun d => pairD (.int ((i + j : Nat))) d
  | [], _, _ => rfl
  | d :: r, i, 0 => rfl
  | d :: r, i, j + 1 => by
    rw [enD, List.getElem?_cons_succ, List.getElem?_cons_succ, enD_get r (i + 1) j, show i + 1 + j = i + (j + 1) by omega]
def zpD (as bs : List PyData) : List PyData := List.zipWith pairD as bs
def zip2 : PyData → PyData → Option (List PyData)
  | .list a, .list b => some (zpD a b)
  | .tuple a, .tuple b => some (zpD a b)
  | _, _ => none
def iSq (v : MSt → MH → Val → Option PyData) (f : Ex Val) : Ex (List PyData) := fun st M => (f st M).bind fun x M1 => Out.ofOpt ((v st M1 x).bind seqOf) M1
def iEn (v : MSt → MH → Val → Option PyData) (f : Ex Val) : Ex (List PyData) := fun st M => (f st M).bind fun x M1 => Out.ofOpt ((v st M1 x).bind fun d => (seqOf d).map (enD 0)) M1
def iRv (v : MSt → MH → Val → Option PyData) (f : Ex Val) : Ex (List PyData) := fun st M => (f st M).bind fun x M1 => Out.ofOpt ((v st M1 x).bind fun d => (seqOf d).map List.reverse) M1
def iZp (v : MSt → MH → Val → Option PyData) (f1 f2 : Ex Val) : Ex (List PyData) := fun st M => (f1 st M).bind fun x M1 => (f2 st M1).bind fun y M2 => Out.ofOpt ((v st M2 x).bind fun a => (v st M2 y).bind fun b => zip2 a b) M2
abbrev vD : MSt → MH → Val → Option PyData := fun _ _ => datV
abbrev vO : MSt → MH → Val → Option PyData := ownV
theorem seqOf_some {d : PyData} {ds : List PyData} (h : seqOf d = some ds) : d = .list ds ∨ d = .tuple ds := by
  cases d with
  | list es => cases h; exact .inl rfl
  | tuple es => cases h; exact .inr rfl
  | _ => cases h
theorem rev_get {α : Type} {ds : List α} {i : Nat} {d : α} (h : ds.reverse[i]? = some d) : i < ds.length ∧ ds[ds.length - 1 - i]? = some d := by
  have hi : i < ds.length := by
    have h1 := (List.getElem?_eq_some_iff.mp h).1
    simpa using h1
  rw [List.getElem?_reverse hi] at h
  exact ⟨hi, h⟩
section
variable {X : Cx} {P : Pm} {e e2 tg : Expr} {p pos tpos : Pos} {f f2 : Ex Val} {elts : List Expr} {kk : Nat}
theorem si_seq (h : SE X P e f) : SI X P tg e (iSq vD f) := by
  refine PI.imp (pi_any h) fun σ H Q q => ?_
  obtain ⟨Y, M, st, g0, fr, q⟩ := q
  refine ⟨Y, M, st, g0, fr, Post.bind (R1 := RV X.K) shI q fun va M1 Y1 H1 x _ s1 g1 r1 q1 => ?_⟩
  obtain ⟨ds, ed, q⟩ := Post.opt q1
  obtain ⟨d, e1, e2⟩ := Option.bind_eq_some_iff.mp ed
  have sq := seq_w r1 e1
  rcases seqOf_some e2 with rfl | rfl
  · obtain ⟨a, xs, rfl, rx, hs⟩ := sq.1 ds rfl
    exact ⟨a, rfl, .inl ⟨xs, hs _ _ (Wk.refl _ _), Post.ok q (Step.refl Y1 H1) g1 (mw_of rx.length walk_list rx hs)⟩⟩
  · obtain ⟨a, xs, rfl, rx, hs⟩ := sq.2 ds rfl
    exact ⟨a, rfl, .inr ⟨xs, hs _ _ (Wk.refl _ _), Post.ok q (Step.refl Y1 H1) g1 (mw_of rx.length walk_tup rx hs)⟩⟩
theorem six_seq (h : SE X P e f) : SIx X P tg e (iSq vO f) := by
  refine PI.imp (pi_any h) fun σ H Q q => ?_
  obtain ⟨Y, M, st, g0, fr, q⟩ := q
  refine ⟨Y, M, st, g0, fr, Post.bind (R1 := RV X.K) shIx q fun va M1 Y1 H1 x _ s1 g1 r1 q1 => ?_⟩
  obtain ⟨ds, ed, q⟩ := Post.opt q1
  obtain ⟨d, e1, e2⟩ := Option.bind_eq_some_iff.mp ed
  have sq := seq_x g1 (fr.step g0 s1) r1 e1
  rcases seqOf_some e2 with rfl | rfl
  · obtain ⟨a, xs, rfl, rx, hs⟩ := sq.1 ds rfl
    exact ⟨a, rfl, .inl ⟨xs, hs _ _ (Step.refl _ _), Post.ok q (Step.refl Y1 H1) g1 (mwx_of g1 rx.length walk_list rx hs)⟩⟩
  · obtain ⟨a, xs, rfl, rx, hs⟩ := sq.2 ds rfl
    exact ⟨a, rfl, .inr ⟨xs, hs _ _ (Step.refl _ _), Post.ok q (Step.refl Y1 H1) g1 (mwx_of g1 rx.length walk_tup rx hs)⟩⟩
theorem en_prs {K : PySem.W.Frag} {F : Addr → Prop} {H : Hp} {xs : List V} {ds : List PyData} (rx : RpA K F H xs ds) : ∀ (i : Nat) d (x y : V), (enD 0 ds)[i]? = some d → (some (V.int (i : Nat)) : Option V) = some x → xs[i]? = some y → ∃ a b, d = pairD a b ∧ Rp K F H x a ∧ Rp K F H y b := by
  intro i d x y h1 h2 h3
  rw [enD_get] at h1
  obtain ⟨b, hb, rfl⟩ := Option.map_eq_some_iff.mp h1
  cases h2
  obtain ⟨y', hy', ry⟩ := rx.get hb
  rw [h3] at hy'
  cases hy'
  refine ⟨_, b, rfl, ?_, ry⟩
  rw [Nat.zero_add]
  exact .int _
theorem si_enum (hg : Gl X "enumerate") (hm : X.mg "enumerate" = none) (h : SE X P e f) (hs : starEach [e] X.env = (false, eval e X.env) :: starEach [] X.env := by rfl) : SI X P (.Tuple elts kk tpos) (.Call (.Name "enumerate" p) [e] [] pos) (iEn vD f) := by
  refine PI.imp (pi_enumA hg hm h hs) fun σ H Q q => ?_
  obtain ⟨Y, M, st, g0, fr, q⟩ := q
  refine ⟨Y, M, st, g0, fr, Post.bind (R1 := RV X.K) shI q fun va M1 Y1 H1 x _ s1 g1 r1 q1 => ?_⟩
  obtain ⟨es, ed, q⟩ := Post.opt q1
  obtain ⟨d, e1, e3⟩ := Option.bind_eq_some_iff.mp ed
  obtain ⟨ds, e4, rfl⟩ := Option.map_eq_some_iff.mp e3
  have sq := seq_w r1 e1
  rcases seqOf_some e4 with rfl | rfl
  · obtain ⟨a, xs, rfl, rx, hs⟩ := sq.1 ds rfl
    exact ⟨a, xs, rfl, .inl ⟨hs _ _ (Wk.refl _ _), Post.ok q (Step.refl Y1 H1) g1 (mw_pair (by rw [enD_length, rx.length]) walk_enum hs (en_prs rx))⟩⟩
  · obtain ⟨a, xs, rfl, rx, hs⟩ := sq.2 ds rfl
    exact ⟨a, xs, rfl, .inr ⟨hs _ _ (Wk.refl _ _), Post.ok q (Step.refl Y1 H1) g1 (mw_pair (by rw [enD_length, rx.length]) walk_enumTup hs (en_prs rx))⟩⟩
theorem six_enum (hg : Gl X "enumerate") (hm : X.mg "enumerate" = none) (h : SE X P e f) (hs : starEach [e] X.env = (false, eval e X.env) :: starEach [] X.env := by rfl) : SIx X P (.Tuple elts kk tpos) (.Call (.Name "enumerate" p) [e] [] pos) (iEn vO f) := by
  refine PI.imp (pi_enumA hg hm h hs) fun σ H Q q => ?_
  obtain ⟨Y, M, st, g0, fr, q⟩ := q
  refine ⟨Y, M, st, g0, fr, Post.bind (R1 := RV X.K) shIx q fun va M1 Y1 H1 x _ s1 g1 r1 q1 => ?_⟩
  obtain ⟨es, ed, q⟩ := Post.opt q1
  obtain ⟨d, e1, e3⟩ := Option.bind_eq_some_iff.mp ed
  obtain ⟨ds, e4, rfl⟩ := Option.map_eq_some_iff.mp e3
  have sq := seq_x g1 (fr.step g0 s1) r1 e1
  rcases seqOf_some e4 with rfl | rfl
  · obtain ⟨a, xs, rfl, rx, hs⟩ := sq.1 ds rfl
    exact ⟨a, xs, rfl, .inl ⟨hs _ _ (Step.refl _ _), Post.ok q (Step.refl Y1 H1) g1 (mwx_pair g1 (by rw [enD_length, rx.length]) walk_enum hs (en_prs rx))⟩⟩
  · obtain ⟨a, xs, rfl, rx, hs⟩ := sq.2 ds rfl
    exact ⟨a, xs, rfl, .inr ⟨hs _ _ (Step.refl _ _), Post.ok q (Step.refl Y1 H1) g1 (mwx_pair g1 (by rw [enD_length, rx.length]) walk_enumTup hs (en_prs rx))⟩⟩
theorem six_rev (hg : Gl X "reversed") (hm : X.mg "reversed" = none) (h : SE X P e f) (hs : starEach [e] X.env = (false, eval e X.env) :: starEach [] X.env := by rfl) : SIx X P tg (.Call (.Name "reversed" p) [e] [] pos) (iRv vO f) := by
  refine PI.imp (RT.pi_revA hg hm h hs) fun σ H Q q => ?_
  obtain ⟨Y, M, st, g0, fr, q⟩ := q
  refine ⟨Y, M, st, g0, fr, Post.bind (R1 := RV X.K) shIx q fun va M1 Y1 H1 x _ s1 g1 r1 q1 => ?_⟩
  obtain ⟨es, ed, q⟩ := Post.opt q1
  obtain ⟨d, e1, e3⟩ := Option.bind_eq_some_iff.mp ed
  obtain ⟨ds, e4, rfl⟩ := Option.map_eq_some_iff.mp e3
  have sq := seq_x g1 (fr.step g0 s1) r1 e1
  have rv : ∀ {xs : List V} {i : Nat} {x : V}, RpA X.K Y1.F H1 xs ds → xs[xs.length - 1 - i]? = some x → i < xs.length → xs.reverse[i]? = some x := fun {xs i x} rx h hi => by
    rw [List.getElem?_reverse hi]
    exact h
  rcases seqOf_some e4 with rfl | rfl
  · obtain ⟨a, xs, rfl, rx, hs⟩ := sq.1 ds rfl
    exact ⟨a, xs, rfl, .inl ⟨hs _ _ (Step.refl _ _), Post.ok q (Step.refl Y1 H1) g1 (mwx_of (xs := xs.reverse) g1 (by rw [List.length_reverse, rx.length]) (walk_rev.mono (fun _ h => h) fun i H2 x H3 hi hG y => ⟨y.1, rv rx y.2 hi⟩) rx.reverse hs)⟩⟩
  · obtain ⟨a, xs, rfl, rx, hs⟩ := sq.2 ds rfl
    refine ⟨a, xs, rfl, .inr ⟨hs _ _ (Step.refl _ _), Post.ok q (Step.refl Y1 H1) g1 (mwx_of (xs := xs.reverse) (G := fun H => SqT X.K H a xs) g1 (n := xs.length) (by rw [List.length_reverse, rx.length]) ?_ rx.reverse hs)⟩⟩
    exact ⟨fun i _ hi q => ⟨hi, xs, xs[xs.length - 1 - i]'(by omega), q, by simp [show xs.length - 1 - i < xs.length by omega]⟩, fun _ _ => Nat.le_refl _, fun i H2 x H3 hi q y => ⟨y.1, rv rx (y.2 xs q) hi⟩⟩
theorem zp_prs {K : PySem.W.Frag} {F : Addr → Prop} {H : Hp} {xs ys : List V} {ds es : List PyData} (rx : RpA K F H xs ds) (ry : RpA K F H ys es) : ∀ (i : Nat) d (x y : V), (zpD ds es)[i]? = some d → xs[i]? = some x → ys[i]? = some y → ∃ a b, d = pairD a b ∧ Rp K F H x a ∧ Rp K F H y b := by
  intro i d x y h1 h2 h3
  unfold zpD at h1
  rw [List.getElem?_zipWith] at h1
  obtain ⟨a, ha, r1⟩ := rx.get' h2
  obtain ⟨b, hb, r2⟩ := ry.get' h3
  rw [ha, hb] at h1
  cases h1
  exact ⟨a, b, rfl, r1, r2⟩
theorem zip2_some {a b : PyData} {zs : List PyData} (h : zip2 a b = some zs) : ∃ ds es, zs = zpD ds es ∧ ((a = .list ds ∧ b = .list es) ∨ (a = .tuple ds ∧ b = .tuple es)) := by
  unfold zip2 at h
  split at h
  · cases h; exact ⟨_, _, rfl, .inl ⟨rfl, rfl⟩⟩
  · cases h; exact ⟨_, _, rfl, .inr ⟨rfl, rfl⟩⟩
  · cases h
theorem rn_two {K : PySem.W.Frag} {R : List V → Hp → Prop} {σ : L2.St} {H : Hp} (h : Rn K P (RA K) (aCons f (aCons f2 aNil)) σ H R) : Rn K P (RA K) (aCons f (aCons f2 aNil)) σ H R := h
theorem zpD_len (ds es : List PyData) : (zpD ds es).length = min ds.length es.length := by simp [zpD]
theorem si_zip (hg : Gl X "zip") (hm : X.mg "zip" = none) (h : SE X P e f) (h2 : SE X P e2 f2) (hs : starEach [e, e2] X.env = (false, eval e X.env) :: starEach [e2] X.env := by rfl) (hs1 : starEach [e2] X.env = (false, eval e2 X.env) :: starEach [] X.env := by rfl)
    (hpl : (backTo pos (starEach [e2] X.env)).any (·.1) = false := by rfl) : SI X P (.Tuple elts kk tpos) (.Call (.Name "zip" p) [e, e2] [] pos) (iZp vD f f2) := by
  refine PI.imp (RZ.pi_zipA hg hm (sa_cons h (sa_cons h2 sa_nil hs1) hs) hs hpl) fun σ H Q q => ?_
  obtain ⟨Y, M, st, g0, fr, q⟩ := q
  have q : Post X.K P (RI X.K) st σ Y H ((aCons f (aCons f2 aNil) st M).bind fun vs M2 => Out.ofOpt (match vs with | [x, y] => (vD st M2 x).bind fun a => (vD st M2 y).bind fun b => zip2 a b | _ => none) M2) Q := by
    refine cast (congrArg (fun o => Post X.K P (RI X.K) st σ Y H o Q) ?_) q
    unfold iZp aCons aNil
    cases f st M with
    | ok x M1 =>
      simp only [Out.bind_ok]
      cases f2 st M1 <;> rfl
    | exc _ _ => rfl
    | err => rfl
  refine ⟨Y, M, st, g0, fr, Post.bind (R1 := RA X.K) shI q fun vs M1 Y1 H1 xs _ s1 g1 r1 q1 => ?_⟩
  obtain ⟨zs, ez, q⟩ := Post.opt q1
  match vs, ez with
  | [x, y], ez =>
    obtain ⟨a, ea, ez⟩ := Option.bind_eq_some_iff.mp ez
    obtain ⟨b, eb, ez⟩ := Option.bind_eq_some_iff.mp ez
    cases r1 with
    | cons r1 r2 =>
      cases r2 with
      | cons r2 r3 =>
        cases r3
        obtain ⟨ds, es, rfl, h⟩ := zip2_some ez
        rcases h with ⟨rfl, rfl⟩ | ⟨rfl, rfl⟩
        · obtain ⟨a, xs, rfl, rx, h1⟩ := (seq_w r1 ea).1 ds rfl
          obtain ⟨b, ys, rfl, ry, h2⟩ := (seq_w r2 eb).1 es rfl
          exact ⟨a, b, xs, ys, rfl, .inl ⟨h1 _ _ (Wk.refl _ _), h2 _ _ (Wk.refl _ _), Post.ok q (Step.refl Y1 H1) g1 (mw_pair (by rw [zpD_len, rx.length, ry.length]) (walk_zip rfl) (fun F2 H2 w => ⟨h1 F2 H2 w, h2 F2 H2 w⟩) (zp_prs rx ry))⟩⟩
        · obtain ⟨a, xs, rfl, rx, h1⟩ := (seq_w r1 ea).2 ds rfl
          obtain ⟨b, ys, rfl, ry, h2⟩ := (seq_w r2 eb).2 es rfl
          exact ⟨a, b, xs, ys, rfl, .inr ⟨h1 _ _ (Wk.refl _ _), h2 _ _ (Wk.refl _ _), Post.ok q (Step.refl Y1 H1) g1 (mw_pair (by rw [zpD_len, rx.length, ry.length]) (walk_zipTup rfl) (fun F2 H2 w => ⟨h1 F2 H2 w, h2 F2 H2 w⟩) (zp_prs rx ry))⟩⟩
theorem six_zip (hg : Gl X "zip") (hm : X.mg "zip" = none) (h : SE X P e f) (h2 : SE X P e2 f2) (hs : starEach [e, e2] X.env = (false, eval e X.env) :: starEach [e2] X.env := by rfl) (hs1 : starEach [e2] X.env = (false, eval e2 X.env) :: starEach [] X.env := by rfl)
    (hpl : (backTo pos (starEach [e2] X.env)).any (·.1) = false := by rfl) : SIx X P (.Tuple elts kk tpos) (.Call (.Name "zip" p) [e, e2] [] pos) (iZp vO f f2) := by
  refine PI.imp (RZ.pi_zipA hg hm (sa_cons h (sa_cons h2 sa_nil hs1) hs) hs hpl) fun σ H Q q => ?_
  obtain ⟨Y, M, st, g0, fr, q⟩ := q
  have q : Post X.K P (RIx X.K) st σ Y H ((aCons f (aCons f2 aNil) st M).bind fun vs M2 => Out.ofOpt (match vs with | [x, y] => (vO st M2 x).bind fun a => (vO st M2 y).bind fun b => zip2 a b | _ => none) M2) Q := by
    refine cast (congrArg (fun o => Post X.K P (RIx X.K) st σ Y H o Q) ?_) q
    unfold iZp aCons aNil
    cases f st M with
    | ok x M1 =>
      simp only [Out.bind_ok]
      cases f2 st M1 <;> rfl
    | exc _ _ => rfl
    | err => rfl
  refine ⟨Y, M, st, g0, fr, Post.bind (R1 := RA X.K) shIx q fun vs M1 Y1 H1 xs _ s1 g1 r1 q1 => ?_⟩
  have fr1 := fr.step g0 s1
  obtain ⟨zs, ez, q⟩ := Post.opt q1
  match vs, ez with
  | [x, y], ez =>
    obtain ⟨a, ea, ez⟩ := Option.bind_eq_some_iff.mp ez
    obtain ⟨b, eb, ez⟩ := Option.bind_eq_some_iff.mp ez
    cases r1 with
    | cons r1 r2 =>
      cases r2 with
      | cons r2 r3 =>
        cases r3
        obtain ⟨ds, es, rfl, h⟩ := zip2_some ez
        rcases h with ⟨rfl, rfl⟩ | ⟨rfl, rfl⟩
        · obtain ⟨a, xs, rfl, rx, h1⟩ := (seq_x g1 fr1 r1 ea).1 ds rfl
          obtain ⟨b, ys, rfl, ry, h2⟩ := (seq_x g1 fr1 r2 eb).1 es rfl
          exact ⟨a, b, xs, ys, rfl, .inl ⟨h1 _ _ (Step.refl _ _), h2 _ _ (Step.refl _ _), Post.ok q (Step.refl Y1 H1) g1 (mwx_pair g1 (by rw [zpD_len, rx.length, ry.length]) (walk_zip rfl) (fun F2 H2 w => ⟨h1 F2 H2 w, h2 F2 H2 w⟩) (zp_prs rx ry))⟩⟩
        · obtain ⟨a, xs, rfl, rx, h1⟩ := (seq_x g1 fr1 r1 ea).2 ds rfl
          obtain ⟨b, ys, rfl, ry, h2⟩ := (seq_x g1 fr1 r2 eb).2 es rfl
          exact ⟨a, b, xs, ys, rfl, .inr ⟨h1 _ _ (Step.refl _ _), h2 _ _ (Step.refl _ _), Post.ok q (Step.refl Y1 H1) g1 (mwx_pair g1 (by rw [zpD_len, rx.length, ry.length]) (walk_zipTup rfl) (fun F2 H2 w => ⟨h1 F2 H2 w, h2 F2 H2 w⟩) (zp_prs rx ry))⟩⟩
end
end Mn

set_option Elab.async false
set_option linter.all false
set_option maxRecDepth 100000
set_option maxHeartbeats 4000000
namespace Mn
open PySem PySem.Spec PyProof.Rows L2

/-! ### walking a range -/
def rgSm (a b : Int) : Bool := decide (-(2 ^ 62) ≤ a) && decide (a < 2 ^ 62) && decide (-(2 ^ 62) ≤ b) && decide (b < 2 ^ 62)
theorem rgSm_of {a b : Int} (h : rgSm a b = true) : -(2 ^ 62) ≤ a ∧ a < 2 ^ 62 ∧ -(2 ^ 62) ≤ b ∧ b < 2 ^ 62 := by
  unfold rgSm at h
  simp only [Bool.and_eq_true, decide_eq_true_eq] at h
  exact ⟨h.1.1.1, h.1.1.2, h.1.2, h.2⟩
def iRg (f : Ex (Int × Int)) : Ex (List PyData) := fun st M => (f st M).bind fun ab M1 => if rgSm ab.1 ab.2 = true then .ok (rgD ab.1 ab.2) M1 else .err
section
variable {X : Cx} {P : Pm} {a b tg : Expr} {p pos : Pos} {f f2 : Ex Val}
theorem walk_rg {lo : Int} {n : Nat} {hi : Int} (hn : n = (hi - lo).toNat) : Walk (Itr lo n) n (fun _ => True) (YAt (rgV lo hi)) := by
  refine walk_range.mono (fun _ _ => trivial) fun i H x H' hi' _ y => ⟨y.1, ?_⟩
  rw [y.2]
  unfold rgV
  rw [List.getElem?_map, List.getElem?_range (by omega)]
  rfl
theorem rgD_length (lo hi : Int) : (rgD lo hi).length = (hi - lo).toNat := by simp [rgD]
theorem si_rg1 (hg : Gl X "range") (hm : X.mg "range" = none) (ha : SE X P a f) (na : starEach [a] X.env = (false, eval a X.env) :: starEach [] X.env := by rfl) (hs : starEach [a] X.env = [(false, eval a X.env)] := by rfl) :
    SI X P tg (.Call (.Name "range" p) [a] [] pos) (iRg (eRg1 f)) := by
  refine PI.imp (pi_range1 hg hm (sa_cons ha sa_nil na) hs) fun σ H Q q => ?_
  obtain ⟨Y, M, st, g0, fr, q⟩ := q
  refine ⟨Y, M, st, g0, fr, ?_⟩
  unfold aCons aNil
  unfold iRg eRg1 at q
  cases e : f st M with
  | exc ex M1 => rw [e] at q; exact q
  | err => rw [e] at q; exact q
  | ok v M1 =>
    rw [e] at q
    simp only [Out.bind_ok] at q ⊢
    intro Y1 H1 xs s1 g1 r1
    cases ev : intOf v with
    | none => rw [ev] at q; exact False.elim q
    | some n =>
      rw [ev] at q
      simp only [Option.map_some, Out.ofOpt_some, Out.bind_ok] at q
      cases intOf_some ev
      cases r1 with
      | cons r1 r2 =>
        cases r2
        cases VRp.int r1
        cases hr : rgSm 0 n with
        | false => rw [hr] at q; exact False.elim q
        | true =>
          rw [hr, if_pos rfl] at q
          obtain ⟨h1, h2, h3, h4⟩ := rgSm_of hr
          exact ⟨n, rfl, h3, h4, q Y1 H1 _ s1 g1 (mw_of (by rw [rgD_length]; omega) (walk_rg (hi := n) (by omega)) (rg_rp 0 n) fun _ _ _ => trivial)⟩
theorem si_rg2 (hg : Gl X "range") (hm : X.mg "range" = none) (ha : SE X P a f) (hb : SE X P b f2) (na : starEach [a, b] X.env = (false, eval a X.env) :: starEach [b] X.env := by rfl) (nb : starEach [b] X.env = (false, eval b X.env) :: starEach [] X.env := by rfl)
    (hs : starEach [a, b] X.env = [(false, eval a X.env), (false, eval b X.env)] := by rfl) (hs2 : starEach [b] X.env = [(false, eval b X.env)] := by rfl) :
    SI X P tg (.Call (.Name "range" p) [a, b] [] pos) (iRg (eRg2 f f2)) := by
  refine PI.imp (pi_range2 hg hm (sa_cons ha (sa_cons hb sa_nil nb) na) hs hs2) fun σ H Q q => ?_
  obtain ⟨Y, M, st, g0, fr, q⟩ := q
  refine ⟨Y, M, st, g0, fr, ?_⟩
  unfold aCons
  unfold aNil
  unfold iRg eRg2 at q
  cases e : f st M with
  | exc ex M1 => rw [e] at q; exact q
  | err => rw [e] at q; exact q
  | ok v M1 =>
    rw [e] at q
    simp only [Out.bind_ok] at q ⊢
    cases e2 : f2 st M1 with
    | exc ex M2 => rw [e2] at q; exact q
    | err => rw [e2] at q; exact q
    | ok w M2 =>
      rw [e2] at q
      simp only [Out.bind_ok] at q ⊢
      intro Y1 H1 xs s1 g1 r1
      cases ev : intOf v with
      | none => rw [ev] at q; exact False.elim q
      | some n =>
        cases ew : intOf w with
        | none => rw [ev, ew] at q; exact False.elim q
        | some m =>
          rw [ev, ew] at q
          simp only [Option.bind_some, Option.map_some, Out.ofOpt_some, Out.bind_ok] at q
          cases intOf_some ev
          cases intOf_some ew
          cases r1 with
          | cons r1 r2 =>
            cases r2 with
            | cons r2 r3 =>
              cases r3
              cases VRp.int r1
              cases VRp.int r2
              cases hr : rgSm n m with
              | false => rw [hr] at q; exact False.elim q
              | true =>
                rw [hr, if_pos rfl] at q
                obtain ⟨h1, h2, h3, h4⟩ := rgSm_of hr
                exact ⟨n, m, rfl, ⟨h1, h2, h3, h4⟩, q Y1 H1 _ s1 g1 (mw_of (by rw [rgD_length]) (walk_rg rfl) (rg_rp n m) fun _ _ _ => trivial)⟩
end

/-! ### targets -/
abbrev Tgt := Sl → MSt → Option MSt
section
variable (K : PySem.W.Frag)
/-- to be stored: a value, or a list that no slot owns -/
def SlN (Y : Wd) (H0 H : Hp) (st : MSt) (σ : L2.St) (x : V) : Sl → Prop
  | .v y => VR0 K Y H x y
  | .own ds => ∃ a, x = .ref a ∧ Ow K Y H a ds ∧ H0 a = none ∧ ∀ (i : Nat) es, st[i]? = some (some (.own es)) → σ[i]? ≠ some (some (.ref a))
def isOwn : Sl → Bool | .own _ => true | .v _ => false
inductive SlNs (Y : Wd) (H0 H : Hp) (st : MSt) (σ : L2.St) : List V → List Sl → Prop
  | nil : SlNs Y H0 H st σ [] []
  | cons {x : V} {s : Sl} {xs : List V} {ss : List Sl} : SlN K Y H0 H st σ x s → SlNs Y H0 H st σ xs ss → (isOwn s = true → ∀ (j : Nat) es, ss[j]? = some (.own es) → xs[j]? ≠ some x) → SlNs Y H0 H st σ (x :: xs) (s :: ss)
structure Asg (Y : Wd) (H0 H : Hp) (st : MSt) (σ : L2.St) (st' : MSt) (σ' : L2.St) (ws : List Nat) (nw : Addr → Prop) : Prop where
  fr : FR K Y st' H σ'
  yo : OwnFr H0 st' σ'
  out : ∀ i, i ∉ ws → σ'[i]? = σ[i]?
  len : σ'.length = σ.length
  sub : ∀ (j : Nat) es a, st'[j]? = some (some (.own es)) → σ'[j]? = some (some (.ref a)) → (∃ (k : Nat) (ds : List PyData), st[k]? = some (some (.own ds)) ∧ σ[k]? = some (some (.ref a))) ∨ nw a
def tgR (ws : List Nat) (g : Tgt) : TG := fun x σ H Q => ∃ Y M H0 st s st', GR K Y M H ∧ FR K Y st H σ ∧ OwnFr H0 st σ ∧ SlN K Y H0 H st σ x s ∧ g s st = some st' ∧
  ∀ σ', Asg K Y H0 H st σ st' σ' ws (fun a => isOwn s = true ∧ x = .ref a) → Q σ' H
def tgRs (ws : List Nat) (g : List Sl → MSt → Option MSt) : TGs := fun xs σ H Q => ∃ Y M H0 st ss st', GR K Y M H ∧ FR K Y st H σ ∧ OwnFr H0 st σ ∧ SlNs K Y H0 H st σ xs ss ∧ g ss st = some st' ∧
  ∀ σ', Asg K Y H0 H st σ st' σ' ws (fun a => ∃ (j : Nat) (es : List PyData), ss[j]? = some (Sl.own es) ∧ xs[j]? = some (V.ref a)) → Q σ' H
end
abbrev SG (X : Cx) (tg : Expr) (ws : List Nat) (g : Tgt) : Prop := PG X tg (tgR X.K ws g)
abbrev SGs (X : Cx) (tgs : List Expr) (ws : List Nat) (g : List Sl → MSt → Option MSt) : Prop := PGs X tgs (tgRs X.K ws g)
theorem PG.imp {X : Cx} {tg : Expr} {t t' : TG} (h : PG X tg t) (i : ∀ x σ H Q, t' x σ H Q → t x σ H Q) : PG X tg t' := ⟨fun pins s σ H v u Q I r q => h.run pins s σ H v u Q I r (i v σ H Q q)⟩
theorem PGs.imp {X : Cx} {tg : List Expr} {t t' : TGs} (h : PGs X tg t) (i : ∀ x σ H Q, t' x σ H Q → t x σ H Q) : PGs X tg t' := ⟨fun pins s σ H v u Q I r q => h.run pins s σ H v u Q I r (i v σ H Q q)⟩
def tgN (i : Nat) : Tgt := fun s st => some (st.set i (some s))
def tgsNil : List Sl → MSt → Option MSt | [], st => some st | _ :: _, _ => none
def tgsCons (g : Tgt) (r : List Sl → MSt → Option MSt) : List Sl → MSt → Option MSt | s :: ss, st => (g s st).bind (r ss) | [], _ => none
def itemsS : Sl → Option (List PyData)
  | .v (.dat (.tuple ds)) => some ds
  | .v (.dat (.list ds)) => some ds
  | .own ds => some ds
  | _ => none
def tgT (n : Nat) (r : List Sl → MSt → Option MSt) : Tgt := fun s st => (itemsS s).bind fun ds => if ds.length = n then r (ds.map fun d => .v (.dat d)) st else none
section
variable {K : PySem.W.Frag} {Y : Wd} {M : MH} {H H0 : Hp} {st : MSt} {σ : L2.St}
theorem set_get {α : Type} {l : List α} {i j : Nat} {a b : α} (h : (l.set i a)[j]? = some b) : (i = j ∧ a = b) ∨ (i ≠ j ∧ l[j]? = some b) := by
  by_cases e : i = j
  · subst e
    rw [List.getElem?_set_self'] at h
    cases q : l[i]? with
    | none => rw [q] at h; cases h
    | some c => rw [q] at h; exact .inl ⟨rfl, Option.some.inj h⟩
  · rw [List.getElem?_set_ne e] at h
    exact .inr ⟨e, h⟩
theorem set_in {α : Type} {l : List α} {i j : Nat} {a b : α} (h : (l.set i a)[j]? = some b) : j < l.length := by
  have := (List.getElem?_eq_some_iff.mp h).1
  simpa using this
/-- a slot is set -/
theorem asg_set (fr : FR K Y st H σ) (yo : OwnFr H0 st σ) {x : V} {s : Sl} (n : SlN K Y H0 H st σ x s) (i : Nat) : Asg K Y H0 H st σ (st.set i (some s)) (σ.set i (some x)) [i] (fun a => isOwn s = true ∧ x = .ref a) := by
  have atl : ∀ {j : Nat} {b : Option Sl}, (st.set i (some s))[j]? = some b → i = j → (σ.set i (some x))[j]? = some (some x) := fun {j b} h e => by
    subst e
    exact List.getElem?_set_self (by rw [← fr.len]; exact set_in h)
  have off : ∀ {j : Nat}, i ≠ j → (σ.set i (some x))[j]? = σ[j]? := fun e => List.getElem?_set_ne e
  refine ⟨⟨by rw [List.length_set, List.length_set]; exact fr.len, fun j y e => ?_, fun j ds e => ?_, fun j k ds es a e1 e2 e3 e4 => ?_⟩, fun j ds a e1 e2 => ?_, fun j hj => ?_, by rw [List.length_set], fun j es a e1 e2 => ?_⟩
  · rcases set_get e with ⟨h1, h2⟩ | ⟨h1, h2⟩
    · cases h2
      exact ⟨x, atl e h1, n⟩
    · rw [off h1]
      exact fr.val j y h2
  · rcases set_get e with ⟨h1, h2⟩ | ⟨h1, h2⟩
    · cases h2
      obtain ⟨a, rfl, o, _⟩ := n
      exact ⟨a, atl e h1, o⟩
    · rw [off h1]
      exact fr.own j ds h2
  · rcases set_get e1 with ⟨h1, h2⟩ | ⟨h1, h2⟩ <;> rcases set_get e2 with ⟨h3, h4⟩ | ⟨h3, h4⟩
    · rw [← h1, ← h3]
    · cases h2
      obtain ⟨b, rfl, _, _, nd⟩ := n
      rw [atl e1 h1] at e3
      cases e3
      rw [off h3] at e4
      exact absurd e4 (nd k es h4)
    · cases h4
      obtain ⟨b, rfl, _, _, nd⟩ := n
      rw [atl e2 h3] at e4
      cases e4
      rw [off h1] at e3
      exact absurd e3 (nd j ds h2)
    · rw [off h1] at e3
      rw [off h3] at e4
      exact fr.inj j k ds es a h2 h4 e3 e4
  · rcases set_get e1 with ⟨h1, h2⟩ | ⟨h1, h2⟩
    · cases h2
      obtain ⟨b, rfl, _, hn, _⟩ := n
      rw [atl e1 h1] at e2
      cases e2
      exact hn
    · rw [off h1] at e2
      exact yo j ds a h2 e2
  · exact off (fun e => hj (by simp [e]))
  · rcases set_get e1 with ⟨h1, h2⟩ | ⟨h1, h2⟩
    · cases h2
      rw [atl e1 h1] at e2
      cases e2
      exact .inr ⟨rfl, rfl⟩
    · rw [off h1] at e2
      exact .inl ⟨j, es, h2, e2⟩
/-- what waits to be stored still may be, after an earlier store -/
theorem SlNs.after {st' : MSt} {σ' : L2.St} {nw : Addr → Prop} (sub : ∀ (j : Nat) es a, st'[j]? = some (some (.own es)) → σ'[j]? = some (some (.ref a)) → (∃ (k : Nat) (ds : List PyData), st[k]? = some (some (.own ds)) ∧ σ[k]? = some (some (.ref a))) ∨ nw a) :
    ∀ {xs : List V} {ss : List Sl}, SlNs K Y H0 H st σ xs ss → (∀ (j : Nat) es a, ss[j]? = some (.own es) → xs[j]? = some (.ref a) → ¬ nw a) → SlNs K Y H0 H st' σ' xs ss
  | _, _, .nil, _ => .nil
  | _, _, .cons (s := s) h1 h2 h3, hn => by
    refine .cons ?_ (SlNs.after sub h2 fun j es a e1 e2 => hn (j + 1) es a (by simpa using e1) (by simpa using e2)) h3
    cases s with
    | v y => exact h1
    | own ds =>
      obtain ⟨a, rfl, o, hz, nd⟩ := h1
      refine ⟨a, rfl, o, hz, fun i es e1 e2 => ?_⟩
      rcases sub i es a e1 e2 with ⟨k, ds', q1, q2⟩ | q
      · exact nd k ds' q1 q2
      · exact hn 0 ds a rfl rfl q
theorem dat_slNs : ∀ {ds : List PyData} {xs : List V}, RpA K Y.F H xs ds → SlNs K Y H0 H st σ xs (ds.map fun d => .v (.dat d))
  | [], _, h => by cases h; exact .nil
  | d :: ds, _, h => by
    cases h with
    | cons h1 h2 => exact .cons h1 (dat_slNs h2) fun e => by cases e
theorem dat_noOwn {ds : List PyData} {j : Nat} {es : List PyData} : (ds.map fun d => Sl.v (.dat d))[j]? ≠ some (.own es) := fun e => by
  rw [List.getElem?_map] at e
  cases q : ds[j]? with
  | none => rw [q] at e; cases e
  | some d => rw [q] at e; cases e
end
section
variable {X : Cx} {pos : Pos}
theorem sg_name (i : Nat) {x : Str} (hN : X.N.Nodup) (hi : X.N[i]? = some x := by rfl) (hx : Loc X.env.scope x := by first | exact Or.inl rfl | exact Or.inr rfl) (hf : X.fn x = true ∨ X.env.scope.names.lookup x = some .local := by first | exact .inl rfl | exact .inr rfl) : SG X (.Name x pos) [i] (tgN i) := by
  refine PG.imp (pg_name hN hi hx hf) fun x σ H Q h => ?_
  obtain ⟨Y, M, H0, st, s, st', g, fr, yo, n, e, q⟩ := h
  cases e
  exact q _ (asg_set fr yo n i)
theorem sgs_nil : SGs X [] [] tgsNil := by
  refine PGs.imp pgs_nil fun xs σ H Q h => ?_
  obtain ⟨Y, M, H0, st, ss, st', g, fr, yo, n, e, q⟩ := h
  cases n with
  | nil =>
    cases e
    exact ⟨rfl, q σ ⟨fr, yo, fun _ _ => rfl, rfl, fun j es a e1 e2 => .inl ⟨j, es, e1, e2⟩⟩⟩
  | cons _ _ _ => cases e
theorem sgs_cons {e : Expr} {es : List Expr} {w1 w2 : List Nat} {g : Tgt} {r : List Sl → MSt → Option MSt} (h1 : SG X e w1 g) (h2 : SGs X es w2 r) (hs : (assignEach (e :: es) X.env).map (·.2) = assign e X.env :: (assignEach es X.env).map (·.2) := by rfl) : SGs X (e :: es) (w1 ++ w2) (tgsCons g r) := by
  refine PGs.imp (pgs_cons h1 h2 hs) fun xs σ H Q h => ?_
  obtain ⟨Y, M, H0, st, ss, st', g0, fr, yo, n, e, q⟩ := h
  cases n with
  | nil => cases e
  | @cons x s xr sr n1 n2 nd =>
    obtain ⟨st1, e1, e2⟩ := Option.bind_eq_some_iff.mp (show (g s st).bind (r sr) = some st' from e)
    refine ⟨x, xr, rfl, Y, M, H0, st, s, st1, g0, fr, yo, n1, e1, fun σ1 a1 => ?_⟩
    have n3 : SlNs X.K Y H0 H st1 σ1 xr sr := SlNs.after a1.sub n2 fun j es a q1 q2 q3 => nd q3.1 j es q1 (by rw [q2, q3.2])
    refine ⟨Y, M, H0, st1, sr, st', g0, a1.fr, a1.yo, n3, e2, fun σ2 a2 => q σ2 ⟨a2.fr, a2.yo, fun i hi => ?_, by rw [a2.len, a1.len], fun j es a q1 q2 => ?_⟩⟩
    · rw [List.mem_append, not_or] at hi
      rw [a2.out i hi.2, a1.out i hi.1]
    · rcases a2.sub j es a q1 q2 with ⟨k, ds, q3, q4⟩ | ⟨k, ds, q3, q4⟩
      · rcases a1.sub k ds a q3 q4 with q5 | ⟨q5, q6⟩
        · exact .inl q5
        · cases s with
          | v y => cases q5
          | own ds' => exact .inr ⟨0, ds', rfl, by rw [q6]; rfl⟩
      · exact .inr ⟨k + 1, ds, by simpa using q3, by simpa using q4⟩
theorem PG.or {X : Cx} {tg : Expr} {t u : TG} (h : PG X tg t) (k : PG X tg u) : PG X tg (fun v σ H Q => t v σ H Q ∨ u v σ H Q) := ⟨fun pins s σ H v w Q I r q => q.elim (fun q => h.run pins s σ H v w Q I r q) fun q => k.run pins s σ H v w Q I r q⟩
theorem itemsS_at {K : PySem.W.Frag} {Y : Wd} {H0 H : Hp} {st : MSt} {σ : L2.St} {x : V} {s : Sl} {ds : List PyData} (n : SlN K Y H0 H st σ x s) (h : itemsS s = some ds) : ∃ a xs, x = .ref a ∧ (SqT K H a xs ∨ SqL K H a xs) ∧ RpA K Y.F H xs ds := by
  unfold itemsS at h
  split at h
  · cases h
    cases n with
    | tup t1 t2 => exact ⟨_, _, rfl, .inl (.inl (.inl t1)), t2⟩
  · cases h
    cases n with
    | lst t1 t2 => exact ⟨_, _, rfl, .inr t1.sq, t2⟩
  · cases h
    obtain ⟨a, rfl, ⟨⟨xs, hx, r⟩, _, _⟩, _⟩ := n
    exact ⟨a, xs, rfl, .inr (SqL.of hx), r⟩
  · cases h
theorem sg_tup {es : List Expr} {k n : Nat} {ws : List Nat} {r : List Sl → MSt → Option MSt} (hc : X.calm = true) (h : SGs X es ws r) (hn : (assignEach es X.env).length = n := by rfl) (hst : (assignEach es X.env).findIdx? (·.1) = none := by rfl) : SG X (.Tuple es k pos) ws (tgT n r) := by
  refine PG.imp (PG.or (pg_tup hc h hn hst) (pg_unl hc h hn hst)) fun x σ H Q h => ?_
  obtain ⟨Y, M, H0, st, s, st', g, fr, yo, n0, e, q⟩ := h
  obtain ⟨ds, e1, e2⟩ := Option.bind_eq_some_iff.mp (show ((itemsS s).bind fun ds => if ds.length = n then r (ds.map fun d => .v (.dat d)) st else none) = some st' from e)
  split at e2
  · rename_i hl
    obtain ⟨a, xs, rfl, t1, t2⟩ := itemsS_at n0 e1
    have go : tgRs X.K ws r xs σ H Q := ⟨Y, M, H0, st, _, st', g, fr, yo, dat_slNs t2, e2, fun σ' b => q σ' ⟨b.fr, b.yo, b.out, b.len, fun j es a' q1 q2 => by
      rcases b.sub j es a' q1 q2 with q3 | ⟨k, ds', q3, _⟩
      · exact .inl q3
      · exact absurd q3 dat_noOwn⟩⟩
    have hxl : xs.length = n := by rw [t2.length]; exact hl
    rcases t1 with t1 | t1
    · exact .inl ⟨a, xs, rfl, t1, hxl, go⟩
    · exact .inr ⟨a, xs, rfl, t1, hxl, go⟩
  · cases e2

/-! ### comprehensions -/
def wipeM (st : MSt) : List Nat → MSt
  | [] => st
  | v :: vs => (wipeM st vs).set v none
def lcGo (st : MSt) (g : Tgt) (c : Ex Bool) (f : Ex Val) (acc : List PyData) : List PyData → MH → Out (List PyData)
  | [], M => .ok acc M
  | d :: r, M => match g (.v (.dat d)) st with
    | none => .err
    | some st1 => match c st1 M with
      | .ok false M1 => lcGo st g c f acc r M1
      | .ok true M1 => match f st1 M1 with
        | .ok (.dat y) M2 => if acc.length < SL then lcGo st g c f (acc ++ [y]) r M2 else .err
        | _ => .err
      | _ => .err
def xLc (vs : List Nat) (it : Ex (List PyData)) (g : Tgt) (c : Ex Bool) (f : Ex Val) : Ex Sl := fun st M => (it st M).bind fun ds M1 => (lcGo (wipeM st vs) g c f [] ds M1).bind fun out M2 => .ok (.own out) M2
def Pm.b (P : Pm) : Pm := { P with Wx := fun _ _ _ _ => False }
abbrev SC (X : Cx) (P : Pm) (ifs : List Expr) (f : Ex Bool) : Prop := PTs X ifs (Rn X.K P RB f)
def cYes : Ex Bool := fun _ M => .ok true M
theorem PTs.imp {ifs : List Expr} {t t' : TT} (h : PTs X ifs t) (i : ∀ σ H Q, t' σ H Q → t σ H Q) : PTs X ifs t' := ⟨fun pins s σ H Q I q => h.run pins s σ H Q I (i σ H Q q)⟩
theorem sc_nil {P : Pm} : SC X P [] cYes := by
  refine PTs.imp pts_nil fun σ H Q h => ?_
  obtain ⟨Y, M, st, g0, fr, h⟩ := h
  exact Post.ok h (Step.refl Y H) g0 rfl
theorem sc_one {P : Pm} {c : Expr} {f : Ex Bool} (h : ST X P c f) : SC X P [c] f := pts_one h
section
variable {K : PySem.W.Frag} {Y : Wd} {M : MH} {H H0 : Hp} {st : MSt} {σ : L2.St}
theorem wipeM_len (st : MSt) : ∀ vs : List Nat, (wipeM st vs).length = st.length
  | [] => rfl
  | v :: vs => by rw [wipeM, List.length_set, wipeM_len st vs]
theorem wipeM_some {st : MSt} {i : Nat} {s : Sl} : ∀ {vs : List Nat}, (wipeM st vs)[i]? = some (some s) → st[i]? = some (some s) ∧ i ∉ vs
  | [], h => ⟨h, by simp⟩
  | v :: vs, h => by
    rw [wipeM] at h
    rcases set_get h with ⟨_, h2⟩ | ⟨h1, h2⟩
    · cases h2
    · obtain ⟨h3, h4⟩ := wipeM_some h2
      exact ⟨h3, by simp only [List.mem_cons, not_or]; exact ⟨fun e => h1 e.symm, h4⟩⟩
theorem FR.wipe (fr : FR K Y st H σ) (vs : List Nat) : FR K Y (wipeM st vs) H (wipe σ vs) := by
  refine ⟨by rw [wipeM_len, wipe_length]; exact fr.len, fun i x e => ?_, fun i ds e => ?_, fun i j ds es a e1 e2 e3 e4 => ?_⟩
  · obtain ⟨h1, h2⟩ := wipeM_some e
    rw [wipe_out h2]
    exact fr.val i x h1
  · obtain ⟨h1, h2⟩ := wipeM_some e
    rw [wipe_out h2]
    exact fr.own i ds h1
  · obtain ⟨h1, h2⟩ := wipeM_some e1
    obtain ⟨h3, h4⟩ := wipeM_some e2
    rw [wipe_out h2] at e3
    rw [wipe_out h4] at e4
    exact fr.inj i j ds es a h1 h3 e3 e4
theorem wipe_in {σ : L2.St} {i : Nat} : ∀ {vs : List Nat}, i ∈ vs → i < σ.length → (wipe σ vs)[i]? = some none
  | v :: vs, h, hl => by
    rw [wipe]
    by_cases e : v = i
    · subst e
      exact List.getElem?_set_self (by rw [wipe_length]; exact hl)
    · rw [List.getElem?_set_ne e]
      rcases List.mem_cons.mp h with h | h
      · exact absurd h.symm e
      · exact wipe_in h hl
theorem wipe_eq {σ σ' : L2.St} {vs ws : List Nat} (hl : σ'.length = (wipe σ vs).length) (h : ∀ i, i ∉ ws → σ'[i]? = (wipe σ vs)[i]?) (hw : ∀ i ∈ ws, i ∈ vs) : wipe σ' vs = wipe σ vs := by
  have hl' : σ'.length = σ.length := by rw [hl, wipe_length]
  apply List.ext_getElem?
  intro i
  by_cases hi : i ∈ vs
  · by_cases hb : i < σ.length
    · rw [wipe_in hi hb, wipe_in hi (by omega)]
    · rw [List.getElem?_eq_none (by rw [wipe_length]; omega), List.getElem?_eq_none (by rw [wipe_length]; omega)]
  · rw [wipe_out hi, h i fun q => hi (hw i q)]
/-- a list of one's own is rewritten -/
theorem Ow.upd_wk {a : Addr} {ds : List PyData} (o : Ow K Y H a ds) {xs : List V} : Wk Y.F Y.F H (upd H a (.lst xs)) := by
  obtain ⟨⟨ys, hy, _⟩, h2, _⟩ := o
  refine ⟨fun _ h => h, fun b hb => upd_ne fun e => h2 (e ▸ hb), fun b zs e => ?_, fun b q u e => ?_⟩
  · rw [upd_ne fun z => by rw [z, hy] at e; cases e]
    exact e
  · rw [upd_ne fun z => by rw [z, hy] at e; cases e]
    exact e
theorem VR0.wk' {H' : Hp} (w : Wk Y.F Y.F H H') {x : V} {v : Val} (h : VR0 K Y H x v) : VR0 K Y H' x v := by
  cases v with
  | dat d => exact Rp.wk w d h
  | loc n => exact h
  | slot i => exact h
  | ro ds =>
    obtain ⟨a, xs, e, z, r⟩ := h
    exact ⟨a, xs, e, z.wk w, RpA.wk w ds r⟩
theorem Ow.upd_gr (g : GR K Y M H) {a : Addr} {ds : List PyData} (o : Ow K Y H a ds) {xs : List V} : GR K Y M (upd H a (.lst xs)) := by
  have w := o.upd_wk (xs := xs)
  obtain ⟨⟨ys, hy, _⟩, h2, h3⟩ := o
  refine ⟨fun n ob e => ?_, g.lt, g.inj, fun b hb => ?_, g.dj⟩
  · obtain ⟨b, hb, q⟩ := g.obj n ob e
    have hne : b ≠ a := fun z => h3 n (z ▸ hb)
    obtain ⟨u, hu, q⟩ := q
    exact ⟨b, hb, u, by rw [upd_ne hne]; exact hu, q.map fun x v r => r.wk' w⟩
  · have hne : b ≠ a := fun z => h2 (z ▸ hb)
    rw [upd_ne hne]
    exact g.fr b hb
theorem Ow.upd_ow {a : Addr} {ds es : List PyData} (o : Ow K Y H a ds) {xs : List V} (r : RpA K Y.F H xs es) : Ow K Y (upd H a (.lst xs)) a es := ⟨⟨xs, upd_same, RpA.wk o.upd_wk es r⟩, o.nF, o.nm⟩
end
/-- the goal that a comprehension leaves, once its iterator has come -/
abbrev LcGoal (K : PySem.W.Frag) (P : Pm) (ws vs : List Nat) (g : Tgt) (c : Ex Bool) (f : Ex Val) (σ : L2.St) (H1 : Hp) (Q : VK) (J : It) : Prop := ∀ D, H1 D = none → ∃ W : Nat → Nat → Hp → Prop, (∃ m, W 0 m (upd H1 D (.lst []))) ∧ ∀ i m H, W i m H →
  (J.stop i H ∧ Q (.ref D) H) ∨ (J.go i H ∧ ∃ Nx : Hp → Prop, (∀ H', Nx H' → ∃ m', m' < m ∧ W (i + 1) m' H') ∧ ∀ x H', J.yld i H x H' → tgR K ws g x (wipe σ vs) H' fun σ2 H2 => wipe σ2 vs = wipe σ vs ∧ Rn K P.b RB c σ2 H2 fun b H3 =>
    if b = true then Rn K P.b (RV K) f σ2 H3 fun y H4 => ∃ acc, H4 D = some (.lst acc) ∧ acc.length < sizeLine ∧ Nx (upd H4 D (.lst (acc ++ [y]))) else Nx H3)
theorem lc_mw {P : Pm} {vs ws : List Nat} {g : Tgt} {c : Ex Bool} {f : Ex Val} (hv : ∀ i ∈ ws, i ∈ vs) {st : MSt} {σ : L2.St} {Y1 : Wd} {H1 : Hp} {M1 : MH} {Q : VK} {J : It} {ds : List PyData} (g1 : GR X.K Y1 M1 H1) (frs : FR X.K Y1 st H1 σ) (r1 : MWx X.K J ds Y1 H1)
    (q1 : Post X.K P (RS X.K) st σ Y1 H1 ((lcGo (wipeM st vs) g c f [] ds M1).bind fun out M2 => .ok (.own out) M2) Q) : LcGoal X.K P ws vs g c f σ H1 Q J := by
  intro D hD
  obtain ⟨G, Yd, w, hG, hY⟩ := r1
  have fr1 := frs.wipe vs
  have o1 : Ow X.K Y1 (upd H1 D (.lst [])) D [] := Ow.new g1 hD .nil
  have w1 : ∀ {H2 : Hp} {Y2 : Wd} {xs : List V}, Step Y1 H1 Y2 H2 → Step Y1 H1 Y2 (upd H2 D (.lst xs)) := fun {H2 Y2 xs} s => ⟨s.m, s.F, s.fm, s.fF, fun b x e hn => by
    rw [upd_ne (ne_of_none e hD)]
    exact s.kp b x e hn⟩
  refine lc_it w (fun i H2 => ∃ Y2 M2 acc, Step Y1 H1 Y2 H2 ∧ GR X.K Y2 M2 H2 ∧ Ow X.K Y2 H2 D acc ∧ Post X.K P (RS X.K) st σ Y1 H1 ((lcGo (wipeM st vs) g c f acc (ds.drop i) M2).bind fun out M3 => .ok (.own out) M3) Q)
    ⟨Y1, M1, [], Step.laid hD, g1.laid hD, o1, q1⟩ (fun i H2 hi pv => ?_) (fun i x H2 H3 hi pv y => ?_) (fun H2 pv => ?_)
  · obtain ⟨Y2, M2, acc, s2, g2, o2, q2⟩ := pv
    exact hG Y2 H2 s2
  · obtain ⟨Y2, M2, acc, s2, g2, o2, q2⟩ := pv
    obtain ⟨d, hd⟩ : ∃ d, ds[i]? = some d := ⟨ds[i], List.getElem?_eq_getElem hi⟩
    obtain ⟨s3, g3, r3⟩ := hY Y2 M2 H2 i x H3 d s2 g2 hi y hd
    have dr : ds.drop i = d :: ds.drop (i + 1) := by
      have e := List.drop_eq_getElem_cons hi
      rw [e]
      rw [List.getElem?_eq_getElem hi] at hd
      rw [Option.some.inj hd]
    rw [dr] at q2
    have s13 : Step Y1 H1 Y2 H3 := s2.then g2 s3
    have fr3 := fr1.step g1 s13
    have q2 : Post X.K P (RS X.K) st σ Y1 H1 ((match g (.v (.dat d)) (wipeM st vs) with
      | none => .err
      | some st1 => match c st1 M2 with
        | .ok false M1 => lcGo (wipeM st vs) g c f acc (ds.drop (i + 1)) M1
        | .ok true M1 => match f st1 M1 with
          | .ok (.dat y) M2 => if acc.length < SL then lcGo (wipeM st vs) g c f (acc ++ [y]) (ds.drop (i + 1)) M2 else .err
          | _ => .err
        | _ => .err : Out (List PyData)).bind fun out M3 => .ok (.own out) M3) Q := q2
    cases eg : g (.v (.dat d)) (wipeM st vs) with
    | none => rw [eg] at q2; exact False.elim q2
    | some st1 =>
      rw [eg] at q2
      simp only at q2
      refine ⟨Y2, M2, (fun _ => none), wipeM st vs, .v (.dat d), st1, g3, fr3, fun _ _ _ _ _ => rfl, r3, eg, fun σ2 as => ⟨wipe_eq (by rw [as.len]) as.out hv, ?_⟩⟩
      refine ⟨Y2, M2, st1, g3, as.fr, ?_⟩
      cases ec : c st1 M2 with
      | exc ex M4 => rw [ec] at q2; exact False.elim q2
      | err => rw [ec] at q2; exact False.elim q2
      | ok b M4 =>
        rw [ec] at q2
        intro Y4 H4 b' s4 g4 rb
        cases (show b' = b from rb)
        have s14 : Step Y1 H1 Y4 H4 := s13.then g3 s4
        have o4 : Ow X.K Y4 H4 D acc := (o2.step g2 s3).step g3 s4
        cases b with
        | false => exact ⟨Y4, M4, acc, s14, g4, o4, q2⟩
        | true =>
          simp only at q2
          rw [if_pos rfl]
          refine ⟨Y4, M4, st1, g4, as.fr.step g3 s4, ?_⟩
          cases ef : f st1 M4 with
          | exc ex M5 => rw [ef] at q2; exact False.elim q2
          | err => rw [ef] at q2; exact False.elim q2
          | ok v M5 =>
            rw [ef] at q2
            intro Y5 H5 yv s5 g5 rv
            cases v with
            | dat y' =>
              simp only at q2
              have o5 := o4.step g4 s5
              obtain ⟨⟨xs, hx, rx⟩, _, _⟩ := id o5
              by_cases hlt : acc.length < SL
              · rw [if_pos hlt] at q2
                refine ⟨xs, hx, by rw [rx.length, sl_eq]; exact hlt, Y5, M5, acc ++ [y'], w1 (s14.then g4 s5), o5.upd_gr g5, o5.upd_ow (rx.append (RpA.one rv)), q2⟩
              · rw [if_neg hlt] at q2; exact False.elim q2
            | loc _ => exact False.elim q2
            | slot _ => exact False.elim q2
            | ro _ => exact False.elim q2
  · obtain ⟨Y2, M2, acc, s2, g2, o2, q2⟩ := pv
    rw [List.drop_length] at q2
    exact q2 Y2 H2 (.ref D) s2 g2 ⟨D, rfl, o2, hD⟩
theorem lc_imp {P : Pm} {vs ws : List Nat} {it : Ex (List PyData)} {g : Tgt} {c : Ex Bool} {f : Ex Val} (hv : ∀ i ∈ ws, i ∈ vs) {σ : L2.St} {H : Hp} {Q : VK} (h : Rn X.K P (RS X.K) (xLc vs it g c f) σ H Q) :
    tLc (fun σ H Q => Rn X.K P (RIx X.K) it σ H Q) (tgR X.K ws g) (Rn X.K P.b RB c) (Rn X.K P.b (RV X.K) f) vs σ H Q := by
  obtain ⟨Y, M, st, g0, fr, h⟩ := h
  refine ⟨Y, M, st, g0, fr, Post.bind (R1 := RIx X.K) shS h fun ds M1 Y1 H1 J _ s1 g1 r1 q1 => ?_⟩
  exact lc_mw hv g1 (fr.step g0 s1) r1 q1
theorem sx_lc {P : Pm} {elt tg iter : Expr} {ifs : List Expr} {scope : Scope} {own : List (Str × Nat)} {ws : List Nat} {it : Ex (List PyData)} {g : Tgt} {c : Ex Bool} {f : Ex Val} (hc : X.calm = true) (hN : X.N.Nodup) (hi : SIx X P tg iter it) (ok : BlkOk X.N X.env.scope scope own)
    (hg : ∀ (s : Shared) (H : Hp) (C : Addr) (cl : List (Str × Addr)) (fp : List Addr), SG (X.blk s H scope (compEnvC scope cl C X.env) fp) tg ws g) (ht : ∀ (s : Shared) (H : Hp) (C : Addr) (cl : List (Str × Addr)) (fp : List Addr), SC (X.blk s H scope (compEnvC scope cl C X.env) fp) P.b ifs c)
    (he : ∀ (s : Shared) (H : Hp) (C : Addr) (cl : List (Str × Addr)) (fp : List Addr), SE (X.blk s H scope (compEnvC scope cl C X.env) fp) P.b elt f) (hv : ∀ i ∈ ws, i ∈ own.map (·.2) := by decide) (hs : ∀ x, foldedSetIterable iter X.env x = pure x := by intro _; rfl) :
    SX X P (.ListComp elt [⟨tg, iter, ifs, 0⟩] scope pos) (xLc (own.map (·.2)) it g c f) := PE.imp (pe_lc hc hN hi ok hg ht he hs) fun _ _ _ h => lc_imp hv h
/-- a shared list as it stands -/
def lstAt (M : MH) (n : Nat) : Option (List Val) := match M[n]? with
  | some (.lst vs) => some vs
  | _ => none
theorem lstAt_at {K : PySem.W.Frag} {Y : Wd} {M : MH} {H : Hp} (g : GR K Y M H) {n : Nat} {a : Addr} {vs : List Val} (hm : Y.m n = some a) (h : lstAt M n = some vs) : ∃ xs, H a = some (.lst xs) ∧ Paired (VR0 K Y H) xs vs := by
  unfold lstAt at h
  split at h
  · rename_i vs' q
    cases h
    obtain ⟨b, hb, u, hu, ob⟩ := g.obj n _ q
    rw [hm] at hb
    cases hb
    cases u with
    | lst xs => exact ⟨xs, hu, ob⟩
    | _ => exact ob.elim
  · cases h
/-- over a shared list, read anew at each turn -/
def lcL (n : Nat) (st : MSt) (g : Tgt) (c : Ex Bool) (f : Ex Val) : Nat → Nat → List PyData → MH → Out (List PyData)
  | 0, _, _, _ => .err
  | k + 1, i, acc, M => match lstAt M n with
    | none => .err
    | some vs => match vs[i]? with
      | none => .ok acc M
      | some v => if noSlot v = true then match g (.v v) st with
        | none => .err
        | some st1 => match c st1 M with
          | .ok false M1 => lcL n st g c f k (i + 1) acc M1
          | .ok true M1 => match f st1 M1 with
            | .ok (.dat y) M2 => if acc.length < SL then lcL n st g c f k (i + 1) (acc ++ [y]) M2 else .err
            | _ => .err
          | _ => .err
        else .err
def lcA (k : Nat) (st0 st : MSt) (g : Tgt) (c : Ex Bool) (f : Ex Val) (v : Val) (M : MH) : Out (List PyData) := match v with
  | .loc n => if (lstAt M n).isSome = true then lcL n st g c f k 0 [] M else .err
  | v => match (ownV st0 M v).bind seqOf with
    | some ds => lcGo st g c f [] ds M
    | none => .err
def xLcA (k : Nat) (vs : List Nat) (fe : Ex Val) (g : Tgt) (c : Ex Bool) (f : Ex Val) : Ex Sl := fun st M => (fe st M).bind fun v M1 => (lcA k st (wipeM st vs) g c f v M1).bind fun out M2 => .ok (.own out) M2
theorem lcA_imp (k : Nat) {P : Pm} {vs ws : List Nat} {fe : Ex Val} {g : Tgt} {c : Ex Bool} {f : Ex Val} (hv : ∀ i ∈ ws, i ∈ vs) {σ : L2.St} {H : Hp} {Q : VK} (h : Rn X.K P (RS X.K) (xLcA k vs fe g c f) σ H Q) :
    tLc (iAny X.K (Rn X.K P (RV X.K) fe)) (tgR X.K ws g) (Rn X.K P.b RB c) (Rn X.K P.b (RV X.K) f) vs σ H Q := by
  obtain ⟨Y, M, st, g0, fr, h⟩ := h
  refine ⟨Y, M, st, g0, fr, Post.bind (R1 := RV X.K) shS h fun v M1 Y1 H1 x _ s1 g1 r1 q1 => ?_⟩
  have fr1 := fr.step g0 s1
  have static : ∀ d, ownV st M1 v = some d → (∀ n, v ≠ .loc n) → ∃ a, x = .ref a ∧ ((∃ xs, SqL X.K H1 a xs ∧ LcGoal X.K P ws vs g c f σ H1 Q (Itl X.K a)) ∨ ∃ xs, SqT X.K H1 a xs ∧ LcGoal X.K P ws vs g c f σ H1 Q (Itt X.K a)) := fun d hd hn => by
    have e : lcA k st (wipeM st vs) g c f v M1 = match seqOf d with | some ds => lcGo (wipeM st vs) g c f [] ds M1 | none => .err := by
      cases v with
      | loc n => exact absurd rfl (hn n)
      | dat d' => unfold lcA; simp only [hd, Option.bind_some]
      | slot i => unfold lcA; simp only [hd, Option.bind_some]
      | ro es => unfold lcA; simp only [hd, Option.bind_some]
    rw [e] at q1
    have sq := seq_x g1 fr1 r1 hd
    cases es : seqOf d with
    | none => rw [es] at q1; exact False.elim q1
    | some ds =>
      rw [es] at q1
      rcases seqOf_some es with rfl | rfl
      · obtain ⟨a, xs, rfl, rx, hs⟩ := sq.1 ds rfl
        exact ⟨a, rfl, .inl ⟨xs, hs _ _ (Step.refl _ _), lc_mw hv g1 fr1 (mwx_of g1 rx.length walk_list rx hs) q1⟩⟩
      · obtain ⟨a, xs, rfl, rx, hs⟩ := sq.2 ds rfl
        exact ⟨a, rfl, .inr ⟨xs, hs _ _ (Step.refl _ _), lc_mw hv g1 fr1 (mwx_of g1 rx.length walk_tup rx hs) q1⟩⟩
  cases v with
  | dat d => exact static d rfl (fun n e => by cases e)
  | ro es => exact static (.list es) rfl (fun n e => by cases e)
  | slot i =>
    obtain ⟨a, ds, _, _, e2⟩ := id r1
    exact static (.list ds) (by show (match st[i]? with | some (some (.own ds)) => some (PyData.list ds) | _ => none) = some (PyData.list ds); rw [e2]) (fun n e => by cases e)
  | loc n =>
    obtain ⟨a, rfl, hm⟩ := r1
    have q1 : Post X.K P (RS X.K) st σ Y1 H1 ((if (lstAt M1 n).isSome = true then lcL n (wipeM st vs) g c f k 0 [] M1 else .err).bind fun out M2 => .ok (.own out) M2) Q := q1
    cases h0 : lstAt M1 n with
    | none => rw [h0] at q1; exact False.elim q1
    | some vs0 =>
    rw [h0, if_pos (show (some vs0).isSome = true from rfl)] at q1
    obtain ⟨xs0, hx0, _⟩ := lstAt_at g1 hm h0
    refine ⟨a, rfl, .inl ⟨xs0, SqL.of hx0, fun D hD => ?_⟩⟩
    have frw := fr1.wipe vs
    have w1 : ∀ {H2 : Hp} {Y2 : Wd} {xs : List V}, Step Y1 H1 Y2 H2 → Step Y1 H1 Y2 (upd H2 D (.lst xs)) := fun {H2 Y2 xs} s => ⟨s.m, s.F, s.fm, s.fF, fun b x e hn => by
      rw [upd_ne (ne_of_none e hD)]
      exact s.kp b x e hn⟩
    refine ⟨fun i m H2 => ∃ Y2 M2 acc, Step Y1 H1 Y2 H2 ∧ GR X.K Y2 M2 H2 ∧ Ow X.K Y2 H2 D acc ∧ Post X.K P (RS X.K) st σ Y1 H1 ((lcL n (wipeM st vs) g c f m i acc M2).bind fun out M3 => .ok (.own out) M3) Q,
      ⟨k, Y1, M1, [], Step.laid hD, g1.laid hD, Ow.new g1 hD .nil, q1⟩, fun i m H2 hw => ?_⟩
    obtain ⟨Y2, M2, acc, s2, g2, o2, q2⟩ := hw
    cases m with
    | zero => exact False.elim q2
    | succ m =>
      have q2 : Post X.K P (RS X.K) st σ Y1 H1 ((match lstAt M2 n with
        | none => .err
        | some us => match us[i]? with
          | none => .ok acc M2
          | some v => if noSlot v = true then match g (.v v) (wipeM st vs) with
            | none => .err
            | some st1 => match c st1 M2 with
              | .ok false M1 => lcL n (wipeM st vs) g c f m (i + 1) acc M1
              | .ok true M1 => match f st1 M1 with
                | .ok (.dat y) M2 => if acc.length < SL then lcL n (wipeM st vs) g c f m (i + 1) (acc ++ [y]) M2 else .err
                | _ => .err
              | _ => .err
            else .err : Out (List PyData)).bind fun out M3 => .ok (.own out) M3) Q := q2
      cases hn : lstAt M2 n with
      | none => rw [hn] at q2; exact False.elim q2
      | some us =>
          rw [hn] at q2
          simp only at q2
          have hm2 := s2.m n a hm
          obtain ⟨xs, hx, pr⟩ := lstAt_at g2 hm2 hn
          have hq : SqL X.K H2 a xs := SqL.of hx
          cases hv' : us[i]? with
          | none =>
            rw [hv'] at q2
            have hi : xs.length ≤ i := by rw [Paired.length pr]; exact List.getElem?_eq_none_iff.mp hv'
            exact .inl ⟨⟨xs, hq, hi⟩, q2 Y2 H2 (.ref D) s2 g2 ⟨D, rfl, o2, hD⟩⟩
          | some v =>
            rw [hv'] at q2
            simp only at q2
            obtain ⟨y, hy, ry⟩ := Paired.get pr hv'
            by_cases hns : noSlot v = true
            · rw [if_pos hns] at q2
              refine .inr ⟨⟨xs, y, hq, hy⟩, fun H' => ∃ Y2 M2 acc, Step Y1 H1 Y2 H' ∧ GR X.K Y2 M2 H' ∧ Ow X.K Y2 H' D acc ∧ Post X.K P (RS X.K) st σ Y1 H1 ((lcL n (wipeM st vs) g c f m (i + 1) acc M2).bind fun out M3 => .ok (.own out) M3) Q, fun H' nx => ⟨m, Nat.lt_succ_self m, nx⟩, fun x H3 yl => ?_⟩
              obtain ⟨rfl, yl⟩ := yl
              have ex := yl xs hq
              rw [hy] at ex
              cases ex
              cases eg : g (.v v) (wipeM st vs) with
              | none => rw [eg] at q2; exact False.elim q2
              | some st1 =>
                rw [eg] at q2
                simp only at q2
                refine ⟨Y2, M2, (fun _ => none), wipeM st vs, .v v, st1, g2, frw.step g1 s2, fun _ _ _ _ _ => rfl, ry, eg, fun σ2 as => ⟨wipe_eq (by rw [as.len]) as.out hv, Y2, M2, st1, g2, as.fr, ?_⟩⟩
                cases ec : c st1 M2 with
                | exc ex M4 => rw [ec] at q2; exact False.elim q2
                | err => rw [ec] at q2; exact False.elim q2
                | ok b M4 =>
                  rw [ec] at q2
                  intro Y4 H4 b' s4 g4 rb
                  cases (show b' = b from rb)
                  have s14 : Step Y1 H1 Y4 H4 := s2.then g2 s4
                  have o4 : Ow X.K Y4 H4 D acc := o2.step g2 s4
                  cases b with
                  | false => exact ⟨Y4, M4, acc, s14, g4, o4, q2⟩
                  | true =>
                    simp only at q2
                    rw [if_pos rfl]
                    refine ⟨Y4, M4, st1, g4, as.fr.step g2 s4, ?_⟩
                    cases ef : f st1 M4 with
                    | exc ex M5 => rw [ef] at q2; exact False.elim q2
                    | err => rw [ef] at q2; exact False.elim q2
                    | ok v5 M5 =>
                      rw [ef] at q2
                      intro Y5 H5 yv s5 g5 rv
                      cases v5 with
                      | dat y' =>
                        simp only at q2
                        have o5 := o4.step g4 s5
                        obtain ⟨⟨zs, hz, rz⟩, _, _⟩ := id o5
                        by_cases hlt : acc.length < SL
                        · rw [if_pos hlt] at q2
                          exact ⟨zs, hz, by rw [rz.length, sl_eq]; exact hlt, Y5, M5, acc ++ [y'], w1 (s14.then g4 s5), o5.upd_gr g5, o5.upd_ow (rz.append (RpA.one rv)), q2⟩
                        · rw [if_neg hlt] at q2; exact False.elim q2
                      | loc _ => exact False.elim q2
                      | slot _ => exact False.elim q2
                      | ro _ => exact False.elim q2
            · rw [if_neg hns] at q2; exact False.elim q2
theorem sx_lcA (k : Nat) {P : Pm} {elt tg iter : Expr} {ifs : List Expr} {scope : Scope} {own : List (Str × Nat)} {ws : List Nat} {fe : Ex Val} {g : Tgt} {c : Ex Bool} {f : Ex Val} (hc : X.calm = true) (hN : X.N.Nodup) (hi : SE X P iter fe) (ok : BlkOk X.N X.env.scope scope own)
    (hg : ∀ (s : Shared) (H : Hp) (C : Addr) (cl : List (Str × Addr)) (fp : List Addr), SG (X.blk s H scope (compEnvC scope cl C X.env) fp) tg ws g) (ht : ∀ (s : Shared) (H : Hp) (C : Addr) (cl : List (Str × Addr)) (fp : List Addr), SC (X.blk s H scope (compEnvC scope cl C X.env) fp) P.b ifs c)
    (he : ∀ (s : Shared) (H : Hp) (C : Addr) (cl : List (Str × Addr)) (fp : List Addr), SE (X.blk s H scope (compEnvC scope cl C X.env) fp) P.b elt f) (hv : ∀ i ∈ ws, i ∈ own.map (·.2) := by decide) (hs : ∀ x, foldedSetIterable iter X.env x = pure x := by intro _; rfl) :
    SX X P (.ListComp elt [⟨tg, iter, ifs, 0⟩] scope pos) (xLcA k (own.map (·.2)) fe g c f) := PE.imp (pe_lc hc hN (pi_any hi) ok hg ht he hs) fun _ _ _ h => lcA_imp k hv h
end
end Mn

set_option Elab.async false
set_option linter.all false
set_option maxRecDepth 100000
set_option maxHeartbeats 4000000
namespace Mn
open PySem PySem.Spec PyProof.Rows L2

/-! ### statements -/
inductive Fl where
  | nx
  | ret (s : Sl)
  | brk
  | cont
  | exc (e : Exn)
abbrev Tm := MSt → MH → Option (Fl × MSt × MH)
abbrev Bs := List (Wd × Hp)
structure SR (K : PySem.W.Frag) (Y0 : Wd) (H0 : Hp) (bs : Bs) (Y : Wd) (H : Hp) (st : MSt) (M : MH) (σ : L2.St) : Prop where
  gr : GR K Y M H
  fr : FR K Y st H σ
  yo : OwnFr H0 st σ
  s0 : Step Y0 H0 Y H
  wk : ∀ b ∈ bs, Wk b.1.F Y.F b.2 H
  mm : ∀ b ∈ bs, ∀ n a, b.1.m n = some a → Y.m n = some a
def PoS (K : PySem.W.Frag) (P : Pm) (Y0 : Wd) (H0 : Hp) (bs : Bs) (D : Ends) (o : Option (Fl × MSt × MH)) : Prop := match o with
  | none => False
  | some (.nx, st', M') => ∀ Y' H' σ', SR K Y0 H0 bs Y' H' st' M' σ' → D.nx σ' H'
  | some (.brk, st', M') => ∀ Y' H' σ', SR K Y0 H0 bs Y' H' st' M' σ' → D.bk σ' H'
  | some (.cont, st', M') => ∀ Y' H' σ', SR K Y0 H0 bs Y' H' st' M' σ' → D.ct σ' H'
  | some (.ret s, _, M') => ∀ Y' H' x, Step Y0 H0 Y' H' → GR K Y' M' H' → SlR K Y' H0 H' x s → D.rt x H'
  | some (.exc e, st', M') => ∀ Y' H' σ' c d, SR K Y0 H0 bs Y' H' st' M' σ' → P.ER e c d H' → P.Wx c d σ' H'
def RnS (K : PySem.W.Frag) (P : Pm) (f : Tm) : TS := fun D σ H => ∃ Y0 H0 bs Y M st, SR K Y0 H0 bs Y H st M σ ∧ PoS K P Y0 H0 bs D (f st M)
abbrev S1 (X : Cx) (P : Pm) (s : Stmt) (f : Tm) : Prop := PS X s (RnS X.K P f)
abbrev SS (X : Cx) (P : Pm) (s : List Stmt) (f : Tm) : Prop := PSs X s (RnS X.K P f)
theorem PS.imp {X : Cx} {s : Stmt} {t t' : TS} (h : PS X s t) (i : ∀ D σ H, t' D σ H → t D σ H) : PS X s t' := ⟨fun pins s σ H D I q => h.run pins s σ H D I (i D σ H q)⟩
theorem PSs.imp {X : Cx} {s : List Stmt} {t t' : TS} (h : PSs X s t) (i : ∀ D σ H, t' D σ H → t D σ H) : PSs X s t' := ⟨fun pins s σ H D I q => h.run pins s σ H D I (i D σ H q)⟩
/-- an expression, then on -/
def tX {α : Type} (f : Ex α) (k : α → Tm) : Tm := fun st M => match f st M with
  | .ok a M' => k a st M'
  | .exc e M' => some (.exc e, st, M')
  | .err => none
def tmNil : Tm := fun st M => some (.nx, st, M)
def tmSeq (f g : Tm) : Tm := fun st M => match f st M with
  | some (.nx, st', M') => g st' M'
  | o => o
def tmAs (f : Ex Sl) (g : Tgt) : Tm := tX f fun s st M => (g s st).map fun st' => (.nx, st', M)
def tmPs (f : Ex (List Sl)) (g : List Sl → MSt → Option MSt) : Tm := tX f fun s st M => (g s st).map fun st' => (.nx, st', M)
def tmRt (f : Ex Sl) : Tm := tX f fun s st M => some (.ret s, st, M)
def tmRn : Tm := fun st M => some (.ret (.v (.dat .none)), st, M)
def tmRv (i : Nat) : Tm := fun st M => match st[i]? with
  | some (some s) => some (.ret s, st, M)
  | _ => none
def tmIf (c : Ex Bool) (a b : Tm) : Tm := tX c fun k => if k = true then a else b
def tmDo {α : Type} (f : Ex α) : Tm := tX f fun _ st M => some (.nx, st, M)
def tmBrk : Tm := fun st M => some (.brk, st, M)
def tmCont : Tm := fun st M => some (.cont, st, M)
def tmNo : Tm := fun _ _ => none
def tmFrz (i : Nat) (f : Tm) : Tm := fun st M => match st[i]? with
  | some (some (.own ds)) => f (st.set i (some (.v (.dat (.list ds))))) M
  | _ => f st M
def tmApp (i : Nat) (f : Ex Val) : Tm := fun st M => match st[i]? with
  | some (some (.own ds)) => tX f (fun v st M => match v with
    | .dat d => if ds.length < SL then some (.nx, st.set i (some (.own (ds ++ [d]))), M) else none
    | _ => none) st M
  | _ => none
def tmExt (i : Nat) (f : Ex Val) : Tm := fun st M => match st[i]? with
  | some (some (.own ds)) => tX f (fun v st M => match derefT st M v with
    | some (.list es) => if ds.length + es.length ≤ SL then some (.nx, st.set i (some (.own (ds ++ es))), M) else none
    | _ => none) st M
  | _ => none
def foGo (g : Tgt) (b : Tm) : List PyData → Tm
  | [], st, M => some (.nx, st, M)
  | d :: r, st, M => match g (.v (.dat d)) st with
    | none => none
    | some st1 => match b st1 M with
      | some (.nx, st2, M2) => foGo g b r st2 M2
      | some (.cont, st2, M2) => foGo g b r st2 M2
      | some (.brk, st2, M2) => some (.nx, st2, M2)
      | o => o
def tmFor (it : Ex (List PyData)) (g : Tgt) (b : Tm) : Tm := tX it fun ds => foGo g b ds
def whGo (c : Ex Bool) (b : Tm) : Nat → Tm
  | 0, _, _ => none
  | n + 1, st, M => match c st M with
    | .ok true M1 => match b st M1 with
      | some (.nx, st2, M2) => whGo c b n st2 M2
      | some (.cont, st2, M2) => whGo c b n st2 M2
      | some (.brk, st2, M2) => some (.nx, st2, M2)
      | o => o
    | .ok false M1 => some (.nx, st, M1)
    | .exc e M1 => some (.exc e, st, M1)
    | .err => none

section
variable {K : PySem.W.Frag} {P : Pm} {Y0 Y Y' : Wd} {H0 H H' : Hp} {bs : Bs} {st st' : MSt} {M M' : MH} {σ σ' : L2.St} {D : Ends}
theorem SR.step (r : SR K Y0 H0 bs Y H st M σ) (s : Step Y H Y' H') (g : GR K Y' M' H') : SR K Y0 H0 bs Y' H' st M' σ := ⟨g, r.fr.step r.gr s, r.yo, r.s0.then r.gr s, fun b hb => (r.wk b hb).trans (s.wk r.gr), fun b hb n a e => s.m n a (r.mm b hb n a e)⟩
theorem rn_x {α β : Type} {R : RelT α β} {f : Ex α} {k : α → Tm} {N : β → Hp → Prop} (r : SR K Y0 H0 bs Y H st M σ) (h : PoS K P Y0 H0 bs D (tX f k st M))
    (hk : ∀ a M' Y' H' x, SR K Y0 H0 bs Y' H' st M' σ → Step Y H Y' H' → R Y' H H' st σ x a → PoS K P Y0 H0 bs D (k a st M') → N x H') : Rn K P R f σ H N := by
  refine ⟨Y, M, st, r.gr, r.fr, ?_⟩
  unfold tX at h
  cases e : f st M with
  | ok a M1 =>
    rw [e] at h
    exact fun Y1 H1 x s g ra => hk a M1 Y1 H1 x (r.step s g) s ra h
  | exc ex M1 =>
    rw [e] at h
    exact fun Y1 H1 c d s g er => h Y1 H1 σ c d (r.step s g) er
  | err => rw [e] at h; exact h
theorem Asg.sr (r : SR K Y0 H0 bs Y H st M σ) {ws : List Nat} {nw : Addr → Prop} (a : Asg K Y H0 H st σ st' σ' ws nw) : SR K Y0 H0 bs Y H st' M σ' := ⟨r.gr, a.fr, a.yo, r.s0, r.wk, r.mm⟩
/-- a result that is new since H may be stored -/
theorem SlR.n (r : SR K Y0 H0 bs Y H st M σ) (s : Step Y H Y' H') (g : GR K Y' M' H') {x : V} {v : Sl} (h : SlR K Y' H H' x v) : SlN K Y' H0 H' st σ x v := by
  cases v with
  | v y => exact h
  | own ds =>
    obtain ⟨a, rfl, o, n⟩ := h
    refine ⟨a, rfl, o, r.s0.new r.gr n, fun i es e1 e2 => ?_⟩
    obtain ⟨b, hb, ob⟩ := r.fr.own i es e1
    rw [e2] at hb
    cases hb
    obtain ⟨⟨xs, hx, _⟩, _, _⟩ := ob
    rw [n] at hx
    cases hx
theorem SlR.r0 (r : SR K Y0 H0 bs Y H st M σ) {x : V} {v : Sl} (h : SlR K Y' H H' x v) : SlR K Y' H0 H' x v := by
  cases v with
  | v y => exact h
  | own ds =>
    obtain ⟨a, rfl, o, n⟩ := h
    exact ⟨a, rfl, o, r.s0.new r.gr n⟩
/-- the frame's own list is rewritten -/
theorem SR.upd (r : SR K Y0 H0 bs Y H st M σ) {i : Nat} {ds es : List PyData} {a : Addr} {xs : List V} (e1 : st[i]? = some (some (.own ds))) (e2 : σ[i]? = some (some (.ref a))) (rx : RpA K Y.F H xs es) : SR K Y0 H0 bs Y (upd H a (.lst xs)) (st.set i (some (.own es))) M σ := by
  obtain ⟨b, hb, o⟩ := r.fr.own i ds e1
  rw [e2] at hb
  cases hb
  have w := o.upd_wk (xs := xs)
  have hi : i < st.length := (List.getElem?_eq_some_iff.mp e1).1
  have other : ∀ {j : Nat} {es' : List PyData} {c : Addr}, i ≠ j → st[j]? = some (some (.own es')) → σ[j]? = some (some (.ref c)) → c ≠ a := fun hne q1 q2 z => hne (r.fr.inj _ _ _ _ _ e1 q1 e2 (z ▸ q2))
  have n0 := r.yo i ds a e1 e2
  refine ⟨o.upd_gr r.gr, ⟨by rw [List.length_set]; exact r.fr.len, fun j x e => ?_, fun j ds' e => ?_, fun j k ds' es' c q1 q2 q3 q4 => ?_⟩, fun j ds' c q1 q2 => ?_, ⟨r.s0.m, r.s0.F, r.s0.fm, r.s0.fF, fun b x e hn => ?_⟩, fun b hb => (r.wk b hb).trans w, fun b hb n a e => r.mm b hb n a e⟩
  · rcases set_get e with ⟨h1, h2⟩ | ⟨h1, h2⟩
    · cases h2
    · obtain ⟨u, h3, h4⟩ := r.fr.val j x h2
      exact ⟨u, h3, h4.wk' w⟩
  · rcases set_get e with ⟨h1, h2⟩ | ⟨h1, h2⟩
    · cases h2
      subst h1
      exact ⟨a, e2, o.upd_ow rx⟩
    · obtain ⟨c, h3, ⟨ys, hy, ry⟩, h5, h6⟩ := r.fr.own j ds' h2
      exact ⟨c, h3, ⟨ys, by rw [upd_ne (other h1 h2 h3)]; exact hy, RpA.wk w _ ry⟩, h5, h6⟩
  · have old : ∀ {m : Nat} {zs : List PyData}, (st.set i (some (.own es)))[m]? = some (some (.own zs)) → ∃ zs', st[m]? = some (some (.own zs')) := fun {m zs} q => by
      rcases set_get q with ⟨h1, _⟩ | ⟨_, h2⟩
      · exact ⟨ds, h1 ▸ e1⟩
      · exact ⟨zs, h2⟩
    obtain ⟨z1, h1⟩ := old q1
    obtain ⟨z2, h2⟩ := old q2
    exact r.fr.inj j k z1 z2 c h1 h2 q3 q4
  · rcases set_get q1 with ⟨h1, h2⟩ | ⟨h1, h2⟩
    · subst h1
      rw [e2] at q2
      cases q2
      exact n0
    · exact r.yo j ds' c h2 q2
  · rw [upd_ne (ne_of_none e n0)]
    exact r.s0.kp b x e hn
/-- frozen where it stands -/
theorem SR.frz (r : SR K Y0 H0 bs Y H st M σ) {i : Nat} {ds : List PyData} (e1 : st[i]? = some (some (.own ds))) : ∃ a, SR K Y0 H0 bs (Y.frz a) H (st.set i (some (.v (.dat (.list ds))))) M σ := by
  obtain ⟨a, e2, o⟩ := r.fr.own i ds e1
  refine ⟨a, ?_⟩
  have w : Wk Y.F (Y.frz a).F H H := ⟨fun _ q => .inl q, fun _ _ => rfl, fun _ _ q => q, fun _ _ _ q => q⟩
  have v0 : ∀ x v, VR0 K Y H x v → VR0 K (Y.frz a) H x v := fun x v q => by
    cases v with
    | dat d => exact Rp.wk w d q
    | loc n => exact q
    | slot i => exact q
    | ro es =>
      obtain ⟨b, ys, e, z, p⟩ := q
      exact ⟨b, ys, e, z.wk w, RpA.wk w es p⟩
  have nw : ∀ {j : Nat} {s : Sl}, (st.set i (some (.v (.dat (.list ds)))))[j]? = some (some s) → isOwn s = true → i ≠ j ∧ st[j]? = some (some s) := fun {j s} q h => by
    rcases set_get q with ⟨_, h2⟩ | ⟨h1, h2⟩
    · cases h2
      cases h
    · exact ⟨h1, h2⟩
  refine ⟨o.frz_gr r.gr, ⟨by rw [List.length_set]; exact r.fr.len, fun j x e => ?_, fun j ds' e => ?_, fun j k ds' es' c q1 q2 q3 q4 => ?_⟩, fun j ds' c q1 q2 => ?_, Step.frz (r.yo i ds a e1 e2) r.s0, fun b hb => (r.wk b hb).trans w, fun b hb n a e => r.mm b hb n a e⟩
  · rcases set_get e with ⟨h1, h2⟩ | ⟨h1, h2⟩
    · cases h2
      subst h1
      exact ⟨_, e2, o.frz_rp⟩
    · obtain ⟨u, h3, h4⟩ := r.fr.val j x h2
      exact ⟨u, h3, v0 _ _ h4⟩
  · obtain ⟨h1, h2⟩ := nw e rfl
    obtain ⟨c, h3, ⟨ys, hy, ry⟩, h5, h6⟩ := r.fr.own j ds' h2
    refine ⟨c, h3, ⟨ys, hy, RpA.wk w _ ry⟩, fun q => ?_, h6⟩
    rcases q with q | rfl
    · exact h5 q
    · exact h1 (r.fr.inj _ _ _ _ _ e1 h2 e2 h3)
  · obtain ⟨_, h1⟩ := nw q1 rfl
    obtain ⟨_, h2⟩ := nw q2 rfl
    exact r.fr.inj j k ds' es' c h1 h2 q3 q4
  · obtain ⟨_, h1⟩ := nw q1 rfl
    exact r.yo j ds' c h1 q2
/-- a shared list is rewritten -/
theorem GR.wrt (g : GR K Y M H) {n : Nat} {a : Addr} {ys : List V} {ws : List Val} (hm : Y.m n = some a) (hr : Paired (VR0 K Y H) ys ws) : GR K Y (M.set n (.lst ws)) (upd H a (.lst ys)) ∧ Step Y H Y (upd H a (.lst ys)) := g.wrtO (u := .lst ys) (o := .lst ws) hm hr
end

section
variable {X : Cx} {P : Pm} {pos : Pos} {e e2 o : Expr} {s : Stmt} {ss ss2 : List Stmt} {f g : Tm}
theorem ss_nil : SS X P [] tmNil := PSs.imp pss_nil fun D σ H h => by
  obtain ⟨Y0, H0, bs, Y, M, st, r, h⟩ := h
  exact h Y H σ r
theorem ss_cons (h1 : S1 X P s f) (h2 : SS X P ss g) : SS X P (s :: ss) (tmSeq f g) := PSs.imp (pss_cons h1 h2) fun D σ H h => by
  obtain ⟨Y0, H0, bs, Y, M, st, r, h⟩ := h
  refine ⟨Y0, H0, bs, Y, M, st, r, ?_⟩
  unfold tmSeq at h
  cases q : f st M with
  | none => rw [q] at h; exact h
  | some z =>
    obtain ⟨fl, st', M'⟩ := z
    rw [q] at h
    cases fl with
    | nx => exact fun Y' H' σ' r' => ⟨Y0, H0, bs, Y', M', st', r', h⟩
    | ret s => exact h
    | brk => exact h
    | cont => exact h
    | exc ex => exact h
theorem ss_one (h1 : S1 X P s f) : SS X P [s] f := PSs.imp (pss_one h1) fun D σ H h => h
/-- ahead of a block a list may be frozen -/
theorem ss_frz (i : Nat) (h : SS X P ss f) : SS X P ss (tmFrz i f) := PSs.imp h fun D σ H h => by
  obtain ⟨Y0, H0, bs, Y, M, st, r, h⟩ := h
  unfold tmFrz at h
  split at h
  · rename_i ds e1
    obtain ⟨a, r'⟩ := r.frz e1
    exact ⟨Y0, H0, bs, _, M, _, r', h⟩
  · exact ⟨Y0, H0, bs, Y, M, st, r, h⟩
theorem s1_frz (i : Nat) (h : S1 X P s f) : S1 X P s (tmFrz i f) := PS.imp h fun D σ H h => by
  obtain ⟨Y0, H0, bs, Y, M, st, r, h⟩ := h
  unfold tmFrz at h
  split at h
  · rename_i ds e1
    obtain ⟨a, r'⟩ := r.frz e1
    exact ⟨Y0, H0, bs, _, M, _, r', h⟩
  · exact ⟨Y0, H0, bs, Y, M, st, r, h⟩
theorem ss_no : SS X P ss tmNo := PSs.imp pss_never fun D σ H h => by
  obtain ⟨Y0, H0, bs, Y, M, st, r, h⟩ := h
  exact h
theorem s1_no : S1 X P s tmNo := PS.imp ps_never fun D σ H h => by
  obtain ⟨Y0, H0, bs, Y, M, st, r, h⟩ := h
  exact h
theorem s1_brk : S1 X P (.Break pos) tmBrk := PS.imp ps_break fun D σ H h => by
  obtain ⟨Y0, H0, bs, Y, M, st, r, h⟩ := h
  exact h Y H σ r
theorem s1_cont : S1 X P (.Continue pos) tmCont := PS.imp ps_continue fun D σ H h => by
  obtain ⟨Y0, H0, bs, Y, M, st, r, h⟩ := h
  exact h Y H σ r
theorem s1_pass : S1 X P (.Pass pos) tmNil := PS.imp ps_pass fun D σ H h => by
  obtain ⟨Y0, H0, bs, Y, M, st, r, h⟩ := h
  exact h Y H σ r
/-! stores -/
theorem asg_go {f : Ex Sl} {ws : List Nat} {g : Tgt} {D : Ends} {σ : L2.St} {H : Hp} (h : RnS X.K P (tmAs f g) D σ H) : tAsg (Rn X.K P (RS X.K) f) (tgR X.K ws g) D σ H := by
  obtain ⟨Y0, H0, bs, Y, M, st, r, h⟩ := h
  refine rn_x (R := RS X.K) r h fun a M' Y' H' x r' s ra h' => ?_
  cases q : g a st with
  | none => rw [q] at h'; exact False.elim h'
  | some st' =>
    rw [q] at h'
    exact ⟨Y', M', H0, st, a, st', r'.gr, r'.fr, r'.yo, SlR.n r s r'.gr ra, q, fun σ' as => h' Y' H' σ' (as.sr r')⟩
theorem asg_goN {f : Ex Sl} {i : Nat} {D : Ends} {σ : L2.St} {H : Hp} (h : RnS X.K P (tmAs f (tgN i)) D σ H) : tAsg (Rn X.K P (RS X.K) f) (gName i) D σ H := by
  obtain ⟨Y0, H0, bs, Y, M, st, r, h⟩ := h
  refine rn_x (R := RS X.K) r h fun a M' Y' H' x r' s ra h' => ?_
  exact h' Y' H' _ ((asg_set r'.fr r'.yo (SlR.n r s r'.gr ra) i).sr r')
theorem s1_asg {tg : Expr} {f : Ex Sl} {ws : List Nat} {g : Tgt} (he : SX X P e f) (hg : SG X tg ws g) (hs : swapsWithSole [tg] e pos.line X.env = pure false := by rfl) (hw : swappedStores [tg] e X.env = pure none := by rfl)
    (h1 : (assignEach [tg] X.env).map (·.2) = [assign tg X.env] := by rfl) : S1 X P (.Assign [tg] e pos) (tmAs f g) := PS.imp (ps_asg he hg hs hw h1) fun _ _ _ h => asg_go h
theorem s1_set (i : Nat) {x : Str} {f : Ex Sl} {pos' : Pos} (hN : X.N.Nodup) (he : SX X P e f) (hi : X.N[i]? = some x := by rfl) (hx : Loc X.env.scope x := by first | exact Or.inl rfl | exact Or.inr rfl) (hs : swapsWith e (some (.Name x pos')) pos.line X.env = pure false := by rfl)
    (hf : X.fn x = true ∨ X.env.scope.names.lookup x = some .local := by first | exact .inl rfl | exact .inr rfl) : S1 X P (.Assign [.Name x pos'] e pos) (tmAs f (tgN i)) := PS.imp (ps_set hN hi hx he hs hf) fun _ _ _ h => asg_goN h
/-- y = [.. for ..] on one line -/
theorem s1_setLc (i : Nat) {y : Str} {py spos : Pos} {elt tg iter : Expr} {ifs : List Expr} {scope : Scope} {own : List (Str × Nat)} {ws : List Nat} {it : Ex (List PyData)} {g : Tgt} {c : Ex Bool} {f : Ex Val} (hc : X.calm = true) (hN : X.N.Nodup)
    (hi : SIx X P tg iter it) (ok : BlkOk X.N X.env.scope scope own)
    (hg : ∀ (s : Shared) (H : Hp) (C : Addr) (cl : List (Str × Addr)) (fp : List Addr), SG (X.blk s H scope (compEnvC scope cl C X.env) fp) tg ws g) (ht : ∀ (s : Shared) (H : Hp) (C : Addr) (cl : List (Str × Addr)) (fp : List Addr), SC (X.blk s H scope (compEnvC scope cl C X.env) fp) P.b ifs c)
    (he : ∀ (s : Shared) (H : Hp) (C : Addr) (cl : List (Str × Addr)) (fp : List Addr), SE (X.blk s H scope (compEnvC scope cl C X.env) fp) P.b elt f)
    (hsw : swapsWith (.ListComp elt [⟨tg, iter, ifs, 0⟩] scope pos) (some (.Name y py)) spos.line X.env = pure true) (hv : ∀ i ∈ ws, i ∈ own.map (·.2) := by decide)
    (hy : X.N[i]? = some y := by rfl) (hyl : X.env.scope.names.lookup y = some .local := by rfl) (hs : ∀ x, foldedSetIterable iter X.env x = pure x := by intro _; rfl) :
    S1 X P (.Assign [.Name y py] (.ListComp elt [⟨tg, iter, ifs, 0⟩] scope pos) spos) (tmAs (xLc (own.map (·.2)) it g c f) (tgN i)) := PS.imp (ps_setLc hc hN hy hyl hsw hi ok hg ht he hs) fun D σ H h => by
  obtain ⟨Y0, H0, bs, Y, M, st, r, h⟩ := h
  refine lc_imp hv (Q := fun x H1 => gName i x σ H1 D.nx) (rn_x (R := RS X.K) r h fun a M' Y' H' x r' s ra h' => ?_)
  exact h' Y' H' _ ((asg_set r'.fr r'.yo (SlR.n r s r'.gr ra) i).sr r')
theorem s1_setLcA (k i : Nat) {y : Str} {py spos : Pos} {elt tg iter : Expr} {ifs : List Expr} {scope : Scope} {own : List (Str × Nat)} {ws : List Nat} {fe : Ex Val} {g : Tgt} {c : Ex Bool} {f : Ex Val} (hc : X.calm = true) (hN : X.N.Nodup)
    (hi : SE X P iter fe) (ok : BlkOk X.N X.env.scope scope own)
    (hg : ∀ (s : Shared) (H : Hp) (C : Addr) (cl : List (Str × Addr)) (fp : List Addr), SG (X.blk s H scope (compEnvC scope cl C X.env) fp) tg ws g) (ht : ∀ (s : Shared) (H : Hp) (C : Addr) (cl : List (Str × Addr)) (fp : List Addr), SC (X.blk s H scope (compEnvC scope cl C X.env) fp) P.b ifs c)
    (he : ∀ (s : Shared) (H : Hp) (C : Addr) (cl : List (Str × Addr)) (fp : List Addr), SE (X.blk s H scope (compEnvC scope cl C X.env) fp) P.b elt f)
    (hsw : swapsWith (.ListComp elt [⟨tg, iter, ifs, 0⟩] scope pos) (some (.Name y py)) spos.line X.env = pure true) (hv : ∀ i ∈ ws, i ∈ own.map (·.2) := by decide)
    (hy : X.N[i]? = some y := by rfl) (hyl : X.env.scope.names.lookup y = some .local := by rfl) (hs : ∀ x, foldedSetIterable iter X.env x = pure x := by intro _; rfl) :
    S1 X P (.Assign [.Name y py] (.ListComp elt [⟨tg, iter, ifs, 0⟩] scope pos) spos) (tmAs (xLcA k (own.map (·.2)) fe g c f) (tgN i)) := PS.imp (ps_setLc hc hN hy hyl hsw (pi_any hi) ok hg ht he hs) fun D σ H h => by
  obtain ⟨Y0, H0, bs, Y, M, st, r, h⟩ := h
  refine lcA_imp k hv (Q := fun x H1 => gName i x σ H1 D.nx) (rn_x (R := RS X.K) r h fun a M' Y' H' x r' s ra h' => ?_)
  exact h' Y' H' _ ((asg_set r'.fr r'.yo (SlR.n r s r'.gr ra) i).sr r')
/-! several results -/
inductive SlAll (K : PySem.W.Frag) (Y : Wd) (H0 H : Hp) : List V → List Sl → Prop
  | nil : SlAll K Y H0 H [] []
  | cons {x : V} {s : Sl} {xs : List V} {ss : List Sl} : SlR K Y H0 H x s → SlAll K Y H0 H xs ss → (isOwn s = true → ∀ (j : Nat) es, ss[j]? = some (.own es) → xs[j]? ≠ some x) → SlAll K Y H0 H (x :: xs) (s :: ss)
abbrev RL (K : PySem.W.Frag) : RelT (List Sl) (List V) := fun Y H0 H _ _ xs ss => SlAll K Y H0 H xs ss
theorem SlAll.shift {K : PySem.W.Frag} {Y Y' Y'' : Wd} {H H' H'' : Hp} {M' : MH} (s : Step Y H Y' H') (g' : GR K Y' M' H') : ∀ {xs : List V} {ss : List Sl}, SlAll K Y'' H' H'' xs ss → SlAll K Y'' H H'' xs ss
  | _, _, .nil => .nil
  | _, _, .cons h1 h2 h3 => .cons (SlR.shift s g' h1) (SlAll.shift s g' h2) h3
theorem shL {K : PySem.W.Frag} : ShiftR K (RL K) := ⟨fun s g h => SlAll.shift s g h⟩
abbrev SL' (X : Cx) (P : Pm) (es : List Expr) (f : Ex (List Sl)) : Prop := PA X es (Rn X.K P (RL X.K) f)
def xNil : Ex (List Sl) := fun _ M => .ok [] M
def xCons (f : Ex Sl) (r : Ex (List Sl)) : Ex (List Sl) := fun st M => (f st M).bind fun a M1 => (r st M1).bind fun l M2 => .ok (a :: l) M2
theorem sl_nil : SL' X P [] xNil := by
  refine PA.imp pa_nil fun σ H Q h => ?_
  obtain ⟨Y, M, st, g0, fr, h⟩ := h
  exact Post.ok h (Step.refl Y H) g0 (show SlAll _ _ _ _ [] [] from .nil)
theorem SlR.step2 {K : PySem.W.Frag} {Y Y' : Wd} {H0 H H' : Hp} {M : MH} (g : GR K Y M H) (s : Step Y H Y' H') {x : V} {v : Sl} (h : SlR K Y H0 H x v) : SlR K Y' H0 H' x v := by
  cases v with
  | v y => exact VR0.step g s h
  | own ds =>
    obtain ⟨a, e, o, n⟩ := h
    exact ⟨a, e, o.step g s, n⟩
theorem SlAll.fresh {K : PySem.W.Frag} {Y : Wd} {H0 H : Hp} : ∀ {xs : List V} {ss : List Sl}, SlAll K Y H0 H xs ss → ∀ (j : Nat) es, ss[j]? = some (.own es) → ∃ a, xs[j]? = some (.ref a) ∧ H0 a = none
  | _, _, .nil, j, es, e => by simp at e
  | _, _, .cons h1 h2 h3, 0, es, e => by
    cases (Option.some.inj (show some _ = some (Sl.own es) from e))
    obtain ⟨a, rfl, _, n⟩ := h1
    exact ⟨a, rfl, n⟩
  | _, _, .cons h1 h2 h3, j + 1, es, e => SlAll.fresh h2 j es (by simpa using e)
theorem sl_cons {es : List Expr} {f1 : Ex Sl} {r : Ex (List Sl)} (ha : SX X P e f1) (hr : SL' X P es r) (hs : starEach (e :: es) X.env = (false, eval e X.env) :: starEach es X.env := by rfl) : SL' X P (e :: es) (xCons f1 r) := by
  refine PA.imp (pa_cons ha hr hs) fun σ H Q h => ?_
  obtain ⟨Y, M, st, g0, fr, h⟩ := h
  refine ⟨Y, M, st, g0, fr, ?_⟩
  unfold xCons at h
  cases e1 : f1 st M with
  | exc ex M1 => rw [e1] at h; exact h
  | err => rw [e1] at h; exact h
  | ok va M1 =>
    rw [e1] at h
    simp only [Out.bind_ok] at h
    intro Y1 H1 x s1 g1 r1
    refine ⟨Y1, M1, st, g1, fr.step g0 s1, ?_⟩
    cases e2 : r st M1 with
    | exc ex M2 =>
      rw [e2] at h
      exact fun Y2 H2 c d s2 g2 er => h Y2 H2 c d (s1.then g1 s2) g2 er
    | err => rw [e2] at h; exact h
    | ok vs M2 =>
      rw [e2] at h
      simp only [Out.bind_ok] at h
      intro Y2 H2 xs s2 g2 r2
      refine h Y2 H2 (x :: xs) (s1.then g1 s2) g2 (SlAll.cons (SlR.step2 g1 s2 r1) (SlAll.shift s1 g1 r2) fun ho j es ej ex => ?_)
      cases va with
      | v y => cases ho
      | own ds =>
        obtain ⟨a, rfl, ⟨⟨ys, hy, _⟩, _, _⟩, _⟩ := r1
        obtain ⟨b, hb, hn⟩ := SlAll.fresh r2 j es ej
        rw [hb] at ex
        cases ex
        rw [hn] at hy
        cases hy
theorem SlAll.ns {K : PySem.W.Frag} {Y0 Y Y' : Wd} {H0 H H' : Hp} {bs : Bs} {st : MSt} {M M' : MH} {σ : L2.St} (r : SR K Y0 H0 bs Y H st M σ) (s : Step Y H Y' H') (g : GR K Y' M' H') : ∀ {xs : List V} {ss : List Sl}, SlAll K Y' H H' xs ss → SlNs K Y' H0 H' st σ xs ss
  | _, _, .nil => .nil
  | _, _, .cons h1 h2 h3 => .cons (SlR.n r s g h1) (SlAll.ns r s g h2) h3
theorem SlAll.len {K : PySem.W.Frag} {Y : Wd} {H0 H : Hp} : ∀ {xs : List V} {ss : List Sl}, SlAll K Y H0 H xs ss → xs.length = ss.length
  | _, _, .nil => rfl
  | _, _, .cons _ h _ => by rw [List.length_cons, List.length_cons, SlAll.len h]
/-- stores one after another -/
theorem SlAll.two {K : PySem.W.Frag} {Y : Wd} {H0 H : Hp} {xs : List V} {s1 s2 : Sl} (h : SlAll K Y H0 H xs [s1, s2]) : ∃ x1 x2, xs = [x1, x2] := by
  cases h with
  | cons _ h2 _ =>
    cases h2 with
    | cons _ h3 _ => cases h3; exact ⟨_, _, rfl⟩
theorem set2 {K : PySem.W.Frag} {Y : Wd} {H0 H : Hp} {st : MSt} {σ : L2.St} {bs : Bs} {Y0 : Wd} {M : MH} (r : SR K Y0 H0 bs Y H st M σ) {x : V} {s : Sl} {xs : List V} {ss : List Sl} (n : SlNs K Y H0 H st σ (x :: xs) (s :: ss)) (i : Nat) :
    SR K Y0 H0 bs Y H (st.set i (some s)) M (σ.set i (some x)) ∧ SlNs K Y H0 H (st.set i (some s)) (σ.set i (some x)) xs ss := by
  cases n with
  | cons n1 n2 nd =>
    have a1 := asg_set r.fr r.yo n1 i
    exact ⟨a1.sr r, SlNs.after a1.sub n2 fun j es a q1 q2 q3 => nd q3.1 j es q1 (by rw [q2, q3.2])⟩
def tgP2 (i j : Nat) : List Sl → MSt → Option MSt := tgsCons (tgN i) (tgsCons (tgN j) tgsNil)
def tgP3 (i j k : Nat) : List Sl → MSt → Option MSt := tgsCons (tgN i) (tgsCons (tgN j) (tgsCons (tgN k) tgsNil))
theorem s1_par (i j : Nat) {x y : Str} {a b : Expr} {fs : Ex (List Sl)} {px py pt : Pos} {kt k2 pt2} (hc : X.calm = true) (hN : X.N.Nodup) (ha : SL' X P [a, b] fs)
    (hw : swappedStores [.Tuple [.Name x px, .Name y py] kt pt] (.Tuple [a, b] k2 pt2) X.env = pure (some [x, y])) (hi : X.N[i]? = some x := by rfl) (hj : X.N[j]? = some y := by rfl) (hij : i ≠ j := by decide)
    (hx : X.env.scope.names.lookup x = some .local := by rfl) (hy : X.env.scope.names.lookup y = some .local := by rfl)
    (hs : swapsWithSole [.Tuple [.Name x px, .Name y py] kt pt] (.Tuple [a, b] k2 pt2) pos.line X.env = pure false := by rfl) :
    S1 X P (.Assign [.Tuple [.Name x px, .Name y py] kt pt] (.Tuple [a, b] k2 pt2) pos) (tmPs fs (tgP2 i j)) := PS.imp (ps_par hc hN hi hj hij hx hy ha hw hs) fun D σ H h => by
  obtain ⟨Y0, H0, bs, Y, M, st, r, h⟩ := h
  refine rn_x (R := RL X.K) r h fun ss M' Y' H' xs r' s ra h' => ?_
  match ss, ra, h' with
  | [s1, s2], ra, h' =>
    obtain ⟨x1, x2, rfl⟩ := SlAll.two ra
    have ns := SlAll.ns r s r'.gr ra
    obtain ⟨r1, n1⟩ := set2 r' ns i
    obtain ⟨r2, n2⟩ := set2 r1 n1 j
    exact ⟨x1, x2, rfl, h' Y' H' _ r2⟩
  | [], _, h' => exact False.elim h'
  | [_], _, h' => exact False.elim h'
  | _ :: _ :: _ :: _, _, h' => exact False.elim h'
theorem s1_par3 (i j k : Nat) {x y z : Str} {a b c : Expr} {fs : Ex (List Sl)} {px py pz pt : Pos} {kt k2 pt2} (hc : X.calm = true) (hN : X.N.Nodup) (ha : SL' X P [a, b, c] fs)
    (hw : swappedStores [.Tuple [.Name x px, .Name y py, .Name z pz] kt pt] (.Tuple [a, b, c] k2 pt2) X.env = pure (some [x, y, z])) (hi : X.N[i]? = some x := by rfl) (hj : X.N[j]? = some y := by rfl) (hk : X.N[k]? = some z := by rfl)
    (hij : i ≠ j := by decide) (hik : i ≠ k := by decide) (hjk : j ≠ k := by decide)
    (hx : X.env.scope.names.lookup x = some .local := by rfl) (hy : X.env.scope.names.lookup y = some .local := by rfl) (hz : X.env.scope.names.lookup z = some .local := by rfl)
    (hs : swapsWithSole [.Tuple [.Name x px, .Name y py, .Name z pz] kt pt] (.Tuple [a, b, c] k2 pt2) pos.line X.env = pure false := by rfl) :
    S1 X P (.Assign [.Tuple [.Name x px, .Name y py, .Name z pz] kt pt] (.Tuple [a, b, c] k2 pt2) pos) (tmPs fs (tgP3 i j k)) := PS.imp (ps_par3 hc hN hi hj hk hij hik hjk hx hy hz ha hw hs) fun D σ H h => by
  obtain ⟨Y0, H0, bs, Y, M, st, r, h⟩ := h
  refine rn_x (R := RL X.K) r h fun ss M' Y' H' xs r' s ra h' => ?_
  match ss, ra, h' with
  | [s1, s2, s3], ra, h' =>
    obtain ⟨x1, x2, x3, rfl⟩ : ∃ x1 x2 x3, xs = [x1, x2, x3] := by
      cases ra with
      | cons _ q _ =>
        obtain ⟨_, _, rfl⟩ := SlAll.two q
        exact ⟨_, _, _, rfl⟩
    have ns := SlAll.ns r s r'.gr ra
    obtain ⟨r1, n1⟩ := set2 r' ns i
    obtain ⟨r2, n2⟩ := set2 r1 n1 j
    obtain ⟨r3, n3⟩ := set2 r2 n2 k
    exact ⟨x1, x2, x3, rfl, h' Y' H' _ r3⟩
  | [], _, h' => exact False.elim h'
  | [_], _, h' => exact False.elim h'
  | [_, _], _, h' => exact False.elim h'
  | _ :: _ :: _ :: _ :: _, _, h' => exact False.elim h'
theorem SlNs.laid {K : PySem.W.Frag} {Y : Wd} {H0 H : Hp} {st : MSt} {σ : L2.St} {M : MH} (g : GR K Y M H) {p : Addr} {o : HO} (hp : H p = none) : ∀ {xs : List V} {ss : List Sl}, SlNs K Y H0 H st σ xs ss → SlNs K Y H0 (upd H p o) st σ xs ss
  | _, _, .nil => .nil
  | _, _, .cons (s := s) h1 h2 h3 => by
    refine .cons ?_ (SlNs.laid g hp h2) h3
    cases s with
    | v y => exact VR0.step g (Step.laid hp) h1
    | own ds =>
      obtain ⟨a, e, ow, n, nd⟩ := h1
      exact ⟨a, e, ow.step g (Step.laid hp), n, nd⟩
/-- (a, b, ..) = (x, y, ..), the pair made and taken apart -/
theorem s1_tt {es ts : List Expr} {k k2 n : Nat} {p1 p2 : Pos} {fs : Ex (List Sl)} {ws : List Nat} {g : List Sl → MSt → Option MSt} (hc : X.calm = true) (ha : SL' X P es fs) (hg : SGs X ts ws g) (hl : ∀ ss st st', g ss st = some st' → ss.length = n)
    (hsz : n ≤ SL := by decide) (hn : (assignEach ts X.env).length = n := by rfl) (hst : (assignEach ts X.env).findIdx? (·.1) = none := by rfl) (hs : swapsWithSole [.Tuple ts k p1] (.Tuple es k2 p2) pos.line X.env = pure false := by rfl) (hw : swappedStores [.Tuple ts k p1] (.Tuple es k2 p2) X.env = pure none := by rfl)
    (h1 : (assignEach [.Tuple ts k p1] X.env).map (·.2) = [assign (.Tuple ts k p1) X.env] := by rfl) : S1 X P (.Assign [.Tuple ts k p1] (.Tuple es k2 p2) pos) (tmPs fs g) := PS.imp (ps_asg (pe_tup ha) (pg_tup hc hg hn hst) hs hw h1) fun D σ H h => by
  obtain ⟨Y0, H0, bs, Y, M, st, r, h⟩ := h
  refine rn_x (R := RL X.K) r h fun ss M' Y' H' xs r' s ra h' => ?_
  cases q : g ss st with
  | none => rw [q] at h'; exact False.elim h'
  | some st' =>
    rw [q] at h'
    have hxl : xs.length = n := by rw [SlAll.len ra, hl _ _ _ q]
    refine ⟨by rw [hxl, sl_eq]; exact hsz, fun p hp => ⟨p, xs, rfl, .inl (.inl upd_same), hxl, ?_⟩⟩
    have rl := r'.step (Step.laid (o := .tup xs) hp) (r'.gr.laid hp)
    exact ⟨Y', M', H0, st, ss, st', rl.gr, rl.fr, rl.yo, SlNs.laid r'.gr hp (SlAll.ns r s r'.gr ra), q, fun σ' as => h' Y' _ σ' (as.sr rl)⟩
/-! branches, returns -/
theorem s1_if {c : Expr} {fc : Ex Bool} (hc : ST X P c fc) (ha : SS X P ss f) (hb : SS X P ss2 g) : S1 X P (.If c ss ss2 pos) (tmIf fc f g) := PS.imp (ps_if hc ha hb) fun D σ H h => by
  obtain ⟨Y0, H0, bs, Y, M, st, r, h⟩ := h
  refine rn_x (R := RB) r h fun b M' Y' H' x r' s ra h' => ?_
  cases (show x = b from ra)
  cases b with
  | true => exact ⟨Y0, H0, bs, Y', M', st, r', h'⟩
  | false => exact ⟨Y0, H0, bs, Y', M', st, r', h'⟩
theorem s1_ret {f : Ex Sl} (he : SX X P e f) : S1 X P (.Return (some e) pos) (tmRt f) := PS.imp (ps_ret he) fun D σ H h => by
  obtain ⟨Y0, H0, bs, Y, M, st, r, h⟩ := h
  exact rn_x (R := RS X.K) r h fun a M' Y' H' x r' s ra h' => h' Y' H' x r'.s0 r'.gr (SlR.r0 r ra)
theorem s1_retN : S1 X P (.Return none pos) tmRn := PS.imp ps_retN fun D σ H h => by
  obtain ⟨Y0, H0, bs, Y, M, st, r, h⟩ := h
  exact h Y H .non r.s0 r.gr (show Rp X.K Y.F H .non .none from .non)
theorem s1_retV (i : Nat) {x : Str} {p : Pos} (hN : X.N[i]? = some x := by rfl) (hv : Vis X.env.scope x := by first | exact Or.inl rfl | exact Or.inr (Or.inl rfl) | exact Or.inr (Or.inr rfl)) (hd : (x == ("__debug__" : Str)) = false := by decide)
    (hcd : (x == ("__classdict__" : Str)) = false := by decide) : S1 X P (.Return (some (.Name x p)) pos) (tmRv i) := PS.imp (ps_ret (pe_var hN hv hd hcd)) fun D σ H h => by
  obtain ⟨Y0, H0, bs, Y, M, st, r, h⟩ := h
  unfold tmRv at h
  split at h
  · rename_i s e1
    cases s with
    | v y =>
      obtain ⟨u, h1, h2⟩ := r.fr.val i y e1
      exact ⟨u, h1, h Y H u r.s0 r.gr h2⟩
    | own ds =>
      obtain ⟨a, h1, h2⟩ := r.fr.own i ds e1
      exact ⟨_, h1, h Y H _ r.s0 r.gr ⟨a, rfl, h2, r.yo i ds a e1 h1⟩⟩
  · exact False.elim h
theorem s1_do {f : Ex Val} (he : SE X P e f) (hs : swapsWith e none pos.line X.env = pure false := by rfl) : S1 X P (.Expr e pos) (tmDo f) := PS.imp (ps_expr he hs) fun D σ H h => by
  obtain ⟨Y0, H0, bs, Y, M, st, r, h⟩ := h
  exact rn_x (R := RV X.K) r h fun a M' Y' H' x r' s ra h' => h' Y' H' σ r'
theorem s1_doX {f : Ex Sl} (he : SX X P e f) (hs : swapsWith e none pos.line X.env = pure false := by rfl) : S1 X P (.Expr e pos) (tmDo f) := PS.imp (ps_expr he hs) fun D σ H h => by
  obtain ⟨Y0, H0, bs, Y, M, st, r, h⟩ := h
  exact rn_x (R := RS X.K) r h fun a M' Y' H' x r' s ra h' => h' Y' H' σ r'
/-! the frame's own lists -/
theorem s1_app (i : Nat) {x : Str} {p apos cpos : Pos} {f : Ex Val} (he : SE X P e f) (hN : X.N[i]? = some x := by rfl) (hv : Vis X.env.scope x := by first | exact Or.inl rfl | exact Or.inr (Or.inl rfl) | exact Or.inr (Or.inr rfl)) (hd : (x == ("__debug__" : Str)) = false := by decide)
    (hcd : (x == ("__classdict__" : Str)) = false := by decide) (hs : starEach [e] X.env = (false, eval e X.env) :: starEach [] X.env := by rfl)
    (hbase : attributeBase (.Name x p) "append" X.env (eval (.Name x p) X.env) = eval (.Name x p) X.env := by rfl)
    (hfew : ((backTo cpos (starEach [e] X.env)).all (fun x => !x.1) && (backToKw cpos (keywordEach [] X.env)).all (fun x => x.1.isSome) && decide ([e].length + ([] : List Keyword).length + (if ([] : List Keyword).isEmpty then 0 else 1) < 30)) = true := by rfl)
    (hline : (apos.endLine == cpos.line) = true := by rfl) (hplain : (backTo cpos (starEach [] X.env)).any (·.1) = false := by rfl) (hsw : swapsWith (.Call (.Attribute (.Name x p) "append" apos) [e] [] cpos) none pos.line X.env = pure false := by rfl) :
    S1 X P (.Expr (.Call (.Attribute (.Name x p) "append" apos) [e] [] cpos) pos) (tmApp i f) := by
  refine PS.imp (ps_expr (pe_bm PySem.F.plainAttrs_list PySem.F.slot_list_append PySem.F.type_list_append mt_append (pe_var hN hv hd hcd) (pa_cons he pa_nil hs) hbase hfew hline hs hplain) hsw) fun D σ H h => ?_
  obtain ⟨Y0, H0, bs, Y, M, st, r, h⟩ := h
  unfold tmApp at h
  split at h
  case h_2 => exact False.elim h
  rename_i ds e1
  obtain ⟨a, e2, o⟩ := r.fr.own i ds e1
  obtain ⟨xs, hx, rx⟩ := o.at_
  refine ⟨.ref a, e2, .inl ⟨rfl, xs, SqL.of hx⟩, ?_⟩
  refine rn_x (R := RV X.K) r h fun v M' Y' H' y r' s ra h' => ?_
  cases v with
  | dat d =>
    by_cases hl : ds.length < SL
    · simp only [if_pos hl] at h'
      have o' := o.step r.gr s
      have hx' := s.kp a _ hx o.nm
      have rx' := RpA.wk (s.wk r.gr) ds rx
      exact ⟨a, xs, y, rfl, rfl, hx', by rw [rx.length, sl_eq]; exact hl, h' Y' _ σ (r'.upd e1 e2 (rx'.append (RpA.one ra)))⟩
    · simp only [if_neg hl] at h'
      exact False.elim h'
  | loc _ => exact False.elim h'
  | slot _ => exact False.elim h'
  | ro _ => exact False.elim h'
theorem s1_ext (i : Nat) {x : Str} {p apos cpos : Pos} {f : Ex Val} (he : SE X P e f) (hN : X.N[i]? = some x := by rfl) (hv : Vis X.env.scope x := by first | exact Or.inl rfl | exact Or.inr (Or.inl rfl) | exact Or.inr (Or.inr rfl)) (hd : (x == ("__debug__" : Str)) = false := by decide)
    (hcd : (x == ("__classdict__" : Str)) = false := by decide) (hs : starEach [e] X.env = (false, eval e X.env) :: starEach [] X.env := by rfl)
    (hbase : attributeBase (.Name x p) "extend" X.env (eval (.Name x p) X.env) = eval (.Name x p) X.env := by rfl)
    (hfew : ((backTo cpos (starEach [e] X.env)).all (fun x => !x.1) && (backToKw cpos (keywordEach [] X.env)).all (fun x => x.1.isSome) && decide ([e].length + ([] : List Keyword).length + (if ([] : List Keyword).isEmpty then 0 else 1) < 30)) = true := by rfl)
    (hline : (apos.endLine == cpos.line) = true := by rfl) (hplain : (backTo cpos (starEach [] X.env)).any (·.1) = false := by rfl)
    (hsw : swapsWith (.Call (.Attribute (.Name x p) "extend" apos) [e] [] cpos) none pos.line X.env = pure false := by rfl) :
    S1 X P (.Expr (.Call (.Attribute (.Name x p) "extend" apos) [e] [] cpos) pos) (tmExt i f) := by
  refine PS.imp (ps_expr (pe_bm PySem.F.plainAttrs_list PySem.F.slot_list_extend PySem.F.type_list_extend mt_extend (pe_var hN hv hd hcd) (pa_cons he pa_nil hs) hbase hfew hline hs hplain) hsw) fun D σ H h => ?_
  obtain ⟨Y0, H0, bs, Y, M, st, r, h⟩ := h
  unfold tmExt at h
  split at h
  case h_2 => exact False.elim h
  rename_i ds e1
  obtain ⟨a, e2, o⟩ := r.fr.own i ds e1
  obtain ⟨xs, hx, rx⟩ := o.at_
  refine ⟨.ref a, e2, .inl ⟨rfl, xs, SqL.of hx⟩, ?_⟩
  refine rn_x (R := RV X.K) r h fun v M' Y' H' y r' s ra h' => ?_
  split at h'
  case h_2 => exact False.elim h'
  rename_i es ed
  obtain ⟨b, ys, rfl, hb, ry⟩ := (DrT.of r'.gr r'.fr ra ed).lst
  by_cases hl : ds.length + es.length ≤ SL
  · rw [if_pos hl] at h'
    have hx' := s.kp a _ hx o.nm
    have rx' := RpA.wk (s.wk r.gr) ds rx
    exact ⟨a, b, xs, ys, rfl, rfl, hx', hb, by rw [rx.length, ry.length, sl_eq]; exact hl, h' Y' _ σ (r'.upd e1 e2 (rx'.append ry))⟩
  · rw [if_neg hl] at h'
    exact False.elim h'

/-! ### shared lists -/
/-- where a shared list stands -/
def locOf (M : MH) : Val → Option (Nat × List Val)
  | .loc n => (lstAt M n).map fun vs => (n, vs)
  | _ => none
theorem loc_at {K : PySem.W.Frag} {Y : Wd} {M : MH} {H : Hp} {st : MSt} {σ : L2.St} (g : GR K Y M H) {x : V} {v : Val} {n : Nat} {vs : List Val} (r : VRp K Y H st σ x v) (h : locOf M v = some (n, vs)) : ∃ a xs, x = .ref a ∧ Y.m n = some a ∧ H a = some (.lst xs) ∧ Paired (VR0 K Y H) xs vs := by
  cases v with
  | loc k =>
    obtain ⟨a, rfl, hm⟩ := r
    obtain ⟨us, h1, h2⟩ := Option.map_eq_some_iff.mp (show (lstAt M k).map (fun vs => (k, vs)) = some (n, vs) from h)
    cases h2
    obtain ⟨xs, hx, p⟩ := lstAt_at g hm h1
    exact ⟨a, xs, rfl, hm, hx, p⟩
  | dat _ => cases h
  | slot _ => cases h
  | ro _ => cases h
theorem Paired.app {α β : Type} {F : α → β → Prop} : ∀ {as : List α} {bs : List β} {cs : List α} {ds : List β}, Paired F as bs → Paired F cs ds → Paired F (as ++ cs) (bs ++ ds)
  | _, _, _, _, .nil, h => h
  | _, _, _, _, .cons a b, h => .cons a (Paired.app b h)
theorem Paired.set' {α β : Type} {F : α → β → Prop} {a : α} {b : β} (r : F a b) : ∀ {as : List α} {bs : List β} (_ : Paired F as bs) (i : Nat), Paired F (as.set i a) (bs.set i b)
  | _, _, .nil, _ => .nil
  | _, _, .cons _ t, 0 => .cons r t
  | _, _, .cons h t, i + 1 => .cons h (Paired.set' r t i)
theorem Paired.erase {α β : Type} {F : α → β → Prop} : ∀ {as : List α} {bs : List β} (_ : Paired F as bs) (i : Nat), Paired F (as.eraseIdx i) (bs.eraseIdx i)
  | _, _, .nil, _ => .nil
  | _, _, .cons _ t, 0 => t
  | _, _, .cons h t, i + 1 => .cons h (Paired.erase t i)
theorem Paired.dropL {α β : Type} {F : α → β → Prop} : ∀ {as : List α} {bs : List β} (_ : Paired F as bs), Paired F as.dropLast bs.dropLast
  | _, _, .nil => .nil
  | _, _, .cons _ .nil => .nil
  | _, _, .cons h (.cons h2 t) => .cons h (Paired.dropL (.cons h2 t))
def isLoc (M : MH) (v : Val) : Bool := (locOf M v).isSome
def eLPop (fo : Ex Val) : Ex Val := fun st M => (fo st M).bind fun o M1 => match locOf M1 o with
  | some (n, vs) => match vs[vs.length - 1]? with
    | some v => .ok v (M1.set n (.lst vs.dropLast))
    | none => .err
  | none => .err
def eLPopAt (fo f : Ex Val) : Ex Val := fun st M => (fo st M).bind fun o M1 => if isLoc M1 o = true then (f st M1).bind fun i M2 => match locOf M2 o, intOf i with
  | some (n, vs), some j => if -(2 ^ 63) ≤ j ∧ j < 2 ^ 63 then match seqIndex? j vs.length with
      | some k => match vs[k]? with
        | some v => .ok v (M2.set n (.lst (vs.eraseIdx k)))
        | none => .err
      | none => .err
    else .err
  | _, _ => .err else .err
theorem loc_ty {K : PySem.W.Frag} {Y : Wd} {M : MH} {H : Hp} {st : MSt} {σ : L2.St} (g : GR K Y M H) {x : V} {v : Val} (r : VRp K Y H st σ x v) (h : isLoc M v = true) : tyV K "list" x H := by
  unfold isLoc at h
  cases q : locOf M v with
  | none => rw [q] at h; cases h
  | some p =>
    obtain ⟨a, xs, rfl, _, hx, _⟩ := loc_at g r q
    exact .inl ⟨rfl, xs, SqL.of hx⟩
theorem se_lpop {apos cpos : Pos} {fo : Ex Val} (ho : SE X P o fo) (hbase : attributeBase o "pop" X.env (eval o X.env) = eval o X.env := by rfl) (hline : (apos.endLine == cpos.line) = true := by rfl) : SE X P (.Call (.Attribute o "pop" apos) [] [] cpos) (eLPop fo) := by
  refine PE.imp (pe_bm0 PySem.F.plainAttrs_list PySem.F.slot_list_pop PySem.F.type_list_pop mt_pop ho hbase hline) fun σ H Q h => ?_
  obtain ⟨Y, M, st, g0, fr, h⟩ := h
  refine ⟨Y, M, st, g0, fr, Post.bind (R1 := RV X.K) shV h fun va M1 Y1 H1 x _ s1 g1 r1 q1 => ?_⟩
  cases hl : locOf M1 va with
  | none => rw [hl] at q1; exact False.elim q1
  | some p =>
    obtain ⟨n, vs⟩ := p
    rw [hl] at q1
    simp only at q1
    obtain ⟨a, xs, rfl, hm, hx, pr⟩ := loc_at g1 r1 hl
    refine ⟨.inl ⟨rfl, xs, SqL.of hx⟩, ?_⟩
    cases hy : vs[vs.length - 1]? with
    | none => rw [hy] at q1; exact False.elim q1
    | some v =>
      rw [hy] at q1
      obtain ⟨y, ey, ry⟩ := Paired.get pr hy
      obtain ⟨g2, s2⟩ := g1.wrt hm (Paired.dropL pr)
      exact ⟨a, xs, y, rfl, rfl, hx, by rw [Paired.length pr]; exact ey, q1 Y1 _ y s2 g2 (VR0.vr (ry.step g1 s2))⟩
theorem se_lpopAt {apos cpos : Pos} {fo f : Ex Val} (ho : SE X P o fo) (he : SE X P e f) (hs : starEach [e] X.env = (false, eval e X.env) :: starEach [] X.env := by rfl) (hbase : attributeBase o "pop" X.env (eval o X.env) = eval o X.env := by rfl)
    (hfew : ((backTo cpos (starEach [e] X.env)).all (fun x => !x.1) && (backToKw cpos (keywordEach [] X.env)).all (fun x => x.1.isSome) && decide ([e].length + ([] : List Keyword).length + (if ([] : List Keyword).isEmpty then 0 else 1) < 30)) = true := by rfl)
    (hline : (apos.endLine == cpos.line) = true := by rfl) (hplain : (backTo cpos (starEach [] X.env)).any (·.1) = false := by rfl) : SE X P (.Call (.Attribute o "pop" apos) [e] [] cpos) (eLPopAt fo f) := by
  refine PE.imp (pe_bm PySem.F.plainAttrs_list PySem.F.slot_list_pop PySem.F.type_list_pop mt_popAt ho (pa_cons he pa_nil hs) hbase hfew hline hs hplain) fun σ H Q h => ?_
  obtain ⟨Y, M, st, g0, fr, h⟩ := h
  refine ⟨Y, M, st, g0, fr, Post.bind (R1 := RV X.K) shV h fun va M1 Y1 H1 x _ s1 g1 r1 q1 => ?_⟩
  cases hl : isLoc M1 va with
  | false => rw [hl] at q1; exact False.elim q1
  | true =>
    rw [hl, if_pos rfl] at q1
    refine ⟨loc_ty g1 r1 hl, Y1, M1, st, g1, fr.step g0 s1, Post.bind (R1 := RV X.K) shV q1 fun vi M2 Y2 H2 yi _ s2 g2 r2 q2 => ?_⟩
    cases hl2 : locOf M2 va with
    | none => rw [hl2] at q2; exact False.elim q2
    | some p =>
      obtain ⟨n, vs⟩ := p
      cases hi : intOf vi with
      | none => rw [hl2, hi] at q2; exact False.elim q2
      | some j =>
        rw [hl2, hi] at q2
        simp only at q2
        cases intOf_some hi
        cases VRp.int r2
        obtain ⟨a, xs, rfl, hm, hx, pr⟩ := loc_at g2 (VRp.step g1 s2 r1) hl2
        by_cases hb : -(2 ^ 63) ≤ j ∧ j < 2 ^ 63
        · rw [if_pos hb] at q2
          cases hk : seqIndex? j vs.length with
          | none => rw [hk] at q2; exact False.elim q2
          | some k =>
            rw [hk] at q2
            simp only at q2
            cases hy : vs[k]? with
            | none => rw [hy] at q2; exact False.elim q2
            | some v =>
              rw [hy] at q2
              obtain ⟨y, ey, ry⟩ := Paired.get pr hy
              obtain ⟨g3, s3⟩ := g2.wrt hm (Paired.erase pr k)
              exact ⟨a, xs, j, k, y, rfl, rfl, hx, hb.1, hb.2, by rw [Paired.length pr]; exact hk, ey, q2 Y2 _ y s3 g3 (VR0.vr (ry.step g2 s3))⟩
        · rw [if_neg hb] at q2; exact False.elim q2
def eLExt (fo f : Ex Val) : Ex Val := fun st M => (fo st M).bind fun o M1 => if isLoc M1 o = true then (f st M1).bind fun v M2 => match locOf M2 o, derefT st M2 v with
  | some (n, vs), some (.list es) => if vs.length + es.length ≤ SL then .ok (.dat .none) (M2.set n (.lst (vs ++ es.map .dat))) else .err
  | _, _ => .err else .err
theorem se_lext {apos cpos : Pos} {fo f : Ex Val} (ho : SE X P o fo) (he : SE X P e f) (hs : starEach [e] X.env = (false, eval e X.env) :: starEach [] X.env := by rfl) (hbase : attributeBase o "extend" X.env (eval o X.env) = eval o X.env := by rfl)
    (hfew : ((backTo cpos (starEach [e] X.env)).all (fun x => !x.1) && (backToKw cpos (keywordEach [] X.env)).all (fun x => x.1.isSome) && decide ([e].length + ([] : List Keyword).length + (if ([] : List Keyword).isEmpty then 0 else 1) < 30)) = true := by rfl)
    (hline : (apos.endLine == cpos.line) = true := by rfl) (hplain : (backTo cpos (starEach [] X.env)).any (·.1) = false := by rfl) : SE X P (.Call (.Attribute o "extend" apos) [e] [] cpos) (eLExt fo f) := by
  refine PE.imp (pe_bm PySem.F.plainAttrs_list PySem.F.slot_list_extend PySem.F.type_list_extend mt_extend ho (pa_cons he pa_nil hs) hbase hfew hline hs hplain) fun σ H Q h => ?_
  obtain ⟨Y, M, st, g0, fr, h⟩ := h
  refine ⟨Y, M, st, g0, fr, Post.bind (R1 := RV X.K) shV h fun va M1 Y1 H1 x _ s1 g1 r1 q1 => ?_⟩
  have fr1 := fr.step g0 s1
  cases hl : isLoc M1 va with
  | false => rw [hl] at q1; exact False.elim q1
  | true =>
    rw [hl, if_pos rfl] at q1
    refine ⟨loc_ty g1 r1 hl, Y1, M1, st, g1, fr1, Post.bind (R1 := RV X.K) shV q1 fun v M2 Y2 H2 y _ s2 g2 r2 q2 => ?_⟩
    split at q2
    case h_2 => exact False.elim q2
    rename_i n vs es hl2 hd
    obtain ⟨a, xs, rfl, hm, hx, pr⟩ := loc_at g2 (VRp.step g1 s2 r1) hl2
    obtain ⟨b, ys, rfl, hb, ry⟩ := (DrT.of g2 (fr1.step g1 s2) r2 hd).lst
    by_cases hc : vs.length + es.length ≤ SL
    · rw [if_pos hc] at q2
      obtain ⟨g3, s3⟩ := g2.wrt hm (Paired.app pr (rp_dats ry))
      exact ⟨a, b, xs, ys, rfl, rfl, hx, hb, by rw [Paired.length pr, ry.length, sl_eq]; exact hc, q2 Y2 _ .non s3 g3 (show Rp X.K Y2.F _ .non .none from .non)⟩
    · rw [if_neg hc] at q2; exact False.elim q2
def eLAp (fo f : Ex Val) : Ex Val := fun st M => (fo st M).bind fun o M1 => if isLoc M1 o = true then (f st M1).bind fun v M2 => match locOf M2 o with
  | some (n, vs) => if noSlot v = true ∧ vs.length < SL then .ok (.dat .none) (M2.set n (.lst (vs ++ [v]))) else .err
  | none => .err else .err
theorem se_lapp {apos cpos : Pos} {fo f : Ex Val} (ho : SE X P o fo) (he : SE X P e f) (hs : starEach [e] X.env = (false, eval e X.env) :: starEach [] X.env := by rfl) (hbase : attributeBase o "append" X.env (eval o X.env) = eval o X.env := by rfl)
    (hfew : ((backTo cpos (starEach [e] X.env)).all (fun x => !x.1) && (backToKw cpos (keywordEach [] X.env)).all (fun x => x.1.isSome) && decide ([e].length + ([] : List Keyword).length + (if ([] : List Keyword).isEmpty then 0 else 1) < 30)) = true := by rfl)
    (hline : (apos.endLine == cpos.line) = true := by rfl) (hplain : (backTo cpos (starEach [] X.env)).any (·.1) = false := by rfl) : SE X P (.Call (.Attribute o "append" apos) [e] [] cpos) (eLAp fo f) := by
  refine PE.imp (pe_bm PySem.F.plainAttrs_list PySem.F.slot_list_append PySem.F.type_list_append mt_append ho (pa_cons he pa_nil hs) hbase hfew hline hs hplain) fun σ H Q h => ?_
  obtain ⟨Y, M, st, g0, fr, h⟩ := h
  refine ⟨Y, M, st, g0, fr, Post.bind (R1 := RV X.K) shV h fun va M1 Y1 H1 x _ s1 g1 r1 q1 => ?_⟩
  have fr1 := fr.step g0 s1
  cases hl : isLoc M1 va with
  | false => rw [hl] at q1; exact False.elim q1
  | true =>
    rw [hl, if_pos rfl] at q1
    refine ⟨loc_ty g1 r1 hl, Y1, M1, st, g1, fr1, Post.bind (R1 := RV X.K) shV q1 fun v M2 Y2 H2 y _ s2 g2 r2 q2 => ?_⟩
    split at q2
    case h_2 => exact False.elim q2
    rename_i n vs hl2
    obtain ⟨a, xs, rfl, hm, hx, pr⟩ := loc_at g2 (VRp.step g1 s2 r1) hl2
    by_cases hc : noSlot v = true ∧ vs.length < SL
    · rw [if_pos hc] at q2
      obtain ⟨g3, s3⟩ := g2.wrt hm (Paired.app pr (.cons (VRp.v0 r2 hc.1) .nil))
      exact ⟨a, xs, y, rfl, rfl, hx, by rw [Paired.length pr, sl_eq]; exact hc.2, q2 Y2 _ .non s3 g3 (show Rp X.K Y2.F _ .non .none from .non)⟩
    · rw [if_neg hc] at q2; exact False.elim q2
/-- o[i] = v, o shared -/
def tmLSet (f fo fi : Ex Val) : Tm := tX (fun st M => (f st M).bind fun v M1 => (fo st M1).bind fun o M2 => (fi st M2).bind fun i M3 => match locOf M3 o, intOf i with
  | some (n, vs), some k => match ixN vs.length k with
    | some j => if noSlot v = true then .ok (Val.dat .none) (M3.set n (.lst (vs.set j v))) else .err
    | none => .err
  | _, _ => .err) fun _ st M => some (.nx, st, M)
theorem s1_lset {i : Expr} {spos : Pos} {f fo fi : Ex Val} (he : SE X P e f) (ho : SE X P o fo) (hi : SE X P i fi) (ha : ∀ v, assign (.Subscript o i spos) X.env v = (do
      let ov ← holding [v] (eval o X.env)
      let iv ← holding [v, ov] (eval i X.env)
      standAt spos
      holding [v, ov, iv] (setItem ov iv v)
      release [v, ov, iv] []) := by intro _; rfl) (hs : swapsWithSole [.Subscript o i spos] e pos.line X.env = pure false := by rfl) (hw : swappedStores [.Subscript o i spos] e X.env = pure none := by rfl)
    (h1 : (assignEach [.Subscript o i spos] X.env).map (·.2) = [assign (.Subscript o i spos) X.env] := by rfl) : S1 X P (.Assign [.Subscript o i spos] e pos) (tmLSet f fo fi) := by
  refine PS.imp (ps_asg he (pg_sub ho hi set_list ha) hs hw h1) fun D σ H h => ?_
  obtain ⟨Y0, H0, bs, Y, M, st, r, h⟩ := h
  have h := rn_x (R := RV X.K) (N := fun _ H1 => D.nx σ H1) r h fun a M' Y' H' x r' s ra h' => h' Y' H' σ r'
  obtain ⟨Y, M, st, g0, fr, h⟩ := h
  refine ⟨Y, M, st, g0, fr, Post.bind (R1 := RV X.K) shV h fun v M1 Y1 H1 x _ s1 g1 r1 q1 => ?_⟩
  have fr1 := fr.step g0 s1
  refine ⟨Y1, M1, st, g1, fr1, Post.bind (R1 := RV X.K) shV q1 fun vo M2 Y2 H2 xo _ s2 g2 r2 q2 => ?_⟩
  have fr2 := fr1.step g1 s2
  refine ⟨Y2, M2, st, g2, fr2, Post.bind (R1 := RV X.K) shV q2 fun vi M3 Y3 H3 xi _ s3 g3 r3 q3 => ?_⟩
  split at q3
  case h_2 => exact False.elim q3
  rename_i n vs k hl2 hk
  cases intOf_some hk
  cases VRp.int r3
  obtain ⟨a, xs, rfl, hm, hx, pr⟩ := loc_at g3 (VRp.step g2 s3 r2) hl2
  split at q3
  case h_2 => exact False.elim q3
  rename_i j hj
  by_cases hc : noSlot v = true
  · rw [if_pos hc] at q3
    have rv := VRp.v0 (VRp.step g2 s3 (VRp.step g1 s2 r1)) hc
    obtain ⟨g4, s4⟩ := g3.wrt hm (Paired.set' rv pr j)
    exact ⟨a, xs, k, j, rfl, rfl, hx, by rw [Paired.length pr]; exact hj, q3 Y3 _ .non s4 g4 (show Rp X.K Y3.F _ .non .none from .non)⟩
  · rw [if_neg hc] at q3; exact False.elim q3
end
end Mn

set_option Elab.async false
set_option linter.all false
set_option maxRecDepth 100000
set_option maxHeartbeats 4000000
namespace Mn
open PySem PySem.Spec PyProof.Rows L2

section
variable {K : PySem.W.Frag} {P : Pm} {Y0 Y Y' : Wd} {H0 H H' : Hp} {bs : Bs} {b : Wd × Hp} {st st' : MSt} {M M' : MH} {σ σ' : L2.St} {D : Ends}
theorem SR.less (r : SR K Y0 H0 (b :: bs) Y H st M σ) : SR K Y0 H0 bs Y H st M σ := ⟨r.gr, r.fr, r.yo, r.s0, fun c hc => r.wk c (List.mem_cons_of_mem _ hc), fun c hc => r.mm c (List.mem_cons_of_mem _ hc)⟩
theorem SR.more (r : SR K Y0 H0 bs Y H st M σ) {Y1 : Wd} {H1 : Hp} (w : Wk Y1.F Y.F H1 H) (m : ∀ n a, Y1.m n = some a → Y.m n = some a) : SR K Y0 H0 ((Y1, H1) :: bs) Y H st M σ := ⟨r.gr, r.fr, r.yo, r.s0, fun c hc => by
  rcases List.mem_cons.mp hc with rfl | hc
  · exact w
  · exact r.wk c hc, fun c hc => by
  rcases List.mem_cons.mp hc with rfl | hc
  · exact m
  · exact r.mm c hc⟩
end
section
variable {X : Cx} {P : Pm} {pos : Pos} {ss : List Stmt}
/-- the turns of a for over what stays -/
theorem for_mw {J : It} {ds : List PyData} {ws : List Nat} {g : Tgt} {b : Tm} {Y0 Y1 : Wd} {H0 H1 : Hp} {bs : Bs} {st : MSt} {M1 : MH} {σ : L2.St} {D : Ends} (mw : MW X.K J ds Y1 H1) (r1 : SR X.K Y0 H0 bs Y1 H1 st M1 σ) (h1 : PoS X.K P Y0 H0 bs D (foGo g b ds st M1)) :
    ∃ W : Nat → Nat → L2.St → Hp → Prop, (∃ m, W 0 m σ H1) ∧ ∀ i m σ H, W i m σ H → (J.stop i H ∧ D.nx σ H) ∨ (J.go i H ∧ ∃ N : L2.St → Hp → Prop, (∀ σ' H', N σ' H' → ∃ m', m' < m ∧ W (i + 1) m' σ' H') ∧
      ∀ x H', J.yld i H x H' → tgR X.K ws g x σ H' fun σ2 H2 => RnS X.K P b { D with nx := N, ct := N, bk := D.nx } σ2 H2) := by
  obtain ⟨G, Yd, w, hG, hY⟩ := mw
  refine for_it w (fun i σ2 H2 => ∃ Y2 M2 st2, SR X.K Y0 H0 bs Y2 H2 st2 M2 σ2 ∧ Wk Y1.F Y2.F H1 H2 ∧ (∀ n a, Y1.m n = some a → Y2.m n = some a) ∧ PoS X.K P Y0 H0 bs D (foGo g b (ds.drop i) st2 M2)) ⟨Y1, M1, st, r1, Wk.refl _ _, fun _ _ e => e, h1⟩ (fun i σ2 H2 hi pv => ?_) (fun i x σ2 H2 H3 hi pv y => ?_) (fun σ2 H2 pv => ?_)
  · obtain ⟨Y2, M2, st2, r2, wk, _, _⟩ := pv
    exact hG Y2.F H2 wk
  · obtain ⟨Y2, M2, st2, r2, wk, mm, h2⟩ := pv
    obtain ⟨d, hd⟩ : ∃ d, ds[i]? = some d := ⟨ds[i], List.getElem?_eq_getElem hi⟩
    obtain ⟨s3, g3, r3⟩ := hY Y2 M2 H2 i x H3 d wk r2.gr hi y hd
    have dr : ds.drop i = d :: ds.drop (i + 1) := by
      have e := List.drop_eq_getElem_cons hi
      rw [e]
      rw [List.getElem?_eq_getElem hi] at hd
      rw [Option.some.inj hd]
    have rr := r2.step s3 g3
    have wk3 := wk.trans (s3.wk r2.gr)
    rw [dr] at h2
    have h2 : PoS X.K P Y0 H0 bs D (match g (.v (.dat d)) st2 with
      | none => none
      | some st1 => match b st1 M2 with
        | some (.nx, st2, M2) => foGo g b (ds.drop (i + 1)) st2 M2
        | some (.cont, st2, M2) => foGo g b (ds.drop (i + 1)) st2 M2
        | some (.brk, st2, M2) => some (.nx, st2, M2)
        | o => o) := h2
    cases eg : g (.v (.dat d)) st2 with
    | none => rw [eg] at h2; exact False.elim h2
    | some st1 =>
      rw [eg] at h2
      simp only at h2
      refine ⟨Y2, M2, H0, st2, .v (.dat d), st1, rr.gr, rr.fr, rr.yo, r3, eg, fun σ3 as => ⟨Y0, H0, (Y1, H1) :: bs, Y2, M2, st1, (as.sr rr).more wk3 mm, ?_⟩⟩
      have back : ∀ {Y' : Wd} {H' : Hp} {σ' : L2.St} {st4 : MSt} {M4 : MH}, SR X.K Y0 H0 ((Y1, H1) :: bs) Y' H' st4 M4 σ' → PoS X.K P Y0 H0 bs D (foGo g b (ds.drop (i + 1)) st4 M4) → _ := fun {Y' H' σ' st4 M4} r' h => (⟨Y', M4, st4, r'.less, r'.wk (Y1, H1) (List.mem_cons_self ..), r'.mm (Y1, H1) (List.mem_cons_self ..), h⟩ : ∃ Y2 M2 st2, SR X.K Y0 H0 bs Y2 H' st2 M2 σ' ∧ Wk Y1.F Y2.F H1 H' ∧ (∀ n a, Y1.m n = some a → Y2.m n = some a) ∧ PoS X.K P Y0 H0 bs D (foGo g b (ds.drop (i + 1)) st2 M2))
      cases eb : b st1 M2 with
      | none => rw [eb] at h2; exact False.elim h2
      | some z =>
        obtain ⟨fl, st4, M4⟩ := z
        rw [eb] at h2
        cases fl with
        | nx => exact fun Y' H' σ' r' => back r' h2
        | cont => exact fun Y' H' σ' r' => back r' h2
        | brk => exact fun Y' H' σ' r' => h2 Y' H' σ' r'.less
        | ret s => exact h2
        | exc ex => exact fun Y' H' σ' c d r' er => h2 Y' H' σ' c d r'.less er
  · obtain ⟨Y2, M2, st2, r2, wk, mm, h2⟩ := pv
    rw [List.drop_length] at h2
    exact h2 Y2 H2 σ2 r2
/-- for .. in .. -/
theorem s1_for {tg iter : Expr} {it : Ex (List PyData)} {ws : List Nat} {g : Tgt} {b : Tm} (hp : PassesOwn (model X.prog X.w) X.A X.env X.xe) (hc : X.calm = true) (hi : SI X P tg iter it) (hg : SG X tg ws g) (hb : SS X P ss b)
    (hs : ∀ x, foldedSetIterable iter X.env x = pure x := by intro _; rfl) : S1 X P (.For tg iter ss [] pos) (tmFor it g b) := PS.imp (ps_for hp hc hi hg hb hs) fun D σ H h => by
  obtain ⟨Y0, H0, bs, Y, M, st, r, h⟩ := h
  exact rn_x (R := RI X.K) r h fun ds M1 Y1 H1 J r1 s1 mw h1 => for_mw mw r1 h1
/-- for .. in a list, a tuple, or a shared list -/
def foL (n : Nat) (g : Tgt) (b : Tm) : Nat → Nat → Tm
  | 0, _ => tmNo
  | k + 1, i => fun st M => match lstAt M n with
    | none => none
    | some vs => match vs[i]? with
      | none => some (.nx, st, M)
      | some v => if noSlot v = true then match g (.v v) st with
        | none => none
        | some st1 => match b st1 M with
          | some (.nx, st2, M2) => foL n g b k (i + 1) st2 M2
          | some (.cont, st2, M2) => foL n g b k (i + 1) st2 M2
          | some (.brk, st2, M2) => some (.nx, st2, M2)
          | o => o
        else none
def foA (k : Nat) (g : Tgt) (b : Tm) : Val → Tm
  | .dat d => match seqOf d with
    | some ds => foGo g b ds
    | none => tmNo
  | .loc n => fun st M => if (lstAt M n).isSome = true then foL n g b k 0 st M else none
  | _ => tmNo
def tmForA (k : Nat) (f : Ex Val) (g : Tgt) (b : Tm) : Tm := tX f (foA k g b)
theorem s1_forA (k : Nat) {tg iter : Expr} {f : Ex Val} {ws : List Nat} {g : Tgt} {b : Tm} (hp : PassesOwn (model X.prog X.w) X.A X.env X.xe) (hc : X.calm = true) (he : SE X P iter f) (hg : SG X tg ws g) (hb : SS X P ss b)
    (hs : ∀ x, foldedSetIterable iter X.env x = pure x := by intro _; rfl) : S1 X P (.For tg iter ss [] pos) (tmForA k f g b) := PS.imp (ps_for hp hc (pi_any he) hg hb hs) fun D σ H h => by
  obtain ⟨Y0, H0, bs, Y, M, st, r, h⟩ := h
  refine rn_x (R := RV X.K) r h fun v M1 Y1 H1 x r1 s1 rv h1 => ?_
  cases v with
  | slot _ => exact False.elim h1
  | ro _ => exact False.elim h1
  | dat d =>
    have h1 : PoS X.K P Y0 H0 bs D ((match seqOf d with | some ds => foGo g b ds | none => tmNo) st M1) := h1
    have sq := seq_w rv (show datV (.dat d) = some d from rfl)
    cases e : seqOf d with
    | none => rw [e] at h1; exact False.elim h1
    | some ds =>
      rw [e] at h1
      rcases seqOf_some e with rfl | rfl
      · obtain ⟨a, xs, rfl, rx, hs⟩ := sq.1 ds rfl
        exact ⟨a, rfl, .inl ⟨xs, hs _ _ (Wk.refl _ _), for_mw (mw_of rx.length walk_list rx hs) r1 h1⟩⟩
      · obtain ⟨a, xs, rfl, rx, hs⟩ := sq.2 ds rfl
        exact ⟨a, rfl, .inr ⟨xs, hs _ _ (Wk.refl _ _), for_mw (mw_of rx.length walk_tup rx hs) r1 h1⟩⟩
  | loc n =>
    obtain ⟨a, rfl, hm⟩ := rv
    have h1 : PoS X.K P Y0 H0 bs D (if (lstAt M1 n).isSome = true then foL n g b k 0 st M1 else none) := h1
    cases h0 : lstAt M1 n with
    | none => rw [h0] at h1; exact False.elim h1
    | some vs0 =>
    rw [h0, if_pos (show (some vs0).isSome = true from rfl)] at h1
    obtain ⟨xs0, hx0, _⟩ := lstAt_at r1.gr hm h0
    refine ⟨a, rfl, .inl ⟨xs0, SqL.of hx0, fun i m σ2 H2 => ∃ Y2 M2 st2, SR X.K Y0 H0 bs Y2 H2 st2 M2 σ2 ∧ Y2.m n = some a ∧ PoS X.K P Y0 H0 bs D (foL n g b m i st2 M2), ⟨k, Y1, M1, st, r1, hm, h1⟩, fun i m σ2 H2 hw => ?_⟩⟩
    obtain ⟨Y2, M2, st2, r2, hm2, h2⟩ := hw
    cases m with
    | zero => exact False.elim h2
    | succ m =>
      have h2 : PoS X.K P Y0 H0 bs D (match lstAt M2 n with
        | none => none
        | some vs => match vs[i]? with
          | none => some (.nx, st2, M2)
          | some v => if noSlot v = true then match g (.v v) st2 with
            | none => none
            | some st1 => match b st1 M2 with
              | some (.nx, st2, M2) => foL n g b m (i + 1) st2 M2
              | some (.cont, st2, M2) => foL n g b m (i + 1) st2 M2
              | some (.brk, st2, M2) => some (.nx, st2, M2)
              | o => o
            else none) := h2
      cases hn : lstAt M2 n with
      | none => rw [hn] at h2; exact False.elim h2
      | some vs =>
          rw [hn] at h2
          simp only at h2
          obtain ⟨xs, hx, pr⟩ := lstAt_at r2.gr hm2 hn
          have hq : SqL X.K H2 a xs := SqL.of hx
          cases hv : vs[i]? with
          | none =>
            rw [hv] at h2
            have hi : xs.length ≤ i := by rw [Paired.length pr]; exact List.getElem?_eq_none_iff.mp hv
            exact .inl ⟨⟨xs, hq, hi⟩, h2 Y2 H2 σ2 r2⟩
          | some v =>
            rw [hv] at h2
            simp only at h2
            obtain ⟨y, hy, ry⟩ := Paired.get pr hv
            by_cases hns : noSlot v = true
            · rw [if_pos hns] at h2
              refine .inr ⟨⟨xs, y, hq, hy⟩, fun σ' H' => ∃ Y2 M2 st2, SR X.K Y0 H0 bs Y2 H' st2 M2 σ' ∧ Y2.m n = some a ∧ PoS X.K P Y0 H0 bs D (foL n g b m (i + 1) st2 M2), fun σ' H' nx => ⟨m, Nat.lt_succ_self m, nx⟩, fun x H' yl => ?_⟩
              obtain ⟨rfl, yl⟩ := yl
              have ex := yl xs hq
              rw [hy] at ex
              cases ex
              cases eg : g (.v v) st2 with
              | none => rw [eg] at h2; exact False.elim h2
              | some st1 =>
                rw [eg] at h2
                simp only at h2
                refine ⟨Y2, M2, H0, st2, .v v, st1, r2.gr, r2.fr, r2.yo, ry, eg, fun σ3 as => ⟨Y0, H0, (Y2, _) :: bs, Y2, M2, st1, (as.sr r2).more (Wk.refl _ _) (fun _ _ e => e), ?_⟩⟩
                cases eb : b st1 M2 with
                | none => rw [eb] at h2; exact False.elim h2
                | some z =>
                  obtain ⟨fl, st4, M4⟩ := z
                  rw [eb] at h2
                  cases fl with
                  | nx => exact fun Y' H' σ' r' => ⟨Y', M4, st4, r'.less, r'.mm _ (List.mem_cons_self ..) n a hm2, h2⟩
                  | cont => exact fun Y' H' σ' r' => ⟨Y', M4, st4, r'.less, r'.mm _ (List.mem_cons_self ..) n a hm2, h2⟩
                  | brk => exact fun Y' H' σ' r' => h2 Y' H' σ' r'.less
                  | ret s => exact h2
                  | exc ex => exact fun Y' H' σ' c d r' er => h2 Y' H' σ' c d r'.less er
            · rw [if_neg hns] at h2; exact False.elim h2
/-- while -/
theorem s1_while (n : Nat) {c : Expr} {fc : Ex Bool} {b : Tm} (hp : PassesOwn (model X.prog X.w) X.A X.env X.xe) (hc : ST X P c fc) (hb : SS X P ss b) : S1 X P (.While c ss [] pos) (whGo fc b n) := PS.imp (ps_while hp hc hb) fun D σ H h => by
  obtain ⟨Y0, H0, bs, Y, M, st, r, h⟩ := h
  refine ⟨fun m σ H => ∃ Y M st, SR X.K Y0 H0 bs Y H st M σ ∧ PoS X.K P Y0 H0 bs D (whGo fc b m st M), ⟨n, Y, M, st, r, h⟩, fun m σ2 H2 hw => ?_⟩
  obtain ⟨Y2, M2, st2, r2, h2⟩ := hw
  cases m with
  | zero => exact False.elim h2
  | succ m =>
    refine ⟨Y2, M2, st2, r2.gr, r2.fr, ?_⟩
    rw [whGo] at h2
    cases ec : fc st2 M2 with
    | exc ex M3 =>
      rw [ec] at h2
      exact fun Y3 H3 c d s g er => h2 Y3 H3 σ2 c d (r2.step s g) er
    | err => rw [ec] at h2; exact h2
    | ok k M3 =>
      rw [ec] at h2
      intro Y3 H3 k' s3 g3 rb
      cases (show k' = k from rb)
      have r3 := r2.step s3 g3
      cases k with
      | false => exact h2 Y3 H3 σ2 r3
      | true =>
        rw [if_pos rfl]
        simp only at h2
        refine ⟨fun σ' H' => ∃ Y M st, SR X.K Y0 H0 bs Y H' st M σ' ∧ PoS X.K P Y0 H0 bs D (whGo fc b m st M), fun σ' H' nx => ⟨m, Nat.lt_succ_self m, nx⟩, Y0, H0, bs, Y3, M3, st2, r3, ?_⟩
        cases eb : b st2 M3 with
        | none => rw [eb] at h2; exact False.elim h2
        | some z =>
          obtain ⟨fl, st4, M4⟩ := z
          rw [eb] at h2
          cases fl with
          | nx => exact fun Y' H' σ' r' => ⟨Y', M4, st4, r', h2⟩
          | cont => exact fun Y' H' σ' r' => ⟨Y', M4, st4, r', h2⟩
          | brk => exact h2
          | ret s => exact h2
          | exc ex => exact h2
end

/-! ### a def by its body -/
def fnM (np ns : Nat) (f : Tm) : List Val → MH → Out Sl := fun vs M => if vs.length = np then match f (vs.map (fun v => some (.v v)) ++ List.replicate (ns - np) none) M with
  | some (.ret s, _, M') => .ok s M'
  | some (.nx, _, M') => .ok (.v (.dat .none)) M'
  | some (.exc e, _, M') => .exc e M'
  | _ => .err else .err
theorem fnM_arity {np ns : Nat} {f : Tm} : ArityN np (fnM np ns f) := fun vs M h => by
  unfold fnM
  rw [if_neg h]
theorem fr_start {K : PySem.W.Frag} {Y : Wd} {H : Hp} {xs : List V} {vs : List Val} (h : Paired (VR0 K Y H) xs vs) (N : List Str) : FR K Y (vs.map (fun v => some (.v v)) ++ List.replicate (N.length - vs.length) none) H (L2.start N xs) := by
  have hl := Paired.length h
  have get : ∀ {i : Nat} {s : Sl}, (vs.map (fun v => some (Sl.v v)) ++ List.replicate (N.length - vs.length) none)[i]? = some (some s) → ∃ v, s = .v v ∧ vs[i]? = some v := fun {i s} e => by
    by_cases hi : i < vs.length
    · rw [List.getElem?_append_left (by simpa using hi), List.getElem?_map] at e
      rw [List.getElem?_eq_getElem hi] at e ⊢
      cases e
      exact ⟨_, rfl, rfl⟩
    · rw [List.getElem?_append_right (by simpa using hi), List.getElem?_replicate] at e
      split at e
      · cases e
      · cases e
  refine ⟨?_, fun i x e => ?_, fun i ds e => ?_, fun i j ds es a e1 _ _ _ => ?_⟩
  · unfold L2.start
    simp [hl]
  · obtain ⟨v, h1, h2⟩ := get e
    cases h1
    obtain ⟨u, hu, ru⟩ := Paired.get h h2
    refine ⟨u, ?_, ru⟩
    unfold L2.start
    rw [List.getElem?_append_left (by rw [List.length_map]; exact (List.getElem?_eq_some_iff.mp hu).1), List.getElem?_map, hu]
    rfl
  · obtain ⟨v, h1, _⟩ := get e
    cases h1
  · obtain ⟨v, h1, _⟩ := get e1
    cases h1
/-- no exception is let out -/
abbrev Pm0 : Pm := ⟨fun _ _ _ _ => False, fun _ _ _ _ => False⟩
theorem hx0 {X : Cx} (σ : L2.St) : PassesAt (L2.CX X.prog X.w) X σ (WE Pm0.Wx σ) := passAt (fun _ _ x => by
  obtain ⟨_, _, _, _, _, _, _, _, _, _, _, _, _, _, _, _, z⟩ := x
  exact z.elim) σ
section
variable {P : Program} {w : World} {K : PySem.W.Frag} {mg : Str → Option Value} {base : Heap} {CX : CXT} {f : Addr} {ps : List Str}
theorem fnG0 {k : Nat} {nm qn : Str} {pars : Arguments} {bd : List Stmt} {sco : Scope} {dV kV dc pm cdv ct oc : Value} {an od : Option Addr} {osl : Array (Option Value)} {N : List Str} {tb : Tm}
    (hf : K.lookup f = some ⟨oc, od, .func (PySem.W.fnOf nm qn pars bd sco dV kV dc pm an cdv ct), osl⟩) (hcode : PySem.W.codeIn K cdv qn = true) (S : FnScope N ps sco)
    (hb : ∀ (B : Around) (out : List Env) (s : Shared) (H : Hp) (E : XK), (B.deeper (envOfC qn sco s.heap.objs.size f cdv)).guards = some [] → Room k (B.deeper (envOfC qn sco s.heap.objs.size f cdv)) →
      SS (cxOf CX P w K mg base N qn sco f cdv B out s H E).nox Pm0 bd tb) :
    FnG P w K mg base CX (k + 1) f (PySem.W.fnOf nm qn pars bd sco dV kV dc pm an cdv ct) ps (spM K Pm0.ER ps.length (fnM ps.length N.length tb)) := by
  refine fnG_of hf hcode S (fun _ _ _ _ h => h.1) fun B out s H vs Q E hg hr hs => ⟨_, PSs.nox (hb B out s H E hg hr), ?_⟩
  obtain ⟨hl, Y, M, as, g0, pr, hs⟩ := hs
  have hla := Paired.length pr
  refine ⟨Y, H, [], Y, M, _, ⟨g0, fr_start pr N, fun i ds a e1 _ => ?_, Step.refl Y H, (fun _ hb => by cases hb), fun _ hb => by cases hb⟩, ?_⟩
  · exfalso
    by_cases hi : i < as.length
    · rw [List.getElem?_append_left (by simpa using hi), List.getElem?_map, List.getElem?_eq_getElem hi] at e1
      cases e1
    · rw [List.getElem?_append_right (by simpa using hi), List.getElem?_replicate] at e1
      split at e1
      · cases e1
      · cases e1
  · unfold fnM at hs
    rw [if_pos (show as.length = ps.length by omega)] at hs
    rw [show N.length - as.length = N.length - ps.length by omega]
    cases e : tb (as.map (fun v => some (.v v)) ++ List.replicate (N.length - ps.length) none) M with
    | none => rw [e] at hs; exact hs
    | some z =>
      obtain ⟨fl, st', M'⟩ := z
      rw [e] at hs
      cases fl with
      | nx => exact fun Y' H' σ' r' => hs Y' H' .non r'.s0 r'.gr (show Rp K Y'.F H' .non .none from .non)
      | ret s => exact hs
      | brk => exact False.elim hs
      | cont => exact False.elim hs
      | exc ex => exact fun Y' H' σ' c d r' er => er
end
end Mn

set_option Elab.async false
set_option linter.all false
set_option maxRecDepth 100000
set_option maxHeartbeats 4000000
namespace Mn
open PySem PySem.Spec PyProof.Rows L2

/-! ### a law's end -/
theorem not_in_nil {b : Addr} (h : b ∈ ([] : List Addr)) : False := by cases h
section
variable {P : Program} {w : World} {K : PySem.W.Frag} {mg mb : Str → Option Value} {k : Nat} {fa a : Addr} {fd : FuncData} {x : Str} {sp : Sp} {s1 : Shared} {vs : List Value} {ns : List Int}
/-- the call in the caller's room, by an abstract heap that tracks nothing but the script -/
theorem lawG_core (KX : K.In s1.heap) (hns : s1.heap.Ns mainGlobals mg) (hb : s1.heap.Ns builtinsNs mb) (hbb : ∀ y : Str, y ≠ "__name__" → mb y = bootBuiltins y) (hlim : s1.heap.NoLimit) (hg : s1.gens = #[])
    (ha : s1.heap.get? a = some { cls := .type "list", data := .seq vs.toArray }) (hr : Room k callerA) (F : ∀ base : Heap, K.In base → base.Ns mainGlobals mg → FnG P w K mg base (L2.CX P w) k fa fd [x] sp)
    (hbind : ∀ (s : Shared) (u : Value), BindsTo s fd ⟨[u], []⟩ [(x, u)]) (H : Hp) (hO : Only H) (hsp : sp [.ref a] H (fun v _ => v = .bl true) fun _ _ _ => False) (hok : HOk P w H s1.heap) (hA : ∀ b, H b ≠ none → b = a) (hK : H a ≠ none → K.lookup a = none) :
    codeAny (model P w) callerA (.call (.ref fa) ⟨[.ref a], []⟩) (fun r s' => r = .ok (.ret (.bool true)) ∧ OldK s1.heap s'.heap ∧ s'.os = s1.os ∧ AllBare s'.gens) s1 := by
  have at_a : ∀ {b : Addr} {u : HO}, H b = some u → b = a := fun {b u} q => hA b (by rw [q]; intro z; cases z)
  have notDict : ∀ {b : Addr} {o : Obj} {es : Array DictEntry} {ep : Nat}, s1.heap.get? b = some o → o.data = .dict es ep → H b = none := fun {b o es ep} e d => by
    cases q : H b with
    | none => rfl
    | some u =>
      cases at_a q
      rw [ha] at e
      cases e
      exact absurd (show Data.seq vs.toArray _ = Data.dict es ep from d) (fun z => by cases z)
  have names : ∀ {b : Addr} {m : Str → Option Value}, s1.heap.Ns b m → (hidT s1.heap H).Ns b m := fun {b m} q => by
    obtain ⟨o, es, ep, e, d, r⟩ := q
    exact ⟨o, es, ep, hidT_get e (notDict e d), d, r⟩
  have kin : K.In (hidT s1.heap H) := fun b o e => by
    refine hidT_get (KX b o e) ?_
    cases q : H b with
    | none => rfl
    | some u =>
      cases at_a q
      rw [hK (by rw [q]; intro z; cases z)] at e
      cases e
  obtain ⟨mc, c1, c2⟩ := hlim
  have env0 : Env0 P w K mg (hidT s1.heap H) callerA [] s1 H :=
    ⟨rfl, ⟨kin, names hns, ⟨mb, names hb, hbb⟩, ⟨mc, names c1, c2⟩⟩, fun b o e => of_hidT e, Nat.le_of_eq (hidT_size _ _), trivial, fun b q => (not_in_nil q).elim, hok, .of_eq hg⟩
  have run := (F _ kin (names hns)).go callerA [] s1 H ⟨[.ref a], []⟩ [.ref a] [.ref a] _ _ rfl hr env0 (hbind s1 (.ref a)) (.cons rfl .nil) hsp
  refine codeAny_mono run fun r s' back => ?_
  cases r with
  | error e =>
    obtain ⟨_, _, _, _, _, _, _, _, _, _, _, _, no⟩ := (show L2.CX P w [] H s1 (fun _ _ _ => False) e s' from back)
    exact no.elim
  | ok fl =>
    cases fl with
    | next => exact back.elim
    | brk => exact back.elim
    | cont => exact back.elim
    | ret u =>
      obtain ⟨v, H', os, bare, un, hok', rv, q⟩ := back
      cases (show v = .bl true from q)
      cases (show u = Value.bool true from rv)
      refine ⟨rfl, OldK.of_keep fun b o e => ?_, os, bare⟩
      cases q : H b with
      | none => exact un.keep b o e q not_in_nil not_in_nil
      | some t =>
        rcases hO b with z | ⟨ob, xs, z⟩
        · rw [q] at z
          cases z
        · obtain ⟨old, _⟩ := hok b _ z
          obtain ⟨now, _⟩ := hok' b _ (un.frzs b ob _ z)
          rw [e] at old
          cases old
          exact now
theorem lawG (KX : K.In s1.heap) (hns : s1.heap.Ns mainGlobals mg) (hb : s1.heap.Ns builtinsNs mb) (hbb : ∀ y : Str, y ≠ "__name__" → mb y = bootBuiltins y) (hlim : s1.heap.NoLimit) (hg : s1.gens = #[])
    (ha : s1.heap.get? a = some { cls := .type "list", data := .seq vs.toArray }) (hi : IntsAre vs ns) (hl : ns.length ≤ sizeLine) (hr : Room k callerA) (F : ∀ base : Heap, K.In base → base.Ns mainGlobals mg → FnG P w K mg base (L2.CX P w) k fa fd [x] sp)
    (hbind : ∀ (s : Shared) (u : Value), BindsTo s fd ⟨[u], []⟩ [(x, u)]) (hsp : ∀ H : Hp, Only H → SqL K H a (ns.map V.int) → sp [.ref a] H (fun v _ => v = .bl true) fun _ _ _ => False) :
    codeAny (model P w) callerA (.call (.ref fa) ⟨[.ref a], []⟩) (fun r s' => r = .ok (.ret (.bool true)) ∧ OldK s1.heap s'.heap ∧ s'.os = s1.os ∧ AllBare s'.gens) s1 := by
  have rv := vals_ints hi
  have none_not : ∀ {b : Addr} {u : HO}, (none : Option HO) = some u → False := fun z => by cases z
  cases hk : K.lookup a with
  | some o =>
    have e := KX a o hk
    rw [ha] at e
    cases e
    have sq : SqL K (fun _ => none) a (ns.map V.int) := .inr ⟨_, vs.toArray, _, hk, rfl, rfl, rfl, by rw [List.size_toArray, hi.length]; exact hl, by simpa using rv⟩
    exact lawG_core KX hns hb hbb hlim hg ha hr F hbind (fun _ => none) (fun _ => .inl rfl) (hsp _ (fun _ => .inl rfl) sq) (fun b u z => (none_not (b := b) z).elim) (fun b z => absurd rfl z) fun z => absurd rfl z
  | none =>
    generalize ho : ({ cls := .type "list", data := .seq vs.toArray } : Obj) = ob at ha
    have on : Only (fun b => if b = a then some (.frz ob (.lst (ns.map V.int))) else none) := fun b => by
      by_cases e : b = a
      · exact .inr ⟨_, _, if_pos e⟩
      · exact .inl (if_neg e)
    have sq : SqL K (fun b => if b = a then some (.frz ob (.lst (ns.map V.int))) else none) a (ns.map V.int) := .inl (.inr ⟨ob, if_pos rfl⟩)
    refine lawG_core KX hns hb hbb hlim hg (by rw [ho]; exact ha) hr F hbind _ on (hsp _ on sq) (fun b u z => ?_) (fun b z => ?_) fun _ => hk
    · have z : (if b = a then some (HO.frz ob (.lst (ns.map V.int))) else none) = some u := z
      by_cases e : b = a
      · rw [if_pos e] at z
        cases z
        subst e
        exact ⟨ha, by rw [List.length_map]; exact hl, vs, _, rv, by rw [ha, ← ho]⟩
      · rw [if_neg e] at z
        exact (none_not (b := b) z).elim
    · by_cases e : b = a
      · exact e
      · exact absurd (if_neg e) z
end
/-- the script, as the law is told it -/
theorem script_sp {K : PySem.W.Frag} {g : List Val → MH → Out Sl} {H : Hp} {a : Addr} {ns : List Int} (hO : Only H) (hS : SqL K H a (ns.map V.int)) (hg : ∃ M', g [.ro (ns.map .int)] [] = .ok (.v (.dat (.bool true))) M') :
    spM K Pm0.ER 1 g [.ref a] H (fun v _ => v = .bl true) fun _ _ _ => False := by
  obtain ⟨M', e⟩ := hg
  refine ⟨rfl, ⟨fun _ => none, fun _ => False⟩, [], [.ro (ns.map .int)], ⟨fun n o q => by simp at q, fun n b q => (by cases q), fun i j b q => (by cases q), fun b q => q.elim, fun n b q => (by cases q)⟩, .cons ⟨a, ns.map V.int, rfl, ?_, RpA.ints⟩ .nil, ?_⟩
  · rcases hS with (h | ⟨o, h⟩) | h
    · rcases hO a with z | ⟨o, xs, z⟩
      · rw [h] at z; cases z
      · rw [h] at z; cases z
    · exact .inl ⟨o, h⟩
    · exact .inr (.inr h)
  · rw [e]
    intro Y' H' x _ _ r
    cases (show Rp K Y'.F H' x (.bool true) from r)
    rfl
theorem walkM {l : PySem.W.OpenLaw} {k : Nat} {q : Program} {loose : List Str} {XP : (Str → Option Value) → Heap → Prop} {YP : World → Heap → Prop} {d : DefRec} {g : List Val → MH → Out Sl}
    (hn : l.most = some 63) (hdf : d.params.defaults = []) (hr : Room k callerA) (hg : ∀ ns : List Int, ns.length ≤ 63 → ∃ M', g [.ro (ns.map .int)] [] = .ok (.v (.dat (.bool true))) M')
    (F : ∀ (w : World) (mg : Str → Option Value) (fa : Addr) (h : Heap), YP w h → h.Ns mainGlobals mg → mg d.name = some (.ref fa) →
      ∃ (K : PySem.W.Frag) (fd : FuncData), K.In h ∧ (∀ (s : Shared) (u : Value), BindsTo s fd ⟨[u], []⟩ [(("script" : Str), u)]) ∧ ∀ base : Heap, K.In base → base.Ns mainGlobals mg → FnG l.prog w K mg base (L2.CX l.prog w) k fa fd ["script"] (spM K Pm0.ER 1 g)) :
    PySem.W.WalkO q loose XP YP l.row.toRowW d [] (fun f vs => PySem.call f vs) := by
  refine Att.attach_call hn hdf fun w s₀ s₁ mg mb fa o pm cd doc a vs ns G Y ho hd hcd hmg hobj hints hlen hgn => ?_
  obtain ⟨K, fd, KX, hb, hF⟩ := F w mg fa _ Y G.T.g hmg
  exact lawG KX G.T.g G.T.b G.T.builtins G.T.nolimit hgn hobj hints (Nat.le_trans hlen (by decide)) hr hF hb fun H hO hS => script_sp hO hS (hg ns hlen)
end Mn

set_option Elab.async false
set_option linter.all false
set_option maxRecDepth 100000
set_option maxHeartbeats 4000000
namespace Mn
open PySem PySem.Spec PyProof.Rows L2

/-! ### dicts as shared objects -/
section
variable {κ : Type} [DecidableEq κ]
def getK (kvs : List (κ × Val)) (k : κ) : Option Val := (kvs.find? fun kv => decide (kv.1 = k)).map (·.2)
def setK (kvs : List (κ × Val)) (k : κ) (v : Val) : List (κ × Val) := if (kvs.any fun kv => decide (kv.1 = k)) = true then kvs.map (fun kv => if kv.1 = k then (kv.1, v) else kv) else kvs ++ [(k, v)]
theorem kv_find {R : V → Val → Prop} (k : κ) : ∀ {kx : List (κ × V)} {kv : List (κ × Val)}, Paired (KvR R) kx kv → (∀ v, getK kv k = some v → ∃ x, valV kx k = some x ∧ R x v) ∧ (getK kv k = none → valV kx k = none)
  | _, _, .nil => ⟨fun v h => (by cases h), fun _ => rfl⟩
  | p :: _, q :: _, .cons h t => by
    have ih := kv_find k t
    by_cases e : q.1 = k
    · have g : ∀ r, getK (q :: r) k = some q.2 := fun r => by
        unfold getK
        rw [List.find?_cons_of_pos (by simpa using e)]
        rfl
      rw [g]
      refine ⟨fun v hv => ?_, fun hn => by cases hn⟩
      cases hv
      exact ⟨p.2, valV_pos (h.1.trans e), h.2⟩
    · have g : ∀ r, getK (q :: r) k = getK r k := fun r => by
        unfold getK
        rw [List.find?_cons_of_neg (by simpa using e)]
      rw [g, valV_neg (by rw [h.1]; exact e)]
      exact ih
theorem kv_any {R : V → Val → Prop} (k : κ) : ∀ {kx : List (κ × V)} {kv : List (κ × Val)}, Paired (KvR R) kx kv → (kx.any fun p => decide (p.1 = k)) = kv.any fun p => decide (p.1 = k)
  | _, _, .nil => rfl
  | _, _, .cons h t => by rw [List.any_cons, List.any_cons, kv_any k t, h.1]
theorem kv_map {R : V → Val → Prop} {k : κ} {x : V} {v : Val} (r : R x v) : ∀ {kx : List (κ × V)} {kv : List (κ × Val)}, Paired (KvR R) kx kv → Paired (KvR R) (kx.map fun p => if p.1 = k then (p.1, x) else p) (kv.map fun p => if p.1 = k then (p.1, v) else p)
  | _, _, .nil => .nil
  | p :: _, q :: _, .cons h t => by
    refine .cons ?_ (kv_map r t)
    show KvR R (if p.1 = k then (p.1, x) else p) (if q.1 = k then (q.1, v) else q)
    by_cases e : q.1 = k
    · rw [if_pos e, if_pos (h.1.trans e)]
      exact ⟨h.1, r⟩
    · rw [if_neg e, if_neg (by rw [h.1]; exact e)]
      exact h
theorem kv_put {R : V → Val → Prop} {k : κ} {x : V} {v : Val} (r : R x v) {kx : List (κ × V)} {kv : List (κ × Val)} (h : Paired (KvR R) kx kv) : Paired (KvR R) (putK kx k x) (setK kv k v) := by
  unfold putK setK
  rw [kv_any k h]
  split
  · exact kv_map r h
  · exact Paired.app h (.cons ⟨rfl, r⟩ .nil)
theorem kv_keys {R : V → Val → Prop} : ∀ {kx : List (κ × V)} {kv : List (κ × Val)}, Paired (KvR R) kx kv → kx.map (·.1) = kv.map (·.1)
  | _, _, .nil => rfl
  | _, _, .cons h t => by rw [List.map_cons, List.map_cons, kv_keys t, h.1]
end
def keyD : PyData → Option Key
  | .int i => some (.inl i)
  | .str s => some (.inr s)
  | _ => none
def keysD : List PyData → Option (List Key)
  | [] => some []
  | d :: r => (keyD d).bind fun k => (keysD r).map (k :: ·)
def dctAt (M : MH) : Val → Option (Nat × List (Key × Val))
  | .loc n => match M[n]? with
    | some (.dct kvs) => some (n, kvs)
    | _ => none
  | _ => none
def dctTAt (M : MH) : Val → Option (Nat × List (List Key × Val))
  | .loc n => match M[n]? with
    | some (.dctT kvs) => some (n, kvs)
    | _ => none
  | _ => none
def isDct (M : MH) (v : Val) : Bool := (dctAt M v).isSome || (dctTAt M v).isSome
section
variable {K : PySem.W.Frag} {Y : Wd} {M : MH} {H : Hp} {st : MSt} {σ : L2.St}
theorem keyD_rp {F : Addr → Prop} {x : V} {d : PyData} {k : Key} (r : Rp K F H x d) (h : keyD d = some k) : x = kV k := by
  cases r <;> cases h <;> rfl
theorem dctAt_at (g : GR K Y M H) {x : V} {v : Val} {n : Nat} {kvs : List (Key × Val)} (r : VRp K Y H st σ x v) (h : dctAt M v = some (n, kvs)) : ∃ a kx, x = .ref a ∧ Y.m n = some a ∧ H a = some (.dK kx) ∧ Paired (KvR (VR0 K Y H)) kx kvs := by
  unfold dctAt at h
  split at h
  · rename_i k
    obtain ⟨a, rfl, hm⟩ := r
    split at h
    · rename_i kv q
      cases h
      obtain ⟨b, hb, u, hu, ob⟩ := g.obj _ _ q
      rw [hm] at hb
      cases hb
      cases u with
      | dK kx => exact ⟨a, kx, rfl, hm, hu, ob⟩
      | _ => exact ob.elim
    · cases h
  · cases h
theorem dctTAt_at (g : GR K Y M H) {x : V} {v : Val} {n : Nat} {kvs : List (List Key × Val)} (r : VRp K Y H st σ x v) (h : dctTAt M v = some (n, kvs)) : ∃ a kx, x = .ref a ∧ Y.m n = some a ∧ H a = some (.dT kx) ∧ Paired (KvR (VR0 K Y H)) kx kvs := by
  unfold dctTAt at h
  split at h
  · rename_i k
    obtain ⟨a, rfl, hm⟩ := r
    split at h
    · rename_i kv q
      cases h
      obtain ⟨b, hb, u, hu, ob⟩ := g.obj _ _ q
      rw [hm] at hb
      cases hb
      cases u with
      | dT kx => exact ⟨a, kx, rfl, hm, hu, ob⟩
      | _ => exact ob.elim
    · cases h
  · cases h
theorem isDct_at (g : GR K Y M H) {x : V} {v : Val} (r : VRp K Y H st σ x v) (h : isDct M v = true) : ∃ a, x = .ref a ∧ IsD H a := by
  unfold isDct at h
  rw [Bool.or_eq_true] at h
  rcases h with h | h
  · obtain ⟨p, e⟩ := Option.isSome_iff_exists.mp h
    obtain ⟨a, kx, rfl, _, hx, _⟩ := dctAt_at g r (n := p.1) (kvs := p.2) e
    exact ⟨a, rfl, .inl ⟨kx, .inl hx⟩⟩
  · obtain ⟨p, e⟩ := Option.isSome_iff_exists.mp h
    obtain ⟨a, kx, rfl, _, hx, _⟩ := dctTAt_at g r (n := p.1) (kvs := p.2) e
    exact ⟨a, rfl, .inr ⟨kx, .inl hx⟩⟩
end
def eDNew : Ex Val := fun _ M => .ok (.loc M.length) (M ++ [.dct []])
def eDNewT : Ex Val := fun _ M => .ok (.loc M.length) (M ++ [.dctT []])
/-- d.setdefault(k, x), keys ints or texts -/
def eDSetd (fo fk fx : Ex Val) : Ex Val := fun st M => (fo st M).bind fun o M1 => if isDct M1 o = true then (fk st M1).bind fun k M2 => (fx st M2).bind fun x M3 => match dctAt M3 o, (datV k).bind keyD with
  | some (n, kvs), some kk => if kvs.length < SL ∧ noSlot x = true then match getK kvs kk with
      | some v => .ok v M3
      | none => .ok x (M3.set n (.dct (setK kvs kk x)))
    else .err
  | _, _ => .err else .err
/-- sorted(d), all keys ints -/
def keyInts : List Key → Option (List Int)
  | [] => some []
  | .inl i :: r => (keyInts r).map (i :: ·)
  | .inr _ :: _ => none
theorem keyInts_some : ∀ {ks : List Key} {ns : List Int}, keyInts ks = some ns → ks = ns.map Sum.inl
  | [], ns, h => by
    cases (show some [] = some ns from h)
    rfl
  | .inl i :: r, ns, h => by
    obtain ⟨ms, e, rfl⟩ := Option.map_eq_some_iff.mp (show (keyInts r).map (i :: ·) = some ns from h)
    rw [keyInts_some e]
    rfl
  | .inr _ :: _, _, h => by cases h
def xDSorted (fo : Ex Val) : Ex Sl := fun st M => (fo st M).bind fun o M1 => match dctAt M1 o with
  | some (_, kvs) => match keyInts (kvs.map (·.1)) with
    | some ns => if ns.length < 64 then .ok (.own ((sortI ns).map .int)) M1 else .err
    | none => .err
  | none => .err
/-- d[k] -/
def eDGet (fo fk : Ex Val) : Ex Val := fun st M => (fo st M).bind fun o M1 => (fk st M1).bind fun k M2 => match dctAt M2 o, (datV k).bind keyD with
  | some (_, kvs), some kk => Out.ofOpt (getK kvs kk) M2
  | _, _ => .err
section
variable {X : Cx} {P : Pm} {pos : Pos} {e e2 o : Expr} {fo fk fx f : Ex Val}
theorem se_dnew : SE X P (.Dict [] [] pos) eDNew := by
  refine PE.imp pe_dnewK fun σ H Q h => ?_
  obtain ⟨Y, M, st, g0, fr, h⟩ := h
  intro p hp
  obtain ⟨g2, s2⟩ := g0.newO (u := .dK []) (o := .dct []) hp (show Paired _ [] [] from .nil)
  exact h _ _ _ s2 g2 ⟨p, rfl, Wd.add_self⟩
theorem se_dnewT : SE X P (.Dict [] [] pos) eDNewT := by
  refine PE.imp pe_dnewT fun σ H Q h => ?_
  obtain ⟨Y, M, st, g0, fr, h⟩ := h
  intro p hp
  obtain ⟨g2, s2⟩ := g0.newO (u := .dT []) (o := .dctT []) hp (show Paired _ [] [] from .nil)
  exact h _ _ _ s2 g2 ⟨p, rfl, Wd.add_self⟩
theorem se_dsetd {apos cpos : Pos} (ho : SE X P o fo) (hk : SE X P e fk) (hx : SE X P e2 fx)
    (hbase : attributeBase o "setdefault" X.env (eval o X.env) = eval o X.env := by rfl)
    (hfew : ((backTo cpos (starEach [e, e2] X.env)).all (fun x => !x.1) && (backToKw cpos (keywordEach [] X.env)).all (fun x => x.1.isSome) && decide (([e, e2] : List Expr).length + ([] : List Keyword).length + (if ([] : List Keyword).isEmpty then 0 else 1) < 30)) = true := by rfl)
    (hline : (apos.endLine == cpos.line) = true := by rfl) (htr : backTo cpos (starEach [e, e2] X.env) = [(false, eval e X.env), (false, eval e2 X.env)] := by rfl) :
    SE X P (.Call (.Attribute o "setdefault" apos) [e, e2] [] cpos) (eDSetd fo fk fx) := by
  refine PE.imp (pe_dsetd ho hk hx ⟨hbase, hfew, hline, htr⟩) fun σ H Q h => ?_
  obtain ⟨Y, M, st, g0, fr, h⟩ := h
  refine ⟨Y, M, st, g0, fr, Post.bind (R1 := RV X.K) shV h fun vo M1 Y1 H1 x _ s1 g1 r1 q1 => ?_⟩
  have fr1 := fr.step g0 s1
  cases hd : isDct M1 vo with
  | false => rw [hd] at q1; exact False.elim q1
  | true =>
    rw [hd, if_pos rfl] at q1
    obtain ⟨a, rfl, isd⟩ := isDct_at g1 r1 hd
    refine ⟨a, rfl, isd, Y1, M1, st, g1, fr1, Post.bind (R1 := RV X.K) shV q1 fun vk M2 Y2 H2 y _ s2 g2 r2 q2 => ?_⟩
    have fr2 := fr1.step g1 s2
    refine ⟨Y2, M2, st, g2, fr2, Post.bind (R1 := RV X.K) shV q2 fun vx M3 Y3 H3 z _ s3 g3 r3 q3 => ?_⟩
    split at q3
    case h_2 => exact False.elim q3
    rename_i n kvs kk hd3 hk3
    by_cases hc : kvs.length < SL ∧ noSlot vx = true
    · rw [if_pos hc] at q3
      obtain ⟨b, kx, eb, hm, hx, pr⟩ := dctAt_at g3 (VRp.step g2 s3 (VRp.step g1 s2 r1)) hd3
      cases eb
      have ek : y = kV kk := by
        cases vk with
        | dat d => exact keyD_rp r2 (show keyD d = some kk from hk3)
        | _ => cases hk3
      have kf := kv_find kk pr
      refine ⟨kx, kk, hx, ek, by rw [Paired.length pr, sl_eq]; exact hc.1, fun v hv => ?_, fun hn => ?_⟩
      · cases hg : getK kvs kk with
        | none => rw [kf.2 hg] at hv; cases hv
        | some mv =>
          rw [hg] at q3
          obtain ⟨x', hx', rx'⟩ := kf.1 mv hg
          rw [hv] at hx'
          cases hx'
          exact q3 Y3 H3 v (Step.refl Y3 H3) g3 (VR0.vr rx')
      · cases hg : getK kvs kk with
        | some mv =>
          obtain ⟨x', hx', _⟩ := kf.1 mv hg
          rw [hn] at hx'
          cases hx'
        | none =>
          rw [hg] at q3
          have rz := VRp.v0 r3 hc.2
          obtain ⟨g4, s4⟩ := g3.wrtO (u := .dK (putK kx kk z)) (o := .dct (setK kvs kk vx)) hm (show Paired _ _ _ from kv_put rz pr)
          exact q3 Y3 _ z s4 g4 (VR0.vr (rz.step g3 s4))
    · rw [if_neg hc] at q3; exact False.elim q3
theorem sx_dsorted {p : Pos} (hc : X.calm = true) (hg : Gl X "sorted") (hm : X.mg "sorted" = none) (he : SE X P e fo) (hs : starEach [e] X.env = (false, eval e X.env) :: starEach [] X.env := by rfl) (hpl : (backTo pos (starEach [] X.env)).any (·.1) = false := by rfl) :
    SX X P (.Call (.Name "sorted" p) [e] [] pos) (xDSorted fo) := by
  refine PE.imp (pe_callB (call_sortedDI hc) hg hm (by decide +kernel) (sa_cons he sa_nil hs) (by decide) (by decide) hs hpl) fun σ H Q h => ?_
  obtain ⟨Y, M, st, g0, fr, h⟩ := h
  refine ⟨Y, M, st, g0, fr, ?_⟩
  unfold aCons aNil
  unfold xDSorted at h
  cases e1 : fo st M with
  | exc ex M1 => rw [e1] at h; exact h
  | err => rw [e1] at h; exact h
  | ok vo M1 =>
    rw [e1] at h
    simp only [Out.bind_ok] at h ⊢
    intro Y1 H1 xs s1 g1 r1
    cases r1 with
    | cons r1 r2 =>
      cases r2
      split at h
      case h_2 => exact False.elim h
      rename_i n kvs hd
      split at h
      case h_2 => exact False.elim h
      rename_i ns hk
      obtain ⟨a, kx, rfl, hma, hx, pr⟩ := dctAt_at g1 r1 hd
      by_cases h64 : ns.length < 64
      · rw [if_pos h64] at h
        refine ⟨a, kx, ns, rfl, .inl hx, by rw [kv_keys pr, keyInts_some hk], h64, fun ys p pm srt hp => ?_⟩
        have e2 : ys = sortI ns := sorted_eq (pm.trans (sortI_perm ns).symm) srt (sortI_sorted ns)
        rw [e2]
        exact h Y1 _ _ (s1.then g1 (Step.laid hp)) (g1.laid hp) ⟨p, rfl, Ow.new g1 hp RpA.ints, s1.new g1 hp⟩
      · rw [if_neg h64] at h; exact False.elim h
theorem se_dget (hu : X.A.units + 1 < cLine) (ho : SE X P o fo) (hk : SE X P e fk) (hs : NoSl e := by exact fun _ _ => rfl) : SE X P (.Subscript o e pos) (eDGet fo fk) := by
  refine PE.imp (pe_dget hu ho hk hs) fun σ H Q h => ?_
  obtain ⟨Y, M, st, g0, fr, h⟩ := h
  refine ⟨Y, M, st, g0, fr, Post.bind (R1 := RV X.K) shV h fun vo M1 Y1 H1 x _ s1 g1 r1 q1 => ?_⟩
  have fr1 := fr.step g0 s1
  refine ⟨Y1, M1, st, g1, fr1, Post.bind (R1 := RV X.K) shV q1 fun vk M2 Y2 H2 y _ s2 g2 r2 q2 => ?_⟩
  split at q2
  case h_2 => exact False.elim q2
  rename_i n kvs kk hd hk3
  obtain ⟨mv, hg, q⟩ := Post.opt q2
  obtain ⟨a, kx, rfl, hm, hx, pr⟩ := dctAt_at g2 (VRp.step g1 s2 r1) hd
  have ek : y = kV kk := by
    cases vk with
    | dat d => exact keyD_rp r2 (show keyD d = some kk from hk3)
    | _ => cases hk3
  obtain ⟨x', hx', rx'⟩ := (kv_find kk pr).1 mv hg
  refine ⟨a, x', rfl, ?_, q Y2 H2 x' (Step.refl Y2 H2) g2 (VR0.vr rx')⟩
  rw [ek, ← hx']
  exact DGet.k hx
end

/-! ### defs by name -/
structure Cal (P : Program) (w : World) (K : PySem.W.Frag) (mg : Str → Option Value) (base : Heap) (k : Nat) (x : Str) (ps : List Str) (g : List Val → MH → Out Sl) : Prop where
  ex : ∃ f fd, FnG P w K mg base (L2.CX P w) k f fd ps (spM K Pm0.ER ps.length g) ∧ mg x = some (.ref f) ∧ PySem.W.keepIn K (.ref f) = true ∧ Binds K fd ps [] ∧ KBo K fd ps
section
variable {X : Cx} {k j n : Nat} {x : Str} {ps : List Str} {g : List Val → MH → Out Sl} {p pos : Pos} {e : Expr} {es : List Expr} {kws : List Keyword} {fs : Ex (List Val)}
theorem sx_fn (c : Cal X.prog X.w X.K X.mg X.base k x ps g) (hgd : X.A.guards = some []) (hr : Room j X.A) (hkj : k ≤ j) (hg : Gl X x) (hn : ArityN ps.length g) (ha : SA X Pm0 (e :: es) fs)
    (hdb : (x == ("__debug__" : Str)) = false := by decide) (he : starEach (e :: es) X.env = (false, eval e X.env) :: starEach es X.env := by rfl) (hpl : (backTo pos (starEach es X.env)).any (·.1) = false := by rfl) :
    SX X Pm0 (.Call (.Name x p) (e :: es) [] pos) (xCall g fs) := by
  obtain ⟨f, fd, F, hm, hk, hb, _⟩ := c.ex
  exact sx_call (F.mono hkj) hgd hr hg hm hk hb hx0 hn ha hdb he hpl
theorem sx_fn0 (c : Cal X.prog X.w X.K X.mg X.base k x [] g) (hgd : X.A.guards = some []) (hr : Room j X.A) (hkj : k ≤ j) (hg : Gl X x) (hn : ArityN 0 g) (hdb : (x == ("__debug__" : Str)) = false := by decide) : SX X Pm0 (.Call (.Name x p) [] [] pos) (xCall g aNil) := by
  obtain ⟨f, fd, F, hm, hk, hb, _⟩ := c.ex
  exact sx_call0 (F.mono hkj) hgd hr hg hm hk hb hx0 hn hdb
theorem sx_fnK (c : Cal X.prog X.w X.K X.mg X.base k x ps g) (hgd : X.A.guards = some []) (hr : Room j X.A) (hkj : k ≤ j) (hg : Gl X x) (hn : ArityN ps.length g) (ha : SK X Pm0 kws fs)
    (hall : (backToKw pos (keywordEach kws X.env)).all (·.1.isSome) = true := by rfl) (hks : (backToKw pos (keywordEach kws X.env)).filterMap (·.1) = ps := by rfl)
    (hdb : (x == ("__debug__" : Str)) = false := by decide) (hpl : ((backTo pos (starEach [] X.env)).any (·.1) || (backToKw pos (keywordEach kws X.env)).any (·.1.isNone)) = false := by rfl) :
    SX X Pm0 (.Call (.Name x p) [] kws pos) (xCall g fs) := by
  obtain ⟨f, fd, F, hm, hk, _, hb⟩ := c.ex
  exact sx_callK (F.mono hkj) hgd hr hg hm hk hb hx0 hn ha hall hks hdb hpl
end
section
variable {P : Program} {w : World} {K : PySem.W.Frag} {mg : Str → Option Value} {base : Heap} {x : Str} {params : Arguments} {body : List Stmt} {scope : Scope} {f : Addr} {fd : FuncData} {N ps : List Str} {k : Nat} {tb : Tm}
theorem kbo_of {kws : List (Str × V)} (F : FunD K x x params body scope [] kws f fd) (h : ∀ (kV doc pm : Value) (an : Option Addr) (cdv ct : Value) (ws : List Value), ws.length = ps.length → bindArgs (PySem.W.fnOf x x params body scope .none kV doc pm an cdv ct) ⟨[], ps.zip ws⟩ = pure (ps.zip ws)) : KBo K fd ps := by
  obtain ⟨oc, od, dV, kV, doc, pm, an, cdv, ct, osl, rfl, lk, hcd, hD, hK⟩ := F.ex
  rcases hD with ⟨_, rfl⟩ | ⟨e, _⟩
  · exact ⟨fun s ws _ hl => .of_eq (h kV doc pm an cdv ct ws hl)⟩
  · exact absurd rfl e
/-- the def's own promise -/
theorem calG_of (F : FunD K x x params body scope [] [] f fd) (S : FnScope N ps scope)
    (hb : ∀ (cdv : Value) (B : Around) (out : List Env) (s : Shared) (H : Hp) (E : XK), (B.deeper (envOfC x scope s.heap.objs.size f cdv)).guards = some [] → Room k (B.deeper (envOfC x scope s.heap.objs.size f cdv)) →
      SS (cxOf (L2.CX P w) P w K mg base N x scope f cdv B out s H E).nox Pm0 body tb) : FnG P w K mg base (L2.CX P w) (k + 1) f fd ps (spM K Pm0.ER ps.length (fnM ps.length N.length tb)) := by
  obtain ⟨oc, od, dV, kV, doc, pm, an, cdv, ct, osl, rfl, lk, hcd, _, _⟩ := F.ex
  exact fnG0 lk hcd S fun B out s H E hg hr => hb cdv B out s H E hg hr
/-- a def's promise, from its body -/
theorem cal_of (F : FunD K x x params body scope [] [] f fd) (hm : mg x = some (.ref f)) (S : FnScope N ps scope) (hb1 : Binds K fd ps []) (hb2 : KBo K fd ps)
    (hb : ∀ (cdv : Value) (B : Around) (out : List Env) (s : Shared) (H : Hp) (E : XK), (B.deeper (envOfC x scope s.heap.objs.size f cdv)).guards = some [] → Room k (B.deeper (envOfC x scope s.heap.objs.size f cdv)) →
      SS (cxOf (L2.CX P w) P w K mg base N x scope f cdv B out s H E).nox Pm0 body tb) : Cal P w K mg base (k + 1) x ps (fnM ps.length N.length tb) := by
  have F' := F
  obtain ⟨oc, od, dV, kV, doc, pm, an, cdv, ct, osl, rfl, lk, hcd, _, _⟩ := F.ex
  exact ⟨f, _, fnG0 lk hcd S fun B out s H E hg hr => hb cdv B out s H E hg hr, hm, F'.kp, hb1, hb2⟩
end
/-! ### for the printed derivations -/
/-- more turns than any list has -/
def FU : Nat := 16777218
theorem tgsNil_len : ∀ ss st st', tgsNil ss st = some st' → ss.length = 0
  | [], _, _, _ => rfl
  | _ :: _, _, _, h => by cases h
theorem tgsCons_len {g : Tgt} {r : List Sl → MSt → Option MSt} {n : Nat} (h : ∀ ss st st', r ss st = some st' → ss.length = n) : ∀ ss st st', tgsCons g r ss st = some st' → ss.length = n + 1
  | [], _, _, e => by cases e
  | s :: ss, st, st', e => by
    obtain ⟨st1, _, e2⟩ := Option.bind_eq_some_iff.mp (show (g s st).bind (r ss) = some st' from e)
    rw [List.length_cons, h ss st1 st' e2]
section
variable {P : Program} {w : World} {K : PySem.W.Frag} {mg : Str → Option Value} {base : Heap} {x : Str} {params : Arguments} {body : List Stmt} {scope : Scope} {f : Addr} {fd : FuncData} {ps : List Str} {k : Nat}
/-- a def that may not be called -/
theorem cal_zero (F : FunD K x x params body scope [] [] f fd) (hm : mg x = some (.ref f)) (hb1 : Binds K fd ps []) (hb2 : KBo K fd ps) : Cal P w K mg base k x ps (fun _ _ => .err) :=
  ⟨f, fd, ⟨fun _ _ _ _ h => h.1, fun B out s H ar us vs Q E hg hr e0 bnd rv h => by
    obtain ⟨_, Y, M, as, _, _, no⟩ := h
    exact no.elim⟩, hm, F.kp, hb1, hb2⟩
end
end Mn

set_option Elab.async false
set_option linter.all false
set_option maxRecDepth 100000
set_option maxHeartbeats 4000000
namespace Mn
open PySem PySem.Spec PyProof.Rows L2

/-! ### reckoning with the terms -/
@[simp high] theorem bind_some_n {α β : Type} (a : α) (f : α → Option β) : (some a).bind f = f a := nofl rfl
@[simp high] theorem map_some_n {α β : Type} (f : α → β) (a : α) : (some a).map f = some (f a) := nofl rfl
@[simp] theorem w_var (i : Nat) (st : MSt) (M : MH) : eVar i st M = match st[i]? with
  | some (some (.v x)) => .ok x M
  | some (some (.own _)) => .ok (.slot i) M
  | _ => .err := nofl rfl
@[simp] theorem w_c (d : PyData) (st : MSt) (M : MH) : eC d st M = .ok (.dat d) M := nofl rfl
@[simp] theorem w_f (f : Ex Sl) (st : MSt) (M : MH) : eF f st M = (f st M).bind fun s M' => .ok (frzS s) M' := nofl rfl
@[simp] theorem frzS_v (x : Val) : frzS (.v x) = x := nofl rfl
@[simp] theorem frzS_own (ds : List PyData) : frzS (.own ds) = .dat (.list ds) := nofl rfl
@[simp] theorem w_xv (f : Ex Val) (st : MSt) (M : MH) : xV f st M = (f st M).bind fun v M' => if noSlot v = true then .ok (.v v) M' else .err := nofl rfl
@[simp] theorem ns_dat (d : PyData) : noSlot (.dat d) = true := nofl rfl
@[simp] theorem ns_loc (n : Nat) : noSlot (.loc n) = true := nofl rfl
@[simp] theorem ns_ro (ds : List PyData) : noSlot (.ro ds) = true := nofl rfl
@[simp] theorem w_op2 (g : PyData → PyData → Option PyData) (f1 f2 : Ex Val) (st : MSt) (M : MH) : eOp2 g f1 f2 st M = (f1 st M).bind fun a M1 => (f2 st M1).bind fun b M2 =>
  Out.ofOpt ((deref st M2 a).bind fun da => (deref st M2 b).bind fun db => (g da db).map .dat) M2 := nofl rfl
@[simp] theorem w_xop2 (g : PyData → PyData → Option Sl) (f1 f2 : Ex Val) (st : MSt) (M : MH) : xOp2 g f1 f2 st M = (f1 st M).bind fun a M1 => (f2 st M1).bind fun b M2 =>
  Out.ofOpt ((derefT st M2 a).bind fun da => (derefT st M2 b).bind fun db => g da db) M2 := nofl rfl
@[simp] theorem w_un (g : PyData → Option PyData) (f : Ex Val) (st : MSt) (M : MH) : eUn g f st M = (f st M).bind fun a M1 => Out.ofOpt ((deref st M1 a).bind fun da => (g da).map .dat) M1 := nofl rfl
@[simp] theorem deref_slot (st : MSt) (M : MH) (i : Nat) : deref st M (.slot i) = match st[i]? with
  | some (some (.own ds)) => some (.list ds)
  | _ => none := nofl rfl
@[simp] theorem derefT_slot (st : MSt) (M : MH) (i : Nat) : derefT st M (.slot i) = match st[i]? with
  | some (some (.own ds)) => some (.list ds)
  | _ => none := nofl rfl
@[simp] theorem deref_ro (st : MSt) (M : MH) (ds : List PyData) : deref st M (.ro ds) = some (.list ds) := nofl rfl
@[simp] theorem w_toB (f : Ex Val) (st : MSt) (M : MH) : toB f st M = (f st M).bind fun v M1 => match v with
  | .dat (.bool b) => .ok b M1
  | _ => .err := nofl rfl
@[simp] theorem w_tru (f : Ex Val) (st : MSt) (M : MH) : bTru f st M = (f st M).bind fun v M1 => Out.ofOpt ((deref st M1 v).bind tru) M1 := nofl rfl
@[simp] theorem tru_bool (b : Bool) : tru (.bool b) = some b := nofl rfl
@[simp] theorem tru_int (i : Int) : tru (.int i) = some (i != 0) := nofl rfl
@[simp] theorem tru_list (ds : List PyData) : tru (.list ds) = some (!ds.isEmpty) := nofl rfl
@[simp] theorem tru_tuple (ds : List PyData) : tru (.tuple ds) = some (!ds.isEmpty) := nofl rfl
@[simp] theorem tru_none : tru .none = some false := nofl rfl
@[simp] theorem w_and (a b : Ex Bool) (st : MSt) (M : MH) : bAnd a b st M = (a st M).bind fun c M1 => if c = true then b st M1 else .ok false M1 := nofl rfl
@[simp] theorem w_or (a b : Ex Bool) (st : MSt) (M : MH) : bOr a b st M = (a st M).bind fun c M1 => if c = true then .ok true M1 else b st M1 := nofl rfl
@[simp] theorem w_not (a : Ex Bool) (st : MSt) (M : MH) : bNot a st M = (a st M).bind fun c M1 => .ok (!c) M1 := nofl rfl
@[simp] theorem w_eand (f1 f2 : Ex Val) (st : MSt) (M : MH) : eAnd f1 f2 st M = (f1 st M).bind fun v M1 => match v with
  | .dat (.bool c) => if c = true then f2 st M1 else .ok (.dat (.bool false)) M1
  | _ => .err := nofl rfl
@[simp] theorem w_eor (f1 f2 : Ex Val) (st : MSt) (M : MH) : eOr f1 f2 st M = (f1 st M).bind fun v M1 => match v with
  | .dat (.bool c) => if c = true then .ok (.dat (.bool true)) M1 else f2 st M1
  | _ => .err := nofl rfl
@[simp] theorem w_enot (f1 : Ex Val) (st : MSt) (M : MH) : eNot f1 st M = (f1 st M).bind fun v M1 => match v with
  | .dat (.bool c) => .ok (.dat (.bool (!c))) M1
  | _ => .err := nofl rfl
@[simp] theorem w_if {α : Type} (b : Ex Bool) (f1 f2 : Ex α) (st : MSt) (M : MH) : eIf b f1 f2 st M = (b st M).bind fun c M1 => if c = true then f1 st M1 else f2 st M1 := nofl rfl
@[simp] theorem w_ix (f1 f2 : Ex Val) (st : MSt) (M : MH) : eIx f1 f2 st M = (f1 st M).bind fun a M1 => (f2 st M1).bind fun b M2 => Out.ofOpt ((intOf b).bind fun i => ixVal st M2 a i) M2 := nofl rfl
@[simp] theorem ixVal_ro (st : MSt) (M : MH) (ds : List PyData) (i : Int) : ixVal st M (.ro ds) i = (at1 (.list ds) i).map .dat := nofl rfl
@[simp] theorem ixVal_slot (st : MSt) (M : MH) (j : Nat) (i : Int) : ixVal st M (.slot j) i = (deref st M (.slot j)).bind fun d => (at1 d i).map .dat := nofl rfl
@[simp] theorem at1_list (ds : List PyData) (i : Int) : at1 (.list ds) i = atI ds i := nofl rfl
@[simp] theorem at1_tuple (ds : List PyData) (i : Int) : at1 (.tuple ds) i = atI ds i := nofl rfl
@[simp] theorem w_anil (st : MSt) (M : MH) : aNil st M = .ok [] M := nofl rfl
@[simp] theorem w_acons (f : Ex Val) (r : Ex (List Val)) (st : MSt) (M : MH) : aCons f r st M = (f st M).bind fun a M1 => (r st M1).bind fun l M2 => .ok (a :: l) M2 := nofl rfl
@[simp] theorem w_xnil (st : MSt) (M : MH) : xNil st M = .ok [] M := nofl rfl
@[simp] theorem w_xcons (f : Ex Sl) (r : Ex (List Sl)) (st : MSt) (M : MH) : xCons f r st M = (f st M).bind fun a M1 => (r st M1).bind fun l M2 => .ok (a :: l) M2 := nofl rfl
@[simp] theorem w_tup (fs : Ex (List Val)) (st : MSt) (M : MH) : eTup fs st M = (fs st M).bind fun vs M1 => Out.ofOpt ((datAll vs).bind fun ds => if ds.length ≤ SL then some (.dat (.tuple ds)) else none) M1 := nofl rfl
@[simp] theorem w_lst (fs : Ex (List Val)) (st : MSt) (M : MH) : xLst fs st M = (fs st M).bind fun vs M1 => Out.ofOpt ((datAll vs).bind fun ds => if ds.length ≤ SL then some (.own ds) else none) M1 := nofl rfl
@[simp] theorem w_lstL (fs : Ex (List Val)) (st : MSt) (M : MH) : eLstL fs st M = (fs st M).bind fun vs M1 => if noSlots vs = true ∧ vs.length ≤ SL then .ok (.loc M1.length) (M1 ++ [.lst vs]) else .err := nofl rfl
@[simp] theorem w_eloc (f : Ex Sl) (st : MSt) (M : MH) : eLoc f st M = (f st M).bind fun s M1 => match s with
  | .own ds => .ok (.loc M1.length) (M1 ++ [.lst (ds.map .dat)])
  | .v _ => .err := nofl rfl
@[simp] theorem nss_nil : noSlots [] = true := nofl rfl
@[simp] theorem nss_cons (v : Val) (r : List Val) : noSlots (v :: r) = (noSlot v && noSlots r) := nofl rfl
@[simp] theorem w_onone (st : MSt) (M : MH) : oNone st M = .ok none M := nofl rfl
@[simp] theorem w_osome (f : Ex Val) (st : MSt) (M : MH) : oSome f st M = (f st M).bind fun v M1 => Out.ofOpt ((intOf v).map some) M1 := nofl rfl
@[simp] theorem w_sl (f : Ex Val) (l u : Ex (Option Int)) (st : MSt) (M : MH) : xSl f l u st M = (f st M).bind fun a M1 => (l st M1).bind fun lo M2 => (u st M2).bind fun hi M3 => Out.ofOpt ((deref st M3 a).bind fun d => slD d lo hi) M3 := nofl rfl
@[simp] theorem slD_list (ds : List PyData) (lo hi : Option Int) : slD (.list ds) lo hi = some (.own (cutD ds lo hi)) := nofl rfl
@[simp] theorem slD_tuple (ds : List PyData) (lo hi : Option Int) : slD (.tuple ds) lo hi = some (.v (.dat (.tuple (cutD ds lo hi)))) := nofl rfl
@[simp] theorem w_fn (g : List PyData → Option PyData) (fs : Ex (List Val)) (st : MSt) (M : MH) : eFn g fs st M = (fs st M).bind fun vs M1 => Out.ofOpt ((derefAll st M1 vs).bind fun ds => (g ds).map .dat) M1 := nofl rfl
@[simp] theorem w_xfn (g : List PyData → Option Sl) (fs : Ex (List Val)) (st : MSt) (M : MH) : xFn g fs st M = (fs st M).bind fun vs M1 => Out.ofOpt ((derefAll st M1 vs).bind g) M1 := nofl rfl
@[simp] theorem w_call (g : List Val → MH → Out Sl) (fs : Ex (List Val)) (st : MSt) (M : MH) : xCall g fs st M = (fs st M).bind fun vs M1 => if noSlots vs = true then g vs M1 else .err := nofl rfl
@[simp] theorem w_isi (t : Mn.Ty) (f : Ex Val) (st : MSt) (M : MH) : eIsI t f st M = (f st M).bind fun v M1 => Out.ofOpt ((deref st M1 v).map fun d => .dat (.bool (t.is d))) M1 := nofl rfl
@[simp] theorem w_rg1 (f : Ex Val) (st : MSt) (M : MH) : eRg1 f st M = (f st M).bind fun v M1 => Out.ofOpt ((intOf v).map fun n => (0, n)) M1 := nofl rfl
@[simp] theorem w_rg2 (f1 f2 : Ex Val) (st : MSt) (M : MH) : eRg2 f1 f2 st M = (f1 st M).bind fun v M1 => (f2 st M1).bind fun w M2 => Out.ofOpt ((intOf v).bind fun a => (intOf w).map fun b => (a, b)) M2 := nofl rfl
@[simp] theorem w_irg (f : Ex (Int × Int)) (st : MSt) (M : MH) : iRg f st M = (f st M).bind fun ab M1 => if rgSm ab.1 ab.2 = true then .ok (rgD ab.1 ab.2) M1 else .err := nofl rfl
@[simp] theorem w_lstrg (f : Ex (Int × Int)) (st : MSt) (M : MH) : xLstRg f st M = (f st M).bind fun ab M1 => if rgOk ab.1 ab.2 = true then .ok (.own (rgD ab.1 ab.2)) M1 else .err := nofl rfl
@[simp] theorem w_tuprg (f : Ex (Int × Int)) (st : MSt) (M : MH) : eTupRg f st M = (f st M).bind fun ab M1 => if rgOk ab.1 ab.2 = true then .ok (.dat (.tuple (rgD ab.1 ab.2))) M1 else .err := nofl rfl
@[simp] theorem w_isq (v : MSt → MH → Val → Option PyData) (f : Ex Val) (st : MSt) (M : MH) : iSq v f st M = (f st M).bind fun x M1 => Out.ofOpt ((v st M1 x).bind seqOf) M1 := nofl rfl
@[simp] theorem w_ien (v : MSt → MH → Val → Option PyData) (f : Ex Val) (st : MSt) (M : MH) : iEn v f st M = (f st M).bind fun x M1 => Out.ofOpt ((v st M1 x).bind fun d => (seqOf d).map (enD 0)) M1 := nofl rfl
@[simp] theorem w_irv (v : MSt → MH → Val → Option PyData) (f : Ex Val) (st : MSt) (M : MH) : iRv v f st M = (f st M).bind fun x M1 => Out.ofOpt ((v st M1 x).bind fun d => (seqOf d).map List.reverse) M1 := nofl rfl
@[simp] theorem w_izp (v : MSt → MH → Val → Option PyData) (f1 f2 : Ex Val) (st : MSt) (M : MH) : iZp v f1 f2 st M = (f1 st M).bind fun x M1 => (f2 st M1).bind fun y M2 => Out.ofOpt ((v st M2 x).bind fun a => (v st M2 y).bind fun b => zip2 a b) M2 := nofl rfl
@[simp] theorem seqOf_list (ds : List PyData) : seqOf (.list ds) = some ds := nofl rfl
@[simp] theorem seqOf_tuple (ds : List PyData) : seqOf (.tuple ds) = some ds := nofl rfl
@[simp] theorem zip2_list (a b : List PyData) : zip2 (.list a) (.list b) = some (zpD a b) := nofl rfl
@[simp] theorem zip2_tuple (a b : List PyData) : zip2 (.tuple a) (.tuple b) = some (zpD a b) := nofl rfl
@[simp] theorem ownV_slot (st : MSt) (M : MH) (i : Nat) : ownV st M (.slot i) = match st[i]? with
  | some (some (.own ds)) => some (.list ds)
  | _ => none := nofl rfl
@[simp] theorem w_tgN (i : Nat) (s : Sl) (st : MSt) : tgN i s st = some (st.set i (some s)) := nofl rfl
@[simp] theorem w_tgT (n : Nat) (r : List Sl → MSt → Option MSt) (s : Sl) (st : MSt) : tgT n r s st = (itemsS s).bind fun ds => if ds.length = n then r (ds.map fun d => .v (.dat d)) st else none := nofl rfl
@[simp] theorem itemsS_tup (ds : List PyData) : itemsS (.v (.dat (.tuple ds))) = some ds := nofl rfl
@[simp] theorem itemsS_lst (ds : List PyData) : itemsS (.v (.dat (.list ds))) = some ds := nofl rfl
@[simp] theorem itemsS_own (ds : List PyData) : itemsS (.own ds) = some ds := nofl rfl
@[simp] theorem w_tgsn (st : MSt) : tgsNil [] st = some st := nofl rfl
@[simp] theorem w_tgsc (g : Tgt) (r : List Sl → MSt → Option MSt) (s : Sl) (ss : List Sl) (st : MSt) : tgsCons g r (s :: ss) st = (g s st).bind (r ss) := nofl rfl
@[simp] theorem w_cyes (st : MSt) (M : MH) : cYes st M = .ok true M := nofl rfl
@[simp] theorem w_lc (vs : List Nat) (it : Ex (List PyData)) (g : Tgt) (c : Ex Bool) (f : Ex Val) (st : MSt) (M : MH) : xLc vs it g c f st M = (it st M).bind fun ds M1 => (lcGo (wipeM st vs) g c f [] ds M1).bind fun out M2 => .ok (.own out) M2 := nofl rfl
@[simp] theorem w_lca (k : Nat) (vs : List Nat) (fe : Ex Val) (g : Tgt) (c : Ex Bool) (f : Ex Val) (st : MSt) (M : MH) : xLcA k vs fe g c f st M = (fe st M).bind fun v M1 => (lcA k st (wipeM st vs) g c f v M1).bind fun out M2 => .ok (.own out) M2 := nofl rfl
@[simp] theorem lcA_dat (k : Nat) (st0 st : MSt) (g : Tgt) (c : Ex Bool) (f : Ex Val) (d : PyData) (M : MH) : lcA k st0 st g c f (.dat d) M = match seqOf d with
  | some ds => lcGo st g c f [] ds M
  | none => .err := nofl rfl
@[simp] theorem lcA_ro (k : Nat) (st0 st : MSt) (g : Tgt) (c : Ex Bool) (f : Ex Val) (ds : List PyData) (M : MH) : lcA k st0 st g c f (.ro ds) M = lcGo st g c f [] ds M := nofl rfl
theorem lcA_slot {k : Nat} {st0 st : MSt} {g : Tgt} {c : Ex Bool} {f : Ex Val} {i : Nat} {ds : List PyData} {M : MH} (h : st0[i]? = some (some (.own ds))) : lcA k st0 st g c f (.slot i) M = lcGo st g c f [] ds M := by
  show (match (match st0[i]? with | some (some (.own ds)) => some (PyData.list ds) | _ => none).bind seqOf with | some ds => lcGo st g c f [] ds M | none => .err) = _
  rw [h]
  rfl
@[simp] theorem lcA_slot' (k : Nat) (st0 st : MSt) (g : Tgt) (c : Ex Bool) (f : Ex Val) (i : Nat) (M : MH) : lcA k st0 st g c f (.slot i) M = match (ownV st0 M (.slot i)).bind seqOf with
  | some ds => lcGo st g c f [] ds M
  | none => .err := nofl rfl
@[simp] theorem wipeM_nil (st : MSt) : wipeM st [] = st := nofl rfl
@[simp] theorem wipeM_cons (st : MSt) (v : Nat) (vs : List Nat) : wipeM st (v :: vs) = (wipeM st vs).set v none := nofl rfl
/-! statements -/
/-- on, where the flow goes on -/
def sq (o : Option (Fl × MSt × MH)) (k : Tm) : Option (Fl × MSt × MH) := match o with
  | some (.nx, st', M') => k st' M'
  | o => o
@[simp] theorem sq_nx (st : MSt) (M : MH) (k : Tm) : sq (some (.nx, st, M)) k = k st M := nofl rfl
@[simp] theorem sq_ret (s : Sl) (st : MSt) (M : MH) (k : Tm) : sq (some (.ret s, st, M)) k = some (.ret s, st, M) := nofl rfl
@[simp] theorem sq_brk (st : MSt) (M : MH) (k : Tm) : sq (some (.brk, st, M)) k = some (.brk, st, M) := nofl rfl
@[simp] theorem sq_cont (st : MSt) (M : MH) (k : Tm) : sq (some (.cont, st, M)) k = some (.cont, st, M) := nofl rfl
@[simp] theorem sq_exc (e : Exn) (st : MSt) (M : MH) (k : Tm) : sq (some (.exc e, st, M)) k = some (.exc e, st, M) := nofl rfl
@[simp] theorem sq_none (k : Tm) : sq none k = none := nofl rfl
def ot {α : Type} (o : Out α) (st : MSt) (k : α → MH → Option (Fl × MSt × MH)) : Option (Fl × MSt × MH) := match o with
  | .ok a M' => k a M'
  | .exc e M' => some (.exc e, st, M')
  | .err => none
@[simp] theorem ot_ok {α : Type} (a : α) (M : MH) (st : MSt) (k : α → MH → Option (Fl × MSt × MH)) : ot (.ok a M) st k = k a M := nofl rfl
@[simp] theorem ot_exc {α : Type} (e : Exn) (M : MH) (st : MSt) (k : α → MH → Option (Fl × MSt × MH)) : ot (.exc e M) st k = some (.exc e, st, M) := nofl rfl
@[simp] theorem ot_err {α : Type} (st : MSt) (k : α → MH → Option (Fl × MSt × MH)) : ot .err st k = none := nofl rfl
theorem tX_eq {α : Type} (f : Ex α) (k : α → Tm) (st : MSt) (M : MH) : tX f k st M = ot (f st M) st fun a M' => k a st M' := by
  unfold tX ot
  cases f st M <;> rfl
@[simp] theorem w_nil (st : MSt) (M : MH) : tmNil st M = some (.nx, st, M) := nofl rfl
@[simp] theorem w_seq (f g : Tm) (st : MSt) (M : MH) : tmSeq f g st M = sq (f st M) g := nofl rfl
@[simp] theorem w_as (f : Ex Sl) (g : Tgt) (st : MSt) (M : MH) : tmAs f g st M = ot (f st M) st fun s M' => (g s st).map fun st' => (.nx, st', M') := tX_eq _ _ _ _
@[simp] theorem w_ps (f : Ex (List Sl)) (g : List Sl → MSt → Option MSt) (st : MSt) (M : MH) : tmPs f g st M = ot (f st M) st fun s M' => (g s st).map fun st' => (.nx, st', M') := tX_eq _ _ _ _
@[simp] theorem w_rt (f : Ex Sl) (st : MSt) (M : MH) : tmRt f st M = ot (f st M) st fun s M' => some (.ret s, st, M') := tX_eq _ _ _ _
@[simp] theorem w_rn (st : MSt) (M : MH) : tmRn st M = some (.ret (.v (.dat .none)), st, M) := nofl rfl
@[simp] theorem w_rv (i : Nat) (st : MSt) (M : MH) : tmRv i st M = match st[i]? with
  | some (some s) => some (.ret s, st, M)
  | _ => none := nofl rfl
@[simp] theorem w_tif (c : Ex Bool) (a b : Tm) (st : MSt) (M : MH) : tmIf c a b st M = ot (c st M) st fun k M' => if k = true then a st M' else b st M' := by
  show tX c (fun k => if k = true then a else b) st M = _
  rw [tX_eq]
  congr 1
  funext k M'
  cases k <;> rfl
@[simp] theorem w_do {α : Type} (f : Ex α) (st : MSt) (M : MH) : tmDo f st M = ot (f st M) st fun _ M' => some (.nx, st, M') := tX_eq _ _ _ _
@[simp] theorem w_brk (st : MSt) (M : MH) : tmBrk st M = some (.brk, st, M) := nofl rfl
@[simp] theorem w_cont (st : MSt) (M : MH) : tmCont st M = some (.cont, st, M) := nofl rfl
@[simp] theorem w_frz (i : Nat) (f : Tm) (st : MSt) (M : MH) : tmFrz i f st M = match st[i]? with
  | some (some (.own ds)) => f (st.set i (some (.v (.dat (.list ds))))) M
  | _ => f st M := nofl rfl
@[simp] theorem w_app (i : Nat) (f : Ex Val) (st : MSt) (M : MH) : tmApp i f st M = match st[i]? with
  | some (some (.own ds)) => ot (f st M) st fun v M' => match v with
    | .dat d => if ds.length < SL then some (.nx, st.set i (some (.own (ds ++ [d]))), M') else none
    | _ => none
  | _ => none := by
  unfold tmApp
  rcases st[i]? with _ | _ | _ | ds
  · rfl
  · rfl
  · rfl
  · exact tX_eq _ _ st M
@[simp] theorem w_ext (i : Nat) (f : Ex Val) (st : MSt) (M : MH) : tmExt i f st M = match st[i]? with
  | some (some (.own ds)) => ot (f st M) st fun v M' => match derefT st M' v with
    | some (.list es) => if ds.length + es.length ≤ SL then some (.nx, st.set i (some (.own (ds ++ es))), M') else none
    | _ => none
  | _ => none := by
  unfold tmExt
  rcases st[i]? with _ | _ | _ | ds
  · rfl
  · rfl
  · rfl
  · exact tX_eq _ _ st M
@[simp] theorem w_for (it : Ex (List PyData)) (g : Tgt) (b : Tm) (st : MSt) (M : MH) : tmFor it g b st M = ot (it st M) st fun ds M' => foGo g b ds st M' := tX_eq _ _ _ _
@[simp] theorem w_fora (k : Nat) (f : Ex Val) (g : Tgt) (b : Tm) (st : MSt) (M : MH) : tmForA k f g b st M = ot (f st M) st fun v M' => foA k g b v st M' := tX_eq _ _ _ _
@[simp] theorem foA_list (k : Nat) (g : Tgt) (b : Tm) (ds : List PyData) : foA k g b (.dat (.list ds)) = foGo g b ds := nofl rfl
@[simp] theorem foA_tuple (k : Nat) (g : Tgt) (b : Tm) (ds : List PyData) : foA k g b (.dat (.tuple ds)) = foGo g b ds := nofl rfl
@[simp] theorem w_lset (f fo fi : Ex Val) (st : MSt) (M : MH) : tmLSet f fo fi st M = ot ((f st M).bind fun v M1 => (fo st M1).bind fun o M2 => (fi st M2).bind fun i M3 => match locOf M3 o, intOf i with
  | some (n, vs), some k => match ixN vs.length k with
    | some j => if noSlot v = true then .ok (Val.dat .none) (M3.set n (.lst (vs.set j v))) else .err
    | none => .err
  | _, _ => .err) st fun _ M' => some (.nx, st, M') := tX_eq _ _ _ _
@[simp] theorem w_lpop (fo : Ex Val) (st : MSt) (M : MH) : eLPop fo st M = (fo st M).bind fun o M1 => match locOf M1 o with
  | some (n, vs) => match vs[vs.length - 1]? with
    | some v => .ok v (M1.set n (.lst vs.dropLast))
    | none => .err
  | none => .err := nofl rfl
@[simp] theorem w_lpopAt (fo f : Ex Val) (st : MSt) (M : MH) : eLPopAt fo f st M = (fo st M).bind fun o M1 => if isLoc M1 o = true then (f st M1).bind fun i M2 => match locOf M2 o, intOf i with
  | some (n, vs), some j => if -(2 ^ 63) ≤ j ∧ j < 2 ^ 63 then match seqIndex? j vs.length with
      | some k => match vs[k]? with
        | some v => .ok v (M2.set n (.lst (vs.eraseIdx k)))
        | none => .err
      | none => .err
    else .err
  | _, _ => .err else .err := nofl rfl
@[simp] theorem w_lap (fo f : Ex Val) (st : MSt) (M : MH) : eLAp fo f st M = (fo st M).bind fun o M1 => if isLoc M1 o = true then (f st M1).bind fun v M2 => match locOf M2 o with
  | some (n, vs) => if noSlot v = true ∧ vs.length < SL then .ok (.dat .none) (M2.set n (.lst (vs ++ [v]))) else .err
  | none => .err else .err := nofl rfl
@[simp] theorem locOf_loc (M : MH) (n : Nat) : locOf M (.loc n) = (lstAt M n).map fun vs => (n, vs) := nofl rfl
@[simp] theorem isLoc_loc (M : MH) (n : Nat) : isLoc M (.loc n) = (lstAt M n).isSome := by
  unfold isLoc
  rw [locOf_loc]
  cases lstAt M n <;> rfl
theorem lstAt_eq {M : MH} {n : Nat} {vs : List Val} (h : M[n]? = some (.lst vs)) : lstAt M n = some vs := by
  unfold lstAt
  rw [h]
theorem lstAt_inv {M : MH} {n : Nat} {vs : List Val} (h : lstAt M n = some vs) : M[n]? = some (.lst vs) := by
  unfold lstAt at h
  split at h
  · cases h
    assumption
  · cases h
theorem deref_loc (st : MSt) (M : MH) (n : Nat) : deref st M (.loc n) = (lstAt M n).bind fun vs => (datAll vs).map .list := by
  show (match M[n]? with | some (.lst vs) => (datAll vs).map PyData.list | _ => none) = _
  unfold lstAt
  rcases M[n]? with _ | _ | _ | _ <;> rfl
theorem derefT_loc (st : MSt) (M : MH) (n : Nat) : derefT st M (.loc n) = (lstAt M n).bind fun vs => (datAll vs).map .list := deref_loc st M n
theorem ixVal_loc (st : MSt) (M : MH) (n : Nat) (i : Int) : ixVal st M (.loc n) i = (lstAt M n).bind fun vs => atI vs i := by
  show (match M[n]? with | some (.lst vs) => atI vs i | _ => none) = _
  unfold lstAt
  rcases M[n]? with _ | _ | _ | _ <;> rfl
/-! ### what is wanted -/
inductive Ok {α : Type} : Out α → (α → MH → Prop) → Prop
  | mk {a : α} {M : MH} {Q : α → MH → Prop} : Q a M → Ok (.ok a M) Q
@[simp] theorem Ok_ok {α : Type} (a : α) (M : MH) (Q : α → MH → Prop) : Ok (.ok a M) Q ↔ Q a M := ⟨fun h => by cases h; assumption, .mk⟩
theorem Ok.ex {α : Type} {o : Out α} {Q : α → MH → Prop} (h : Ok o Q) : ∃ a M, o = .ok a M ∧ Q a M := by
  cases h with
  | mk q => exact ⟨_, _, rfl, q⟩
theorem Ok.mp {α : Type} {o : Out α} {Q Q' : α → MH → Prop} (h : Ok o Q) (i : ∀ a M, Q a M → Q' a M) : Ok o Q' := by
  cases h with
  | mk q => exact .mk (i _ _ q)
/-- a flow that goes on -/
inductive Nx : Option (Fl × MSt × MH) → (MSt → MH → Prop) → Prop
  | mk {st : MSt} {M : MH} {Q : MSt → MH → Prop} : Q st M → Nx (some (.nx, st, M)) Q
@[simp] theorem Nx_nx (st : MSt) (M : MH) (Q : MSt → MH → Prop) : Nx (some (.nx, st, M)) Q ↔ Q st M := ⟨fun h => by cases h; assumption, .mk⟩
theorem Nx.ex {o : Option (Fl × MSt × MH)} {Q : MSt → MH → Prop} (h : Nx o Q) : ∃ st M, o = some (.nx, st, M) ∧ Q st M := by
  cases h with
  | mk q => exact ⟨_, _, rfl, q⟩
/-- a body's flow: it returns, or goes to the end -/
inductive Rs : Option (Fl × MSt × MH) → (Sl → MH → Prop) → Prop
  | ret {s : Sl} {st : MSt} {M : MH} {Q : Sl → MH → Prop} : Q s M → Rs (some (.ret s, st, M)) Q
  | nx {st : MSt} {M : MH} {Q : Sl → MH → Prop} : Q (.v (.dat .none)) M → Rs (some (.nx, st, M)) Q
@[simp] theorem Rs_ret (s : Sl) (st : MSt) (M : MH) (Q : Sl → MH → Prop) : Rs (some (.ret s, st, M)) Q ↔ Q s M := ⟨fun h => by cases h; assumption, .ret⟩
@[simp] theorem Rs_nx (st : MSt) (M : MH) (Q : Sl → MH → Prop) : Rs (some (.nx, st, M)) Q ↔ Q (.v (.dat .none)) M := ⟨fun h => by cases h; assumption, .nx⟩
theorem Ok_fn {np ns : Nat} {f : Tm} {vs : List Val} {M : MH} {Q : Sl → MH → Prop} (hl : vs.length = np) (h : Rs (f (vs.map (fun v => some (.v v)) ++ List.replicate (ns - np) none) M) Q) : Ok (fnM np ns f vs M) Q := by
  unfold fnM
  rw [if_pos hl]
  generalize f (vs.map (fun v => some (.v v)) ++ List.replicate (ns - np) none) M = o at h
  cases h with
  | ret q => exact .mk q
  | nx q => exact .mk q
theorem Rs_sq {o : Option (Fl × MSt × MH)} {k : Tm} {Q : Sl → MH → Prop} (h : Nx o fun st M => Rs (k st M) Q) : Rs (sq o k) Q := by
  obtain ⟨st, M, rfl, q⟩ := h.ex
  exact q
theorem Nx_sq {o : Option (Fl × MSt × MH)} {k : Tm} {Q : MSt → MH → Prop} (h : Nx o fun st M => Nx (k st M) Q) : Nx (sq o k) Q := by
  obtain ⟨st, M, rfl, q⟩ := h.ex
  exact q
theorem Nx.mp {o : Option (Fl × MSt × MH)} {Q Q' : MSt → MH → Prop} (h : Nx o Q) (i : ∀ st M, Q st M → Q' st M) : Nx o Q' := by
  obtain ⟨st, M, rfl, q⟩ := h.ex
  exact .mk (i st M q)
/-! ### loops -/
def ob (o : Option MSt) (f : MSt → Option (Fl × MSt × MH)) : Option (Fl × MSt × MH) := o.bind f
@[simp] theorem ob_some (a : MSt) (f : MSt → Option (Fl × MSt × MH)) : ob (some a) f = f a := nofl rfl
theorem Nx_fo {g : Tgt} {b : Tm} {Q : MSt → MH → Prop} (Inv : Nat → MSt → MH → Prop) {ds : List PyData} {st : MSt} {M : MH} (h0 : Inv 0 st M)
    (step : ∀ i d st M, ds[i]? = some d → Inv i st M → Nx (ob (g (.v (.dat d)) st) fun st1 => b st1 M) (Inv (i + 1))) (hq : ∀ st M, Inv ds.length st M → Q st M) : Nx (foGo g b ds st M) Q := by
  suffices H : ∀ (n : Nat) (st : MSt) (M : MH) (es : List PyData), (∀ i d st M, es[i]? = some d → Inv (n + i) st M → Nx (ob (g (.v (.dat d)) st) fun st1 => b st1 M) (Inv (n + i + 1))) → Inv n st M → (∀ st M, Inv (n + es.length) st M → Q st M) → Nx (foGo g b es st M) Q by
    refine H 0 st M ds (fun i d st M hd hi => ?_) h0 fun st M hi => hq st M (by rw [Nat.zero_add] at hi; exact hi)
    rw [Nat.zero_add] at hi ⊢
    exact step i d st M hd hi
  intro n st M es
  induction es generalizing n st M with
  | nil => exact fun _ h q => .mk (q st M (by simpa using h))
  | cons d r ih =>
    intro step h q
    obtain ⟨st2, M2, e2, h2⟩ := (step 0 d st M rfl (by simpa using h)).ex
    obtain ⟨st1, e1, e2⟩ := Option.bind_eq_some_iff.mp e2
    show Nx (match g (.v (.dat d)) st with | none => none | some st1 => match b st1 M with | some (.nx, st2, M2) => foGo g b r st2 M2 | some (.cont, st2, M2) => foGo g b r st2 M2 | some (.brk, st2, M2) => some (.nx, st2, M2) | o => o) Q
    rw [e1]
    simp only
    rw [e2]
    refine ih (n + 1) st2 M2 (fun i d' st M hd hi => ?_) (by simpa using h2) fun st M hi => q st M (by rw [List.length_cons, show n + (r.length + 1) = n + 1 + r.length by omega]; exact hi)
    have z := step (i + 1) d' st M (by simpa using hd) (by rw [show n + (i + 1) = n + 1 + i by omega]; exact hi)
    rw [show n + (i + 1) + 1 = n + 1 + i + 1 by omega] at z
    exact z
theorem Rs_fo {g : Tgt} {b k : Tm} {Q : Sl → MH → Prop} (Inv : Nat → MSt → MH → Prop) {ds : List PyData} {st : MSt} {M : MH} (h0 : Inv 0 st M)
    (step : ∀ i d st M, ds[i]? = some d → Inv i st M → Nx (ob (g (.v (.dat d)) st) fun st1 => b st1 M) (Inv (i + 1))) (hq : ∀ st M, Inv ds.length st M → Rs (k st M) Q) : Rs (sq (foGo g b ds st M) k) Q := Rs_sq (Nx_fo Inv h0 step hq)
theorem fo_nil (g : Tgt) (b : Tm) (st : MSt) (M : MH) : foGo g b [] st M = some (.nx, st, M) := rfl
theorem fo_cons (g : Tgt) (b : Tm) (d : PyData) (r : List PyData) (st : MSt) (M : MH) : foGo g b (d :: r) st M = match g (.v (.dat d)) st with
  | none => none
  | some st1 => match b st1 M with
    | some (.nx, st2, M2) => foGo g b r st2 M2
    | some (.cont, st2, M2) => foGo g b r st2 M2
    | some (.brk, st2, M2) => some (.nx, st2, M2)
    | o => o := rfl
/-- each turn adds one result, the shared objects are left alone -/
theorem lc_map {st : MSt} {g : Tgt} {c : Ex Bool} {f : Ex Val} {M : MH} {p : PyData → Bool} {F : PyData → PyData} : ∀ {ds acc : List PyData}, (∀ d ∈ ds, ∃ st1, g (.v (.dat d)) st = some st1 ∧ c st1 M = .ok (p d) M ∧ (p d = true → f st1 M = .ok (.dat (F d)) M)) →
    acc.length + ds.length ≤ SL → lcGo st g c f acc ds M = .ok (acc ++ (ds.filter p).map F) M
  | [], acc, _, _ => by simp [lcGo]
  | d :: r, acc, h, hl => by
    obtain ⟨st1, e1, e2, e3⟩ := h d (List.mem_cons_self ..)
    have hr : ∀ d ∈ r, ∃ st1, g (.v (.dat d)) st = some st1 ∧ c st1 M = .ok (p d) M ∧ (p d = true → f st1 M = .ok (.dat (F d)) M) := fun d hd => h d (List.mem_cons_of_mem _ hd)
    rw [List.length_cons] at hl
    rw [lcGo, e1]
    simp only
    rw [e2]
    cases hp : p d with
    | false =>
      simp only
      rw [lc_map hr (by omega), List.filter_cons_of_neg (by rw [hp]; decide)]
    | true =>
      simp only
      rw [e3 hp]
      simp only
      rw [if_pos (by omega), lc_map hr (by rw [List.length_append, List.length_singleton]; omega), List.filter_cons_of_pos hp, List.map_cons, List.append_assoc]
      rfl
/-- .. or the shared objects change, and Inv tells how -/
theorem lc_inv {st : MSt} {g : Tgt} {c : Ex Bool} {f : Ex Val} (Inv : Nat → List PyData → MH → Prop) : ∀ {ds : List PyData} {M : MH}, Inv 0 [] M → ds.length ≤ SL →
    (∀ i d acc M, ds[i]? = some d → acc.length ≤ i → Inv i acc M → ∃ st1, g (.v (.dat d)) st = some st1 ∧ ((∃ M1, c st1 M = .ok false M1 ∧ Inv (i + 1) acc M1) ∨ ∃ M1 M2 y, c st1 M = .ok true M1 ∧ f st1 M1 = .ok (.dat y) M2 ∧ Inv (i + 1) (acc ++ [y]) M2)) →
    ∃ out M', lcGo st g c f [] ds M = .ok out M' ∧ Inv ds.length out M' ∧ out.length ≤ ds.length := by
  intro ds
  suffices H : ∀ (n : Nat) (M : MH) (acc es : List PyData), acc.length ≤ n → n + es.length ≤ SL →
      (∀ i d acc M, es[i]? = some d → acc.length ≤ n + i → Inv (n + i) acc M → ∃ st1, g (.v (.dat d)) st = some st1 ∧ ((∃ M1, c st1 M = .ok false M1 ∧ Inv (n + i + 1) acc M1) ∨ ∃ M1 M2 y, c st1 M = .ok true M1 ∧ f st1 M1 = .ok (.dat y) M2 ∧ Inv (n + i + 1) (acc ++ [y]) M2)) → Inv n acc M →
      ∃ out M', lcGo st g c f acc es M = .ok out M' ∧ Inv (n + es.length) out M' ∧ out.length ≤ n + es.length by
    intro M h0 hl step
    obtain ⟨out, M', e, i, l⟩ := H 0 M [] ds (Nat.zero_le _) (by omega) (fun i d acc M hd ha hi => by
      rw [Nat.zero_add] at ha hi ⊢
      exact step i d acc M hd ha hi) h0
    rw [Nat.zero_add] at i l
    exact ⟨out, M', e, i, l⟩
  intro n M acc es
  induction es generalizing n M acc with
  | nil => exact fun ha _ _ h => ⟨acc, M, rfl, by simpa using h, by simpa using ha⟩
  | cons d r ih =>
    intro ha hl step h
    rw [List.length_cons] at hl
    have again : ∀ i d acc M, r[i]? = some d → acc.length ≤ n + 1 + i → Inv (n + 1 + i) acc M → ∃ st1, g (.v (.dat d)) st = some st1 ∧ ((∃ M1, c st1 M = .ok false M1 ∧ Inv (n + 1 + i + 1) acc M1) ∨ ∃ M1 M2 y, c st1 M = .ok true M1 ∧ f st1 M1 = .ok (.dat y) M2 ∧ Inv (n + 1 + i + 1) (acc ++ [y]) M2) := fun i d' acc M hd ha hi => by
      have := step (i + 1) d' acc M (by simpa using hd) (by omega) (by rw [show n + (i + 1) = n + 1 + i by omega]; exact hi)
      rw [show n + (i + 1) + 1 = n + 1 + i + 1 by omega] at this
      exact this
    obtain ⟨st1, e1, h1⟩ := step 0 d acc M rfl (by simpa using ha) (by simpa using h)
    rw [lcGo, e1]
    simp only
    rw [List.length_cons, show n + (r.length + 1) = n + 1 + r.length by omega]
    rcases h1 with ⟨M1, e2, i2⟩ | ⟨M1, M2, y, e2, e3, i2⟩
    · rw [e2]
      simp only
      exact ih (n + 1) M1 acc (by omega) (by omega) again (by simpa using i2)
    · rw [e2]
      simp only
      rw [e3]
      simp only
      rw [if_pos (by omega)]
      exact ih (n + 1) M2 (acc ++ [y]) (by rw [List.length_append, List.length_singleton]; omega) (by omega) again (by simpa using i2)
end Mn

set_option Elab.async false
set_option linter.all false
set_option maxRecDepth 100000
set_option maxHeartbeats 4000000
namespace Mn
open PySem PySem.Spec PyProof.Rows L2

/-! ### sorted of a tuple -/
section
variable {prog : Program} {w : World} {A : Around} {E : Value → Shared → Prop} {s : Shared}
/-- the heap once the items stand in a list of their own -/
abbrev colH (h : Heap) (vs : List Value) : Heap := (h.push (seqObj "list" #[] 0)).update h.objs.size (Obj.mapSeq (· ++ vs.toArray))
theorem collect_tup {l : Addr} {its : List Value} {R : List Value → Shared → Prop} (ht : IsTup s.heap l its.toArray) (hs : its.length ≤ sizeLine) (h : R its { s with heap := colH s.heap its }) : wpAny (model prog w) A (collect (.ref l)) R E s := by
  obtain ⟨ob, hob, hcl, ep, hda⟩ := id ht
  have hob' : (s.heap.push (seqObj "list" #[] 0)).get? l = some ob := Heap.get?_push_of_some _ hob
  have hnew : (s.heap.push (seqObj "list" #[] 0)).get? s.heap.objs.size = some (seqObj "list" #[] 0) := Heap.get?_push_size _ rfl
  unfold collect
  refine wpAny_bind (wpAny_runValue (codeAny_builtin entry_proto_collect' ?_))
  show wpAny _ _ (do again (.builtin "list.__iadd__" ⟨[← newList [], .ref l], []⟩)) _ _ s
  refine wpAny_bind (wpAny_newList (wpAny_pure ⟨Code.quiet_builtin _ (by decide +kernel), ?_⟩))
  refine codeAny_builtin entry_list_iadd' ?_
  show wpAny _ _ (Builtin.List.listExtendWith (.ref s.heap.objs.size) (.ref l) (.ref s.heap.objs.size)) _ _ { s with heap := s.heap.push (seqObj "list" #[] 0) }
  unfold Builtin.List.listExtendWith
  refine wpAny_bind (wpAny_typeOf (T := "tuple") ⟨ob, hob', hcl⟩ ?_)
  rw [if_pos (by rw [show (Value.type "tuple" == Value.type "tuple") = true from rfl, Bool.or_true])]
  refine wpAny_bind (listItems_at hob' hda ?_)
  refine wpAny_bind (listItems_at hnew rfl ?_)
  rw [if_neg (by simp)]
  have hz : (#[] ++ its.toArray).size ≤ sizeLine + 1 := by
    rw [Array.size_append, List.size_toArray]
    exact Nat.le_succ_of_le (by simpa using hs)
  refine wpAny_bind (listUpdate_at hnew rfl ?_ (Nat.zero_le _) hz)
  refine wpAny_pure ?_
  refine wpAny_bind (wpAny_load (get?_update_seq hnew _) ?_)
  have e0 : ((#[] : Array Value) ++ its.toArray).toList = its := by simp
  show wpAny _ _ (pure ((#[] : Array Value) ++ its.toArray).toList) R E _
  rw [e0]
  exact wpAny_pure h
/-- sorted of what collect gathers, by a sort of the list that it stands in -/
theorem sorted_by {l : Addr} {its : List Value} {R : Value → Shared → Prop} {W : Array Value → Prop} (hs : its.length ≤ sizeLine) (hc : ∀ {A : Around} {R' : List Value → Shared → Prop}, R' its { s with heap := colH s.heap its } → wpAny (model prog w) A (collect (.ref l)) R' E s)
    (hsort : ∀ {A : Around} {P : PySem.Fin → Shared → Prop} {E : Value → Shared → Prop}, (∀ out, W out → P (.done (.ret .none)) { s with heap := sortedAll s.heap its out }) → wpAny (model prog w) A (Builtin.«list.sort» ⟨[.ref (s.heap.objs.size + 1)], []⟩) P E { s with heap := (colH s.heap its).push (seqObj "list" its.toArray 0) })
    (h : ∀ out, W out → R (.ref (s.heap.objs.size + 1)) { s with heap := sortedAll s.heap its out }) : wpAny (model prog w) A (call (.builtin "sorted") [.ref l]) R E s := by
  refine Calls.call_function_entry kind_sorted plain_sorted entry_sorted (args_sorted1 _) ?_
  unfold Builtin.«sorted»
  refine wpAny_bind (m := checkCount "sorted" 1 1 _) (wpAny_pure ?_)
  refine wpAny_bind (hc ?_)
  refine wpAny_bind (wpAny_newList ?_ hs)
  have hz : (colH s.heap its).objs.size = s.heap.objs.size + 1 := by rw [Heap.size_update, size_push']
  have hl : ((colH s.heap its).push (seqObj "list" its.toArray 0)).get? (s.heap.objs.size + 1) = some (seqObj "list" its.toArray 0) := by
    rw [← hz]
    exact Heap.get?_push_size _ rfl
  show wpAny _ _ _ _ _ { s with heap := (colH s.heap its).push (seqObj "list" its.toArray 0) }
  rw [hz]
  exact wpAny_bind (wpAny_holding (wpAny_call_entry slot_list_sort ⟨_, hl, rfl⟩ entry_list_sort (hsort fun out k => ⟨_, rfl, wpAny_pure ⟨_, rfl, h out k⟩⟩) (args_list_sort _)))
theorem colH_old {h : Heap} {its : List Value} {b : Addr} {o : Obj} (q : h.get? b = some o) : ((colH h its).push (seqObj "list" its.toArray 0)).get? b = some o := by
  have hlt : b < h.objs.size := Heap.lt_size q
  refine Heap.get?_push_of_some _ ?_
  rw [Heap.get?_update_ne _ _ _ _ (Nat.ne_of_lt hlt)]
  exact Heap.get?_push_of_some _ q
theorem colH_new (h : Heap) (its : List Value) : ((colH h its).push (seqObj "list" its.toArray 0)).get? (h.objs.size + 1) = some (seqObj "list" its.toArray 0) := by
  have hz : (colH h its).objs.size = h.objs.size + 1 := by rw [Heap.size_update, size_push']
  rw [← hz]
  exact Heap.get?_push_size _ rfl
end
section
variable {X : Cx}
/-- of a tuple of tuples of ints -/
def rSortTT (K : PySem.W.Frag) (d : Nat) (B : Int) : List V → Hp → VK → Prop := fun vs H Q => ∃ (a : Addr) (xs : List V), vs = [V.ref a] ∧ SqT K H a xs ∧ xs.length < 64 ∧ (∀ x ∈ xs, ∃ ns, TupI K H x ns ∧ ns.length = d ∧ TS.Bd B ns) ∧
  ∀ (ys : List V) (p : Addr), ys.Perm xs → ys.Pairwise (fun x y => ∀ n m, TupI K H x n → TupI K H y m → TS.code B n ≤ TS.code B m) → H p = none → Q (.ref p) (upd H p (.lst ys))
theorem cr_sortTT {d : Nat} {B : Int} (hd : 1 ≤ d) : CallR X (.builtin "sorted") (rSortTT X.K d B) := by
  rintro pins s σ H vs us Q I r ⟨a, xs, rfl, hs, h64, hx, q⟩
  obtain ⟨its, rv, ht, hz⟩ := I.tuple hs
  rw [Vals.ref1 r]
  obtain ⟨e1, e2⟩ := bkV_refs rv fun x m => by
    obtain ⟨_, ⟨t, e, _⟩, _⟩ := hx x m
    exact ⟨t, e⟩
  have hlv : its.length < 64 := by rw [← rv.length]; exact h64
  have ok : TS.TupsOk s.heap d B its := fun v hv => by
    obtain ⟨t, rfl⟩ := e2 v hv
    obtain ⟨ns, ⟨_, e, k⟩, hn, hb⟩ := hx (V.ref t) (by rw [e1]; exact List.mem_map.mpr ⟨_, hv, rfl⟩)
    cases e
    exact ⟨ns, tupI_raw I k, hn, hb⟩
  have hsl : its.length ≤ sizeLine := by rw [sizeLine_eq]; omega
  refine sorted_by (W := fun out => out.toList.Perm its ∧ out.toList.Pairwise (fun u v => TS.code B (TS.intsOf s.heap u) ≤ TS.code B (TS.intsOf s.heap v))) hsl (fun h => collect_tup ht hsl h) (fun {A P E} k => ?_) fun out ⟨h1, h2⟩ => ?_
  · refine TS.sort_tups (colH_new s.heap its) hlv hd (ok.keeps fun b o hb _ => colH_old hb) (fun v => TS.code B (TS.intsOf s.heap v)) (fun v hv ns t => ?_) fun out h1 h2 => k out ⟨h1, h2⟩
    obtain ⟨ms, tm, _⟩ := ok v hv
    have : ns = ms := t.ints.symm.trans (tm.keeps fun b o hb _ => colH_old hb).ints
    rw [this]
    exact congrArg (TS.code B) tm.ints
  · obtain ⟨ep, hep⟩ := PyProof.Rows.sortedAll_at s.heap its out
    have h3 : ∀ u ∈ out.toList, ∃ a, u = Value.ref a := fun u hu => e2 u (h1.mem_iff.mp hu)
    have hp : (out.toList.map bkV).Perm xs := e1 ▸ h1.map bkV
    have hlen : (out.toList.map bkV).length ≤ sizeLine := hp.length_eq ▸ hz
    refine ⟨.ref _, upd H (s.heap.objs.size + 1) (.lst (out.toList.map bkV)), I.laid (t' := s.toks) (fun _ _ => PyProof.Rows.sortedAll_old) (Nat.le_succ _) ⟨hlen, out.toList, ep, bkV_vals h3, hep⟩, rfl, q _ _ hp ?_ (I.hok.fresh (Nat.le_succ _))⟩
    rw [List.pairwise_map]
    refine h2.imp fun {u v} huv n m ⟨t, et, kt⟩ ⟨t', et', kt'⟩ => ?_
    have i1 : TS.intsOf s.heap u = n := by rw [bkV_ref et]; exact (tupI_raw I kt).ints
    have i2 : TS.intsOf s.heap v = m := by rw [bkV_ref et']; exact (tupI_raw I kt').ints
    rw [← i1, ← i2]
    exact huv
/-- of a tuple of ints -/
def rSortTI (K : PySem.W.Frag) : List V → Hp → VK → Prop := fun vs H Q => ∃ (a : Addr) (ns : List Int), vs = [V.ref a] ∧ SqT K H a (ns.map V.int) ∧ ns.length < 64 ∧
  ∀ (ms : List Int) (p : Addr), ms.Perm ns → ms.Pairwise (· ≤ ·) → H p = none → Q (.ref p) (upd H p (.lst (ms.map V.int)))
theorem cr_sortTI : CallR X (.builtin "sorted") (rSortTI X.K) := by
  rintro pins s σ H vs us Q I r ⟨a, ns, rfl, hs, h64, q⟩
  obtain ⟨its, rv, ht, hz⟩ := I.tuple hs
  rw [Vals.ref1 r]
  have hi := rv.ints
  have hlv : its.length < 64 := by rw [hi.length]; exact h64
  have hsl : its.length ≤ sizeLine := by rw [sizeLine_eq]; omega
  refine sorted_by (W := fun out => ∃ ms, IntsAre out.toList ms ∧ ms.Perm ns ∧ ms.Pairwise (· ≤ ·)) hsl (fun h => collect_tup ht hsl h) (fun {A P E} k => ?_) fun out ⟨ms, h1, h2, h3⟩ => ?_
  · exact PyProof.Rows.list_sort_tree (colH_new s.heap its) hi hlv fun out ms h1 h2 h3 => k out ⟨ms, h1, h2, h3⟩
  · obtain ⟨ep, hep⟩ := PyProof.Rows.sortedAll_at s.heap its out
    have hlen : (ms.map V.int).length ≤ sizeLine := by rw [List.length_map, h2.length_eq]; exact Nat.le_of_lt (Nat.lt_of_lt_of_le h64 (by rw [sizeLine_eq]; omega))
    exact ⟨.ref _, upd H (s.heap.objs.size + 1) (.lst (ms.map V.int)), I.laid (t' := s.toks) (fun _ _ => PyProof.Rows.sortedAll_old) (Nat.le_succ _) ⟨hlen, out.toList, ep, vals_of_ints h1, hep⟩, rfl, q ms _ h2 h3 (I.hok.fresh (Nat.le_succ _))⟩
end
/-! ### rows of ints -/
def rwT (r : List Int) : PyData := .tuple (r.map .int)
def rowsOf : List PyData → Option (List (List Int))
  | [] => some []
  | .tuple ds :: r => (intsOf ds).bind fun ns => (rowsOf r).map (ns :: ·)
  | _ :: _ => none
theorem rowsOf_map (rows : List (List Int)) : rowsOf (rows.map rwT) = some rows := by
  induction rows with
  | nil => rfl
  | cons r t ih =>
    show (intsOf (r.map .int)).bind (fun ns => (rowsOf (t.map rwT)).map (ns :: ·)) = _
    rw [intsOf_map, ih]
    rfl
theorem rowsOf_some : ∀ {ds : List PyData} {rows : List (List Int)}, rowsOf ds = some rows → ds = rows.map rwT
  | [], rows, h => by
    cases (show [] = rows from Option.some.inj h)
    rfl
  | d :: ds, rows, h => by
    cases d with
    | tuple es =>
      obtain ⟨ns, e1, h⟩ := Option.bind_eq_some_iff.mp (show (intsOf es).bind (fun ns => (rowsOf ds).map (ns :: ·)) = some rows from h)
      obtain ⟨t, e2, rfl⟩ := Option.map_eq_some_iff.mp h
      rw [rowsOf_some e2, intsOf_some e1]
      rfl
    | _ => cases h
/-- all of one length, not 0, of small labels -/
def okR (rows : List (List Int)) : Bool := decide (rows.length < 64) && rows.all fun r => decide (r.length = (rows.head?.getD []).length) && decide (1 ≤ r.length) && r.all fun x => decide (0 ≤ x) && decide (x < 64)
structure OkR (d : Nat) (rows : List (List Int)) : Prop where
  few : rows.length < 64
  pos : 1 ≤ d
  row : ∀ r ∈ rows, r.length = d ∧ TS.Bd 64 r
theorem okR_iff {rows : List (List Int)} (h : okR rows = true) : ∃ d, OkR d rows := by
  unfold okR at h
  rw [Bool.and_eq_true, decide_eq_true_eq, List.all_eq_true] at h
  obtain ⟨h1, h2⟩ := h
  have h3 : ∀ r ∈ rows, r.length = (rows.head?.getD []).length ∧ 1 ≤ r.length ∧ TS.Bd 64 r := fun r hr => by
    have q := h2 r hr
    rw [Bool.and_eq_true, Bool.and_eq_true, decide_eq_true_eq, decide_eq_true_eq, List.all_eq_true] at q
    exact ⟨q.1.1, q.1.2, fun x hx => by simpa using q.2 x hx⟩
  cases rows with
  | nil => exact ⟨1, h1, Nat.le_refl _, fun r hr => by cases hr⟩
  | cons r t =>
    refine ⟨r.length, h1, (h3 r (List.mem_cons_self ..)).2.1, fun q hq => ?_⟩
    obtain ⟨a, b, c⟩ := h3 q hq
    exact ⟨a, c⟩
theorem OkR.ok {d : Nat} {rows : List (List Int)} (h : OkR d rows) : okR rows = true := by
  unfold okR
  rw [Bool.and_eq_true, decide_eq_true_eq, List.all_eq_true]
  refine ⟨h.few, fun r hr => ?_⟩
  obtain ⟨h1, h2⟩ := h.row r hr
  have h3 : (rows.head?.getD []).length = d := by
    cases rows with
    | nil => cases hr
    | cons q t => exact (h.row q (List.mem_cons_self ..)).1
  have := h.pos
  rw [Bool.and_eq_true, Bool.and_eq_true, decide_eq_true_eq, decide_eq_true_eq, List.all_eq_true]
  exact ⟨⟨h1.trans h3.symm, by omega⟩, fun x hx => by simpa using h2 x hx⟩
theorem code_inj {B : Int} : ∀ {a b : List Int}, a.length = b.length → TS.Bd B a → TS.Bd B b → TS.code B a = TS.code B b → a = b
  | [], [], _, _, _, _ => rfl
  | [], _ :: _, h, _, _, _ => by cases h
  | _ :: _, [], h, _, _, _ => by cases h
  | x :: a, y :: b, h, ha, hb, e => by
    have hl : a.length = b.length := Nat.succ.inj h
    rcases Int.lt_trichotomy x y with g | g | g
    · exact absurd e (Int.ne_of_lt (TS.code_lt hl ha.tail hb.tail g))
    · subst g
      have e2 : TS.code B a = TS.code B b := by
        have e : x * B ^ a.length + TS.code B a = x * B ^ b.length + TS.code B b := e
        rw [hl] at e
        omega
      rw [code_inj hl ha.tail hb.tail e2]
    · exact absurd e.symm (Int.ne_of_lt (TS.code_lt hl.symm hb.tail ha.tail g))
def sortR (rows : List (List Int)) : List (List Int) := rows.mergeSort fun a b => decide (TS.code 64 a ≤ TS.code 64 b)
theorem sortR_perm (rows : List (List Int)) : (sortR rows).Perm rows := List.mergeSort_perm ..
theorem sortR_sorted (rows : List (List Int)) : (sortR rows).Pairwise fun a b => TS.code 64 a ≤ TS.code 64 b := by
  have h := List.pairwise_mergeSort (le := fun a b : List Int => decide (TS.code 64 a ≤ TS.code 64 b)) (by intro a b c; simp; omega) (by intro a b; simp; omega) rows
  exact h.imp (by intro a b; simp)
theorem sortR_eq {d : Nat} {rows t : List (List Int)} (h : OkR d rows) (hp : t.Perm rows) (hs : t.Pairwise fun a b => TS.code 64 a ≤ TS.code 64 b) : t = sortR rows := by
  refine (hp.trans (sortR_perm rows).symm).eq_of_pairwise (fun a b ha hb h1 h2 => ?_) hs (sortR_sorted rows)
  have ma := h.row a (hp.mem_iff.mp ha)
  have mb := h.row b ((sortR_perm rows).mem_iff.mp hb)
  exact code_inj (ma.1.trans mb.1.symm) ma.2 mb.2 (Int.le_antisymm h1 h2)
theorem RpA.perm {K : PySem.W.Frag} {F : Addr → Prop} {H : Hp} {ys xs : List V} (p : ys.Perm xs) : ∀ {ds : List PyData}, RpA K F H xs ds → ∃ es, es.Perm ds ∧ RpA K F H ys es := by
  induction p with
  | nil => exact fun h => ⟨_, .refl _, h⟩
  | cons x _ ih =>
    intro ds h
    cases h with
    | cons h1 h2 =>
      obtain ⟨es, p, r⟩ := ih h2
      exact ⟨_ :: es, p.cons _, .cons h1 r⟩
  | swap x y l =>
    intro ds h
    cases h with
    | cons h1 h2 =>
      cases h2 with
      | cons h2 h3 => exact ⟨_ :: _ :: _, .swap .., .cons h2 (.cons h1 h3)⟩
  | trans _ _ ih1 ih2 =>
    intro ds h
    obtain ⟨es, p, r⟩ := ih2 h
    obtain ⟨es', p', r'⟩ := ih1 r
    exact ⟨es', p'.trans p, r'⟩
theorem rp_row {K : PySem.W.Frag} {F : Addr → Prop} {H : Hp} {x : V} {r : List Int} (h : Rp K F H x (rwT r)) : TupI K H x r := by
  cases h with
  | @tup a xs ds h1 h2 =>
    rw [RpA.int_inv h2] at h1
    exact ⟨a, rfl, .inl (.inl h1)⟩
theorem rows_mem {K : PySem.W.Frag} {F : Addr → Prop} {H : Hp} {xs : List V} {rows : List (List Int)} (h : RpA K F H xs (rows.map rwT)) : ∀ x ∈ xs, ∃ r ∈ rows, TupI K H x r := fun x hx => by
  obtain ⟨i, hi⟩ := List.getElem?_of_mem hx
  obtain ⟨d, hd, rp⟩ := h.get' hi
  rw [List.getElem?_map] at hd
  obtain ⟨r, hr, rfl⟩ := Option.map_eq_some_iff.mp hd
  exact ⟨r, List.mem_of_getElem? hr, rp_row rp⟩
/-- rows sorted as things are sorted as data -/
theorem rows_sorted {K : PySem.W.Frag} {F : Addr → Prop} {H : Hp} {d : Nat} {xs ys : List V} {rows : List (List Int)} (ok : OkR d rows) (h : RpA K F H xs (rows.map rwT)) (p : ys.Perm xs) (hs : ys.Pairwise fun x y => ∀ n m, TupI K H x n → TupI K H y m → TS.code 64 n ≤ TS.code 64 m) :
    RpA K F H ys ((sortR rows).map rwT) := by
  obtain ⟨es, pe, r⟩ := RpA.perm p h
  have hrow : ∃ t : List (List Int), es = t.map rwT ∧ t.Perm rows := by
    have q := pe
    have e1 : rowsOf es ≠ none := by
      have all : ∀ l : List PyData, (∀ z ∈ l, ∃ r, z = rwT r) → rowsOf l ≠ none := by
        intro l
        induction l with
        | nil => exact fun _ h => by cases h
        | cons z t ih =>
          intro h
          obtain ⟨r, rfl⟩ := h z (List.mem_cons_self ..)
          show ((intsOf (r.map .int)).bind fun ns => (rowsOf t).map (ns :: ·)) ≠ none
          rw [intsOf_map]
          intro e
          exact ih (fun z hz => h z (List.mem_cons_of_mem _ hz)) (Option.map_eq_none_iff.mp e)
      refine all es fun z hz => ?_
      obtain ⟨r, _, e⟩ := List.mem_map.mp (pe.mem_iff.mp hz)
      exact ⟨r, e.symm⟩
    obtain ⟨t, ht⟩ := Option.ne_none_iff_exists'.mp e1
    have e2 := rowsOf_some ht
    refine ⟨t, e2, ?_⟩
    rw [e2] at q
    have inj : ∀ a b : List Int, rwT a = rwT b → a = b := fun a b e => by
      have e : a.map PyData.int = b.map PyData.int := by
        unfold rwT at e
        injection e
      have := congrArg intsOf e
      rw [intsOf_map, intsOf_map] at this
      exact Option.some.inj this
    have q2 := q.filterMap fun d => match d with | .tuple es => intsOf es | _ => none
    have back : ∀ l : List (List Int), (l.map rwT).filterMap (fun d => match d with | .tuple es => intsOf es | _ => none) = l := fun l => by
      rw [List.filterMap_map]
      have : ((fun d => match d with | .tuple es => intsOf es | _ => none) ∘ rwT) = fun r : List Int => some r := by
        funext r
        exact intsOf_map r
      rw [this, List.filterMap_some]
    rw [back, back] at q2
    exact q2
  obtain ⟨t, rfl, pt⟩ := hrow
  have : t = sortR rows := by
    refine sortR_eq ok pt ?_
    rw [List.pairwise_iff_getElem] at hs ⊢
    intro i j hi hj hij
    have hl := RpA.length r
    rw [List.length_map] at hl
    obtain ⟨x, hx, rx⟩ := r.get (i := i) (d := rwT t[i]) (by rw [List.getElem?_map, List.getElem?_eq_getElem hi]; rfl)
    obtain ⟨y, hy, ry⟩ := r.get (i := j) (d := rwT t[j]) (by rw [List.getElem?_map, List.getElem?_eq_getElem hj]; rfl)
    have hx' := List.getElem?_eq_some_iff.mp hx
    have hy' := List.getElem?_eq_some_iff.mp hy
    obtain ⟨a1, a2⟩ := hx'
    obtain ⟨b1, b2⟩ := hy'
    exact hs i j a1 b1 hij _ _ (a2 ▸ rp_row rx) (b2 ▸ rp_row ry)
  rw [← this]
  exact r
/-- sorted(x): ints, or rows of ints -/
def gSort : List PyData → Option Sl
  | [.list ds] => match intsOf ds with
    | some ns => some (.own ((sortI ns).map .int))
    | none => (rowsOf ds).bind fun rows => if okR rows = true then some (.own ((sortR rows).map rwT)) else none
  | [.tuple ds] => match intsOf ds with
    | some ns => if ns.length < 64 then some (.own ((sortI ns).map .int)) else none
    | none => (rowsOf ds).bind fun rows => if okR rows = true then some (.own ((sortR rows).map rwT)) else none
  | _ => none
section
variable {X : Cx} {P : Pm}
theorem cr_or {f : Value} {r r' : List V → Hp → VK → Prop} (h : CallR X f r) (h' : CallR X f r') : CallR X f fun xs H Q => r xs H Q ∨ r' xs H Q := by
  rintro pins s σ H vs us Q I rv (q | q)
  · exact h pins s σ H vs us Q I rv q
  · exact h' pins s σ H vs us Q I rv q
theorem cr_ex {α : Sort _} {f : Value} {r : α → List V → Hp → VK → Prop} (h : ∀ a, CallR X f (r a)) : CallR X f fun xs H Q => ∃ a, r a xs H Q := by
  rintro pins s σ H vs us Q I rv ⟨a, q⟩
  exact h a pins s σ H vs us Q I rv q
theorem bi_sort : BiS X "sorted" gSort := by
  refine ⟨_, cr_or (cr_or cr_sortedI (cr_ex fun d : { d : Nat // 1 ≤ d } => cr_sortT (B := 64) d.2)) (cr_or cr_sortTI (cr_ex fun d : { d : Nat // 1 ≤ d } => cr_sortTT (B := 64) d.2)), ?_⟩
  intro Y M H xs ds d Q g0 h e q
  match ds, e with
  | [.list es], e =>
    obtain ⟨x, rfl, dx⟩ := one h rfl
    obtain ⟨a, ys, rfl, h1, h2⟩ := dx.lst
    have e : (match intsOf es with | some ns => some (Sl.own ((sortI ns).map .int)) | none => (rowsOf es).bind fun rows => if okR rows = true then some (Sl.own ((sortR rows).map rwT)) else none) = some d := e
    cases ei : intsOf es with
    | some ns =>
      rw [ei] at e
      cases e
      rw [intsOf_some ei] at h2
      rw [RpA.int_inv h2] at h1
      refine .inl (.inl ⟨a, ns, rfl, h1, fun ns' p hperm hsort hp => ?_⟩)
      rw [sorted_eq (hperm.trans (sortI_perm ns).symm) hsort (sortI_sorted ns)]
      exact q Y _ _ (Step.laid hp) (g0.laid hp) ⟨p, rfl, Ow.new g0 hp RpA.ints, hp⟩
    | none =>
      rw [ei] at e
      obtain ⟨rows, er, e3⟩ := Option.bind_eq_some_iff.mp e
      have hr := rowsOf_some er
      subst hr
      cases ok : okR rows with
      | false => rw [ok] at e3; cases e3
      | true =>
        rw [ok] at e3
        cases e3
        obtain ⟨d, o⟩ := okR_iff ok
        refine .inl (.inr ⟨⟨d, o.pos⟩, a, ys, rfl, h1, ?_, fun x hx => ?_, fun zs p hperm hsort hp => ?_⟩)
        · rw [RpA.length h2, List.length_map]
          exact o.few
        · obtain ⟨r, hr, t⟩ := rows_mem h2 x hx
          exact ⟨r, t, (o.row r hr).1, (o.row r hr).2⟩
        · exact q Y _ _ (Step.laid hp) (g0.laid hp) ⟨p, rfl, Ow.new g0 hp (rows_sorted o h2 hperm hsort), hp⟩
  | [.tuple es], e =>
    obtain ⟨x, rfl, dx⟩ := one h rfl
    obtain ⟨a, ys, rfl, h1, h2⟩ := dx.tup
    have e : (match intsOf es with | some ns => if ns.length < 64 then some (Sl.own ((sortI ns).map .int)) else none | none => (rowsOf es).bind fun rows => if okR rows = true then some (Sl.own ((sortR rows).map rwT)) else none) = some d := e
    cases ei : intsOf es with
    | some ns =>
      rw [ei] at e
      by_cases hl : ns.length < 64
      · have e : (if ns.length < 64 then some (Sl.own ((sortI ns).map .int)) else none) = some d := e
        rw [if_pos hl] at e
        cases e
        rw [intsOf_some ei] at h2
        rw [RpA.int_inv h2] at h1
        refine .inr (.inl ⟨a, ns, rfl, h1, hl, fun ns' p hperm hsort hp => ?_⟩)
        rw [sorted_eq (hperm.trans (sortI_perm ns).symm) hsort (sortI_sorted ns)]
        exact q Y _ _ (Step.laid hp) (g0.laid hp) ⟨p, rfl, Ow.new g0 hp RpA.ints, hp⟩
      · have e : (if ns.length < 64 then some (Sl.own ((sortI ns).map .int)) else none) = some d := e
        rw [if_neg hl] at e
        cases e
    | none =>
      rw [ei] at e
      obtain ⟨rows, er, e3⟩ := Option.bind_eq_some_iff.mp e
      have hr := rowsOf_some er
      subst hr
      cases ok : okR rows with
      | false => rw [ok] at e3; cases e3
      | true =>
        rw [ok] at e3
        cases e3
        obtain ⟨d, o⟩ := okR_iff ok
        refine .inr (.inr ⟨⟨d, o.pos⟩, a, ys, rfl, h1, ?_, fun x hx => ?_, fun zs p hperm hsort hp => ?_⟩)
        · rw [RpA.length h2, List.length_map]
          exact o.few
        · obtain ⟨r, hr, t⟩ := rows_mem h2 x hx
          exact ⟨r, t, (o.row r hr).1, (o.row r hr).2⟩
        · exact q Y _ _ (Step.laid hp) (g0.laid hp) ⟨p, rfl, Ow.new g0 hp (rows_sorted o h2 hperm hsort), hp⟩
/-- each once -/
def ddL : List (List Int) → List (List Int)
  | [] => []
  | x :: r => if x ∈ r then ddL r else x :: ddL r
theorem ddL_mem {x : List Int} : ∀ {l : List (List Int)}, x ∈ ddL l ↔ x ∈ l
  | [] => Iff.rfl
  | y :: r => by
    rw [ddL]
    split
    · rename_i h
      rw [ddL_mem, List.mem_cons]
      exact ⟨.inr, fun q => q.elim (fun e => e ▸ h) id⟩
    · rw [List.mem_cons, List.mem_cons, ddL_mem]
theorem ddL_nodup : ∀ l : List (List Int), (ddL l).Nodup
  | [] => List.nodup_nil
  | y :: r => by
    rw [ddL]
    split
    · exact ddL_nodup r
    · rename_i h
      exact List.nodup_cons.mpr ⟨fun q => h (ddL_mem.mp q), ddL_nodup r⟩
theorem ddL_len : ∀ l : List (List Int), (ddL l).length ≤ l.length
  | [] => Nat.le_refl _
  | y :: r => by
    rw [ddL]
    have := ddL_len r
    split
    · rw [List.length_cons]
      omega
    · rw [List.length_cons, List.length_cons]
      omega
/-- sorted(set(x)) of rows -/
def ddR (rows : List (List Int)) : List (List Int) := sortR (ddL rows)
theorem ddR_mem {x : List Int} {l : List (List Int)} : x ∈ ddR l ↔ x ∈ l := ((sortR_perm (ddL l)).mem_iff).trans ddL_mem
theorem ddR_nodup (l : List (List Int)) : (ddR l).Nodup := (sortR_perm (ddL l)).nodup_iff.mpr (ddL_nodup l)
theorem ddR_len (l : List (List Int)) : (ddR l).length ≤ l.length := by
  unfold ddR
  rw [(sortR_perm (ddL l)).length_eq]
  exact ddL_len l
def gSortSet : List PyData → Option Sl
  | [.list ds] => (rowsOf ds).bind fun rows => if okR rows = true then some (.own ((ddR rows).map rwT)) else none
  | _ => none
variable {p p2 pos pos2 : Pos} {e : Expr} {f : Ex Val}
theorem OkR.sub {d : Nat} {rows t : List (List Int)} (o : OkR d rows) (h : ∀ r ∈ t, r ∈ rows) (hl : t.length < 64) : OkR d t := ⟨hl, o.pos, fun r hr => o.row r (h r hr)⟩
theorem rows_refs {K : PySem.W.Frag} {F : Addr → Prop} {H : Hp} : ∀ {rows : List (List Int)} {xs : List V}, RpA K F H xs (rows.map rwT) → ∃ ks : List (Addr × List Int), xs = ks.map (fun p => V.ref p.1) ∧ rows = ks.map (·.2) ∧ ∀ p ∈ ks, Rp K F H (.ref p.1) (rwT p.2)
  | [], xs, h => by
    cases h
    exact ⟨[], rfl, rfl, fun p hp => by cases hp⟩
  | r :: t, xs, h => by
    cases h with
    | cons h1 h2 =>
      obtain ⟨a, rfl, ht⟩ := rp_row h1
      obtain ⟨ks, rfl, e, hk⟩ := rows_refs h2
      refine ⟨(a, r) :: ks, rfl, by rw [e]; rfl, fun p hp => ?_⟩
      rcases List.mem_cons.mp hp with rfl | hp
      · exact h1
      · exact hk p hp
theorem rows_rpa {K : PySem.W.Frag} {F : Addr → Prop} {H : Hp} : ∀ {ks : List (Addr × List Int)}, (∀ p ∈ ks, Rp K F H (.ref p.1) (rwT p.2)) → RpA K F H (ks.map fun p => V.ref p.1) ((ks.map (·.2)).map rwT)
  | [], _ => .nil
  | p :: r, h => .cons (h p (List.mem_cons_self ..)) (rows_rpa fun q hq => h q (List.mem_cons_of_mem _ hq))
theorem rp_sq {K : PySem.W.Frag} {F : Addr → Prop} {H : Hp} {a : Addr} {r : List Int} (h : Rp K F H (.ref a) (rwT r)) : SqT K H a (r.map V.int) := by
  obtain ⟨_, e, k⟩ := rp_row h
  cases e
  exact k
theorem sx_sortSet (hc : X.calm = true) (hu : X.A.units + 64 < cLine) (hg : Gl X "sorted") (hm : X.mg "sorted" = none) (hg2 : Gl X "set") (hm2 : X.mg "set" = none) (hv : bootBuiltins "sorted" = some (.builtin "sorted")) (hv2 : bootBuiltins "set" = some (.type "set")) (he : SE X P e f)
    (hs : starEach [e] X.env = (false, eval e X.env) :: starEach [] X.env := by rfl)
    (hs2 : starEach [.Call (.Name "set" p2) [e] [] pos2] X.env = (false, eval (.Call (.Name "set" p2) [e] [] pos2) X.env) :: starEach [] X.env := by rfl) :
    SX X P (.Call (.Name "sorted" p) [.Call (.Name "set" p2) [e] [] pos2] [] pos) (xFn gSortSet (aCons f aNil)) := by
  refine PE.imp (pe_callB (cr_sortedT hc) hg hm hv (pa_cons (pe_callTy (cr_setOfT hc hu) hg2 hm2 hv2 (pa_cons he pa_nil hs) (he := hs)) pa_nil hs2) (he := hs2)) fun σ H Q h => ?_
  obtain ⟨Y, M, st, g0, fr, h⟩ := h
  have h : Post X.K P (RS X.K) st σ Y H ((f st M).bind fun v M1 => Out.ofOpt ((derefAll st M1 [v]).bind gSortSet) M1) Q := by
    have e : xFn gSortSet (aCons f aNil) st M = (f st M).bind fun v M1 => Out.ofOpt ((derefAll st M1 [v]).bind gSortSet) M1 := by
      unfold xFn aCons aNil
      cases f st M <;> rfl
    rw [← e]
    exact h
  refine ⟨Y, M, st, g0, fr, Post.bind (R1 := RV X.K) shS h fun va M1 Y1 H1 x _ s1 g1 r1 q1 => ?_⟩
  obtain ⟨v, ev, q⟩ := Post.opt q1
  obtain ⟨ds, ed, e2⟩ := Option.bind_eq_some_iff.mp ev
  obtain ⟨d, e3, e4⟩ := Option.bind_eq_some_iff.mp (show ((deref st M1 va).bind fun d => (derefAll st M1 []).map (d :: ·)) = some ds from ed)
  cases (show [d] = ds from Option.some.inj e4)
  have dr := Dr.of g1 (fr.step g0 s1) r1 e3
  cases d with
  | list es =>
    obtain ⟨rows, er, e5⟩ := Option.bind_eq_some_iff.mp (show (rowsOf es).bind (fun rows => if okR rows = true then some (Sl.own ((ddR rows).map rwT)) else none) = some v from e2)
    have hr := rowsOf_some er
    subst hr
    cases ok : okR rows with
    | false => rw [ok] at e5; cases e5
    | true =>
      rw [ok] at e5
      cases e5
      obtain ⟨d, o⟩ := okR_iff ok
      obtain ⟨a, ys, rfl, h1, h2⟩ := dr.lst
      obtain ⟨ks, rfl, rfl, hk⟩ := rows_refs h2
      refine ⟨a, ks, rfl, h1, fun p hp => rp_sq (hk p hp), by have := o.few; rwa [List.length_map] at this, fun b L hb hL1 hL2 => ?_⟩
      have st2 : Step Y1 H1 Y1 (upd H1 b (SetTO X.prog X.w b L)) := Step.laid hb
      have hk2 : ∀ p ∈ L, Rp X.K Y1.F (upd H1 b (SetTO X.prog X.w b L)) (.ref p.1) (rwT p.2) := fun p hp => Rp.wk (Step.wk g1 st2) _ (hk p (hL1 p hp))
      refine ⟨b, L, d, 64, rfl, upd_same, fun p hp => rp_sq (hk2 p hp), o.pos, fun p hp => o.row p.2 (List.mem_map.mpr ⟨p, hL1 p hp, rfl⟩), fun L' p pm nd few srt hp => ?_⟩
      have hpb : p ≠ b := fun e => by
        rw [e, upd_same] at hp
        cases hp
      have hp1 : H1 p = none := by rwa [upd_ne hpb] at hp
      have hmem : ∀ x, x ∈ L'.map (·.2) ↔ x ∈ ks.map (·.2) := fun x => by
        constructor
        · intro h
          obtain ⟨z, hz, rfl⟩ := List.mem_map.mp h
          exact List.mem_map.mpr ⟨z, hL1 z (pm.mem_iff.mp hz), rfl⟩
        · intro h
          obtain ⟨z, hz, rfl⟩ := List.mem_map.mp h
          exact ((pm.map (·.2)).mem_iff).mpr (hL2 z hz)
      have pd : (L'.map (·.2)).Perm (ddL (ks.map (·.2))) := (List.perm_ext_iff_of_nodup nd (ddL_nodup _)).mpr fun x => (hmem x).trans ddL_mem.symm
      have od : OkR d (ddL (ks.map (·.2))) := o.sub (fun r hr => ddL_mem.mp hr) (Nat.lt_of_le_of_lt (ddL_len _) o.few)
      have e9 : L'.map (·.2) = ddR (ks.map (·.2)) := sortR_eq od pd (List.pairwise_map.mpr srt)
      have g2 : GR X.K Y1 M1 (upd H1 b (SetTO X.prog X.w b L)) := g1.laid hb
      have rr : RpA X.K Y1.F (upd H1 b (SetTO X.prog X.w b L)) (L'.map fun q => V.ref q.1) ((ddR (ks.map (·.2))).map rwT) := by
        rw [← e9]
        exact rows_rpa fun z hz => hk2 z (pm.mem_iff.mp hz)
      refine q Y1 _ _ ⟨fun _ _ h => h, fun _ h => h, fun _ _ h => .inl h, fun _ h => .inl h, fun c u hu _ => ?_⟩ (g2.laid hp) ⟨p, rfl, Ow.new g2 hp rr, hp1⟩
      rw [upd_ne (fun e => by rw [e, hp1] at hu; cases hu), upd_ne (fun e => by rw [e, hb] at hu; cases hu)]
      exact hu
  | _ => cases e2
end
/-! ### sum of a list, a tuple -/
def gSumA : List PyData → Option PyData
  | [.list ds] => (intsOf ds).map fun ns => .int ns.sum
  | [.tuple ds] => (intsOf ds).map fun ns => .int ns.sum
  | _ => none
section
variable {X : Cx}
def rSumT (K : PySem.W.Frag) : List V → Hp → VK → Prop := fun vs H Q => ∃ (a : Addr) (ns : List Int), vs = [V.ref a] ∧ SqT K H a (ns.map V.int) ∧ Q (.int ns.sum) H
theorem cr_sumT (hc : X.calm = true) : CallR X (.builtin "sum") (rSumT X.K) := by
  rintro pins s σ H vs us Q I r ⟨a, ns, rfl, hs, q⟩
  obtain ⟨its, rv, ht, _⟩ := I.tuple hs
  rw [Vals.ref1 r]
  have hi := rv.ints
  obtain ⟨xs, e⟩ := hi.allInts.items
  have hn : numsOf (intItems xs).toList = ns := by rw [← e]; exact hi.numsOf
  rw [nums_intItems] at hn
  rw [e] at ht
  refine PySem.W.ktm_sumG (I.ok.hd hc) ht fun h' tk t' hk => ?_
  have k : EP X pins σ Q (.int ns.sum t') { s with heap := h', toks := tk } := ⟨.int _, H, I.kept hk, ⟨_, rfl⟩, q⟩
  rw [preSum_eq, List.take_of_length_le (by simp), hn]
  exact k
theorem bi_sumA (hc : X.calm = true) : BiR X "sum" gSumA := by
  refine ⟨_, cr_or (cr_sum hc) (cr_sumT hc), ?_⟩
  intro Y M H xs ds d Q g0 h e q
  match ds, e with
  | [.list es], e =>
    obtain ⟨ns, eb, rfl⟩ := Option.map_eq_some_iff.mp (show (intsOf es).map (fun bs => PyData.int bs.sum) = some d from e)
    obtain ⟨x, rfl, dx⟩ := one h rfl
    obtain ⟨a, ys, rfl, h1, h2⟩ := dx.lst
    rw [intsOf_some eb] at h2
    rw [RpA.int_inv h2] at h1
    exact .inl ⟨a, ns, rfl, h1, q Y H _ (Step.refl Y H) g0 (.int _)⟩
  | [.tuple es], e =>
    obtain ⟨ns, eb, rfl⟩ := Option.map_eq_some_iff.mp (show (intsOf es).map (fun bs => PyData.int bs.sum) = some d from e)
    obtain ⟨x, rfl, dx⟩ := one h rfl
    obtain ⟨a, ys, rfl, h1, h2⟩ := dx.tup
    rw [intsOf_some eb] at h2
    rw [RpA.int_inv h2] at h1
    exact .inr ⟨a, ns, rfl, h1, q Y H _ (Step.refl Y H) g0 (.int _)⟩
end
end Mn

set_option Elab.async false
set_option linter.all false
set_option maxRecDepth 100000
set_option maxHeartbeats 4000000
namespace Mn
open PySem PySem.Spec PyProof.Rows L2

/-! ### a try whose body goes through -/
section
variable {X : Cx} {x n : Str} {c : Value} {body suite : List Stmt} {b₀ : Stmt} {np pos pos' : Pos} {f : Tm} {i : Nat}
theorem takes_no : Takes X fun _ _ _ _ => False := fun _ _ ⟨_, _, _, _, _, _, _, _, _, _, _, _, _, _, _, _, w⟩ => w.elim
theorem ps_no {X : Cx} {s : List Stmt} : PSs X s fun _ _ _ => False := ⟨fun _ _ _ _ _ _ h => h.elim⟩
theorem s1_try0 (hs : X.stack = X.env :: X.outer) (hf : X.env.frame = some X.env.locals) (hg : Gl X x) (hm : X.mg x = some c) (hb : ∀ (pn : List (Addr × Obj)) (xe : Value → Shared → Prop), PassesOwn (model X.prog X.w) X.A X.env xe → SS (X.tr pn xe) Pm0 body f)
    (hd : (x == ("__debug__" : Str)) = false := by decide) : S1 X Pm0 (.Try body [.ExceptHandler (some (.Name x np)) none (b₀ :: suite) pos'] [] [] pos) f :=
  ps_try_only (tb := fun _ => RnS X.K Pm0 f) (ts := fun _ _ _ _ _ _ => False) (Wout := fun _ _ _ _ => False) hs hf ⟨hg, hd, .inl hm⟩ takes_no (fun _ pn xe _ hp => hb pn xe hp) fun _ _ _ _ _ _ _ => ps_no
theorem s1_try0N (hs : X.stack = X.env :: X.outer) (hf : X.env.frame = some X.env.locals) (hN : X.N.Nodup) (hi : X.N[i]? = some n) (hl : X.env.kindOf n = some .local) (hg : Gl X x) (hm : X.mg x = some c)
    (hb : ∀ (pn : List (Addr × Obj)) (xe : Value → Shared → Prop), PassesOwn (model X.prog X.w) X.A X.env xe → SS (X.tr pn xe) Pm0 body f) (hd : (x == ("__debug__" : Str)) = false := by decide) :
    S1 X Pm0 (.Try body [.ExceptHandler (some (.Name x np)) (some n) (b₀ :: suite) pos'] [] [] pos) f :=
  ps_try_as (tb := fun _ => RnS X.K Pm0 f) (ts := fun _ _ _ _ _ _ => False) (Wout := fun _ _ _ _ => False) hs hf hN hi hl ⟨hg, hd, .inl hm⟩ takes_no (fun _ pn xe _ hp => hb pn xe hp) fun _ _ _ _ _ _ _ => ps_no
end
end Mn

set_option Elab.async false
set_option linter.all false
set_option maxRecDepth 100000
set_option maxHeartbeats 4000000
namespace Mn
open PySem PySem.Spec PyProof.Rows L2

/-! ### max, min of a list, a tuple of ints -/
section
variable {prog : Program} {w : World} {A : Around} {E : Value → Shared → Prop} {s : Shared} {t : Addr} {xs : Array (Int × Tok)}
theorem iter_tupInts {R : Value → Shared → Prop} (ht : s.heap.IsTuple t (intItems xs))
    (h : ∀ s2 : Shared, s2 = { s with heap := s.heap.push { cls := .type "tuple_iterator", data := .fields #[.ref t, .int 0 0] } } → (s2.heap.IsTupleIter s.heap.objs.size t 0 ∧ s2.heap.IsTuple t (intItems xs)) → (∀ b ∈ [s.heap.objs.size, t], b < s2.heap.objs.size) → t ≠ s.heap.objs.size → R (.ref s.heap.objs.size) s2) :
    wpAny (model prog w) A (pyIter (.ref t)) R E s := by
  have hlt : t < s.heap.objs.size := by obtain ⟨_, e, _⟩ := id ht; exact Heap.lt_size e
  refine wpAny_pyIter_tuple ht (h _ rfl ⟨⟨_, Heap.get?_push_size _ rfl, rfl, rfl⟩, ht.at fun o e => Heap.get?_push_of_some _ e⟩ (fun b hb => ?_) (Nat.ne_of_lt hlt))
  rw [Heap.size_push]
  simp only [List.mem_cons, List.not_mem_nil, or_false] at hb
  rcases hb with rfl | rfl
  · exact Nat.lt_succ_self _
  · exact Nat.lt_succ_of_lt hlt
theorem tup_kept {h' : Heap} (hk : ∀ b o, b ∉ [s.heap.objs.size] → (s.heap.push { cls := .type "tuple_iterator", data := .fields #[.ref t, .int 0 0] }).get? b = some o → h'.get? b = some o) : ∀ b o, s.heap.get? b = some o → h'.get? b = some o := fun b o e =>
  hk b o (fun hm => absurd (List.mem_singleton.mp hm ▸ Heap.lt_size e) (Nat.lt_irrefl _)) (Heap.get?_push_of_some _ e)
theorem max_tupInts {R : Value → Shared → Prop} (hh : A.handled = none) (ht : s.heap.IsTuple t (intItems xs)) (hne : 0 < xs.size)
    (h : ∀ v h' tk, (intItems xs)[argBest (fun i j => decide (numAt xs i > numAt xs j)) (xs.size - 1)]? = some v → (∀ b o, s.heap.get? b = some o → h'.get? b = some o) → R v { s with heap := h', toks := tk }) :
    wpAny (model prog w) A (call (.builtin "max") [.ref t]) R E s := by
  refine call_max_walk (iter_tupInts ht fun s2 e st hfp htI => ?_)
  subst e
  exact ⟨_, _, _, _, _, _, _, rfl, Walks.tuple (A := A.in1) hh _ t htI (intItems xs), st, hfp, by simpa [intItems] using hne, CmpOf.ints_gt (numAt xs) (fun _ _ => intItems_at), fun v h' tk hP hk => h v h' tk (by simpa [intItems] using hP) (tup_kept hk)⟩
theorem min_tupInts {R : Value → Shared → Prop} (hh : A.handled = none) (ht : s.heap.IsTuple t (intItems xs)) (hne : 0 < xs.size)
    (h : ∀ v h' tk, (intItems xs)[argBest (fun i j => decide (numAt xs i < numAt xs j)) (xs.size - 1)]? = some v → (∀ b o, s.heap.get? b = some o → h'.get? b = some o) → R v { s with heap := h', toks := tk }) :
    wpAny (model prog w) A (call (.builtin "min") [.ref t]) R E s := by
  refine call_min_walk (iter_tupInts ht fun s2 e st hfp htI => ?_)
  subst e
  exact ⟨_, _, _, _, _, _, _, rfl, Walks.tuple (A := A.in1) hh _ t htI (intItems xs), st, hfp, by simpa [intItems] using hne, CmpOf.ints_lt (numAt xs) (fun _ _ => intItems_at), fun v h' tk hP hk => h v h' tk (by simpa [intItems] using hP) (tup_kept hk)⟩
end
section
variable {X : Cx}
def rMaxT (K : PySem.W.Frag) : List V → Hp → VK → Prop := fun vs H Q => ∃ (a : Addr) (ns : List Int), vs = [V.ref a] ∧ SqT K H a (ns.map V.int) ∧ 0 < ns.length ∧ ∀ m, m ∈ ns → (∀ y, y ∈ ns → y ≤ m) → Q (.int m) H
def rMinT (K : PySem.W.Frag) : List V → Hp → VK → Prop := fun vs H Q => ∃ (a : Addr) (ns : List Int), vs = [V.ref a] ∧ SqT K H a (ns.map V.int) ∧ 0 < ns.length ∧ ∀ m, m ∈ ns → (∀ y, y ∈ ns → m ≤ y) → Q (.int m) H
theorem cr_maxT (hc : X.calm = true) : CallR X (.builtin "max") (rMaxT X.K) := by
  rintro pins s σ H vs us Q I r ⟨a, ns, rfl, hs, hne, q⟩
  obtain ⟨its, rv, ht, _⟩ := I.tuple hs
  rw [Vals.ref1 r]
  have hi := rv.ints
  obtain ⟨xs, e⟩ := hi.allInts.items
  have hn : numsOf (intItems xs).toList = ns := by rw [← e]; exact hi.numsOf
  rw [nums_intItems] at hn
  subst hn
  rw [e] at ht
  refine max_tupInts (I.ok.hd hc) ht (by simpa using hne) fun v h' tk hv hk => ?_
  obtain ⟨t, rfl⟩ := intItems_at hv
  obtain ⟨_, h2⟩ := argBest_gt (numAt xs) (xs.size - 1)
  refine ⟨.int _, H, I.kept hk, ⟨_, rfl⟩, q _ ?_ fun a ha => ?_⟩
  · rw [numAt_eq]
    obtain ⟨h1, _⟩ := argBest_gt (numAt xs) (xs.size - 1)
    exact PySem.getD_mem (by rw [List.length_map, Array.length_toList]; rw [List.length_map, Array.length_toList] at hne; omega)
  · obtain ⟨j, hj, rfl⟩ := mem_getD ha
    rw [List.length_map, Array.length_toList] at hj
    rw [← numAt_eq]
    exact h2 j (by omega)
theorem cr_minT (hc : X.calm = true) : CallR X (.builtin "min") (rMinT X.K) := by
  rintro pins s σ H vs us Q I r ⟨a, ns, rfl, hs, hne, q⟩
  obtain ⟨its, rv, ht, _⟩ := I.tuple hs
  rw [Vals.ref1 r]
  have hi := rv.ints
  obtain ⟨xs, e⟩ := hi.allInts.items
  have hn : numsOf (intItems xs).toList = ns := by rw [← e]; exact hi.numsOf
  rw [nums_intItems] at hn
  subst hn
  rw [e] at ht
  refine min_tupInts (I.ok.hd hc) ht (by simpa using hne) fun v h' tk hv hk => ?_
  obtain ⟨t, rfl⟩ := intItems_at hv
  obtain ⟨h1, h2⟩ := argBest_lt (numAt xs) (xs.size - 1)
  refine ⟨.int _, H, I.kept hk, ⟨_, rfl⟩, q _ ?_ fun a ha => ?_⟩
  · rw [numAt_eq]
    exact PySem.getD_mem (by rw [List.length_map, Array.length_toList]; rw [List.length_map, Array.length_toList] at hne; omega)
  · obtain ⟨j, hj, rfl⟩ := mem_getD ha
    rw [List.length_map, Array.length_toList] at hj
    rw [← numAt_eq]
    exact h2 j (by omega)
/-- the greatest, the least of ints -/
def maxI : List Int → Int
  | [] => 0
  | [a] => a
  | a :: b :: r => max a (maxI (b :: r))
def minI : List Int → Int
  | [] => 0
  | [a] => a
  | a :: b :: r => min a (minI (b :: r))
theorem maxI_spec : ∀ {ns : List Int}, ns ≠ [] → maxI ns ∈ ns ∧ ∀ y ∈ ns, y ≤ maxI ns
  | [], h => absurd rfl h
  | [a], _ => ⟨by simp [maxI], fun y hy => by rcases List.mem_singleton.mp hy with rfl; exact Int.le_refl _⟩
  | a :: b :: r, _ => by
    obtain ⟨h1, h2⟩ := maxI_spec (ns := b :: r) (by simp)
    rw [maxI]
    refine ⟨?_, fun y hy => ?_⟩
    · rcases Int.le_total a (maxI (b :: r)) with h | h
      · rw [Int.max_eq_right h]
        exact List.mem_cons_of_mem _ h1
      · rw [Int.max_eq_left h]
        exact List.mem_cons_self ..
    · rcases List.mem_cons.mp hy with rfl | hy
      · exact Int.le_max_left _ _
      · exact Int.le_trans (h2 y hy) (Int.le_max_right _ _)
theorem minI_spec : ∀ {ns : List Int}, ns ≠ [] → minI ns ∈ ns ∧ ∀ y ∈ ns, minI ns ≤ y
  | [], h => absurd rfl h
  | [a], _ => ⟨by simp [minI], fun y hy => by rcases List.mem_singleton.mp hy with rfl; exact Int.le_refl _⟩
  | a :: b :: r, _ => by
    obtain ⟨h1, h2⟩ := minI_spec (ns := b :: r) (by simp)
    rw [minI]
    refine ⟨?_, fun y hy => ?_⟩
    · rcases Int.le_total a (minI (b :: r)) with h | h
      · rw [Int.min_eq_left h]
        exact List.mem_cons_self ..
      · rw [Int.min_eq_right h]
        exact List.mem_cons_of_mem _ h1
    · rcases List.mem_cons.mp hy with rfl | hy
      · exact Int.min_le_left _ _
      · exact Int.le_trans (Int.min_le_right _ _) (h2 y hy)
theorem maxI_eq {ns : List Int} {m : Int} (h : m ∈ ns) (h2 : ∀ y ∈ ns, y ≤ m) : m = maxI ns := by
  have hne : ns ≠ [] := fun e => by rw [e] at h; cases h
  obtain ⟨a, b⟩ := maxI_spec hne
  exact Int.le_antisymm (b m h) (h2 _ a)
theorem minI_eq {ns : List Int} {m : Int} (h : m ∈ ns) (h2 : ∀ y ∈ ns, m ≤ y) : m = minI ns := by
  have hne : ns ≠ [] := fun e => by rw [e] at h; cases h
  obtain ⟨a, b⟩ := minI_spec hne
  exact Int.le_antisymm (h2 _ a) (b m h)
def gExtr (f : List Int → Int) : List PyData → Option PyData
  | [.list ds] => (intsOf ds).bind fun ns => if ns ≠ [] then some (.int (f ns)) else none
  | [.tuple ds] => (intsOf ds).bind fun ns => if ns ≠ [] then some (.int (f ns)) else none
  | _ => none
theorem ints_seq {K : PySem.W.Frag} {Y : Wd} {H : Hp} {f : List Int → Int} {xs : List V} {ds : List PyData} {d : PyData} (h : Paired (Dr K Y H) xs ds) (e : gExtr f ds = some d) :
    ∃ a ns, xs = [V.ref a] ∧ (SqL K H a (ns.map V.int) ∨ SqT K H a (ns.map V.int)) ∧ 0 < ns.length ∧ d = .int (f ns) := by
  match ds, e with
  | [.list es], e =>
    obtain ⟨ns, eb, e2⟩ := Option.bind_eq_some_iff.mp (show (intsOf es).bind (fun ns => if ns ≠ [] then some (PyData.int (f ns)) else none) = some d from e)
    by_cases hne : ns ≠ []
    · rw [if_pos hne] at e2
      cases e2
      obtain ⟨x, rfl, dx⟩ := one h rfl
      obtain ⟨a, ys, rfl, h1, h2⟩ := dx.lst
      rw [intsOf_some eb] at h2
      rw [RpA.int_inv h2] at h1
      exact ⟨a, ns, rfl, .inl h1, List.length_pos_iff.mpr hne, rfl⟩
    · rw [if_neg hne] at e2
      cases e2
  | [.tuple es], e =>
    obtain ⟨ns, eb, e2⟩ := Option.bind_eq_some_iff.mp (show (intsOf es).bind (fun ns => if ns ≠ [] then some (PyData.int (f ns)) else none) = some d from e)
    by_cases hne : ns ≠ []
    · rw [if_pos hne] at e2
      cases e2
      obtain ⟨x, rfl, dx⟩ := one h rfl
      obtain ⟨a, ys, rfl, h1, h2⟩ := dx.tup
      rw [intsOf_some eb] at h2
      rw [RpA.int_inv h2] at h1
      exact ⟨a, ns, rfl, .inr h1, List.length_pos_iff.mpr hne, rfl⟩
    · rw [if_neg hne] at e2
      cases e2
theorem bi_max1 (hc : X.calm = true) : BiR X "max" (gExtr maxI) := by
  refine ⟨_, cr_or (cr_max hc) (cr_maxT hc), ?_⟩
  intro Y M H xs ds d Q g0 h e q
  obtain ⟨a, ns, rfl, h1 | h1, h2, rfl⟩ := ints_seq h e
  · exact .inl ⟨a, ns, rfl, h1, h2, fun m hm hy => q Y H _ (Step.refl Y H) g0 (by rw [← maxI_eq hm hy]; exact .int _)⟩
  · exact .inr ⟨a, ns, rfl, h1, h2, fun m hm hy => q Y H _ (Step.refl Y H) g0 (by rw [← maxI_eq hm hy]; exact .int _)⟩
theorem bi_min1 (hc : X.calm = true) : BiR X "min" (gExtr minI) := by
  refine ⟨_, cr_or (cr_min hc) (cr_minT hc), ?_⟩
  intro Y M H xs ds d Q g0 h e q
  obtain ⟨a, ns, rfl, h1 | h1, h2, rfl⟩ := ints_seq h e
  · exact .inl ⟨a, ns, rfl, h1, h2, fun m hm hy => q Y H _ (Step.refl Y H) g0 (by rw [← minI_eq hm hy]; exact .int _)⟩
  · exact .inr ⟨a, ns, rfl, h1, h2, fun m hm hy => q Y H _ (Step.refl Y H) g0 (by rw [← minI_eq hm hy]; exact .int _)⟩
end
/-! ### sorted(x, reverse=True) of ints -/
def sortRv (ns : List Int) : List Int := (sortI ns).reverse
theorem sortRv_eq {ns ms : List Int} (p : ms.Perm ns) (h : ms.Pairwise (· ≥ ·)) : ms = sortRv ns := by
  have h2 : ms.reverse.Pairwise (· ≤ ·) := by
    rw [List.pairwise_reverse]
    exact h
  have e := sorted_eq (((List.reverse_perm ms).trans p).trans (sortI_perm ns).symm) h2 (sortI_sorted ns)
  unfold sortRv
  rw [← e, List.reverse_reverse]
def gSortRv : List PyData → Option Sl
  | [.list ds] => (intsOf ds).map fun ns => .own ((sortRv ns).map .int)
  | _ => none
section
variable {X : Cx} {P : Pm} {p pos : Pos} {e e2 : Expr} {f : Ex Val} {kp : Pos}
theorem sx_sortRev (hg : Gl X "sorted") (hm : X.mg "sorted" = none) (hv : bootBuiltins "sorted" = some (.builtin "sorted")) (he : SE X P e f) (hk : PE X e2 (tC (.bl true)))
    (hs : starEach [e] X.env = (false, eval e X.env) :: starEach [] X.env := by rfl) (h1 : backTo pos (starEach [e] X.env) = (false, eval e X.env) :: backTo pos (starEach [] X.env) := by rfl) (h2 : (backTo pos (starEach [e] X.env)).any (·.1) = false := by rfl)
    (h3 : (backToKw pos (keywordEach [⟨some "reverse", e2, kp⟩] X.env)).all (·.1.isSome) = true := by rfl) (h4 : (backToKw pos (keywordEach [⟨some "reverse", e2, kp⟩] X.env)).any (·.1.isNone) = false := by rfl) (h5 : (backToKw pos (keywordEach [⟨some "reverse", e2, kp⟩] X.env)).filterMap (·.1) = [PySem.Str.ofString "reverse"] := by rfl) :
    SX X P (.Call (.Name "sorted" p) [e] [⟨some "reverse", e2, kp⟩] pos) (xFn gSortRv (aCons f aNil)) := by
  refine PE.imp (pe_callBK (cr_sortedRev (b := true)) hg hm hv (pa_cons he pa_nil hs) (pk_cons hk pk_nil) (he := h1) (hpl := h2) (hall := h3) (hnone := h4) (hks := h5)) fun σ H Q h => ?_
  obtain ⟨Y, M, st, g0, fr, h⟩ := h
  have h : Post X.K P (RS X.K) st σ Y H ((f st M).bind fun v M1 => Out.ofOpt ((derefAll st M1 [v]).bind gSortRv) M1) Q := by
    have e : xFn gSortRv (aCons f aNil) st M = (f st M).bind fun v M1 => Out.ofOpt ((derefAll st M1 [v]).bind gSortRv) M1 := by
      unfold xFn aCons aNil
      cases f st M <;> rfl
    rw [← e]
    exact h
  refine ⟨Y, M, st, g0, fr, Post.bind (R1 := RV X.K) shS h fun va M1 Y1 H1 x _ s1 g1 r1 q1 => ?_⟩
  obtain ⟨v, ev, q⟩ := Post.opt q1
  obtain ⟨ds, ed, e2⟩ := Option.bind_eq_some_iff.mp ev
  obtain ⟨d, e3, e4⟩ := Option.bind_eq_some_iff.mp (show ((deref st M1 va).bind fun d => (derefAll st M1 []).map (d :: ·)) = some ds from ed)
  cases (show [d] = ds from Option.some.inj e4)
  have dr := Dr.of g1 (fr.step g0 s1) r1 e3
  cases d with
  | list es =>
    obtain ⟨ns, er, rfl⟩ := Option.map_eq_some_iff.mp (show (intsOf es).map (fun ns => Sl.own ((sortRv ns).map .int)) = some v from e2)
    obtain ⟨a, ys, rfl, h1, h2⟩ := dr.lst
    rw [intsOf_some er] at h2
    rw [RpA.int_inv h2] at h1
    refine ⟨a, ns, rfl, rfl, h1, fun ms p pm ord hp => ?_⟩
    rw [sortRv_eq pm (show ms.Pairwise (· ≥ ·) from ord)]
    exact q Y1 _ _ (Step.laid hp) (g1.laid hp) ⟨p, rfl, Ow.new g1 hp RpA.ints, hp⟩
  | _ => cases e2
end
end Mn

set_option Elab.async false
set_option linter.all false
set_option maxRecDepth 100000
set_option maxHeartbeats 4000000
namespace Mn
open PySem PySem.Spec PyProof.Rows L2

/-! ### methods of texts, one argument -/
def eM1 (g : Str → PyData → Option PyData) (fo fe : Ex Val) : Ex Val := fun st M => (fo st M).bind fun v M1 => match v with
  | .dat (.str a) => (fe st M1).bind fun w M2 => Out.ofOpt ((deref st M2 w).bind fun d => (g a d).map .dat) M2
  | _ => .err
section
variable {X : Cx} {P : Pm} {o e : Expr} {name : Str} {id : String} {apos cpos : Pos} {fo fe : Ex Val} {g : Str → PyData → Option PyData} {r : V → List V → Hp → VK → Prop}
theorem se_m1 (slot : Slot "str" name id) (hty : typeOf (.builtin id) = pure (.type "method_descriptor")) (hm : MtR X id r)
    (prim : ∀ {Y : Wd} {M : MH} {H : Hp} {a : Str} {y : V} {db d : PyData} {Q : VK}, GR X.K Y M H → Dr X.K Y H y db → g a db = some d → (∀ z, Rp X.K Y.F H z d → Q z H) → r (.str a) [y] H Q) (ho : SE X P o fo) (ha : SE X P e fe)
    (hs : starEach [e] X.env = (false, eval e X.env) :: starEach [] X.env := by rfl) (hbase : attributeBase o name X.env (eval o X.env) = eval o X.env := by rfl)
    (hfew : ((backTo cpos (starEach [e] X.env)).all (fun x => !x.1) && (backToKw cpos (keywordEach [] X.env)).all (fun x => x.1.isSome) && decide ([e].length + ([] : List Keyword).length + (if ([] : List Keyword).isEmpty then 0 else 1) < 30)) = true := by rfl)
    (hline : (apos.endLine == cpos.line) = true := by rfl) (hplain : (backTo cpos (starEach [] X.env)).any (·.1) = false := by rfl) : SE X P (.Call (.Attribute o name apos) [e] [] cpos) (eM1 g fo fe) := by
  refine PE.imp (pe_bm PySem.F.plainAttrs_str slot hty hm ho (pa_cons ha pa_nil hs) hbase hfew hline hs hplain) fun σ H Q h => ?_
  obtain ⟨Y, M, st, g0, fr, h⟩ := h
  refine ⟨Y, M, st, g0, fr, Post.bind (R1 := RV X.K) shV h fun va M1 Y1 H1 x _ s1 g1 r1 q1 => ?_⟩
  cases va with
  | dat da =>
    cases da with
    | str a =>
      cases r1
      refine ⟨rfl, Y1, M1, st, g1, fr.step g0 s1, Post.bind (R1 := RV X.K) shV q1 fun vb M2 Y2 H2 y _ s2 g2 r2 q2 => ?_⟩
      obtain ⟨v, ev, q⟩ := Post.opt q2
      obtain ⟨db, e1, e2⟩ := Option.bind_eq_some_iff.mp ev
      obtain ⟨d, e3, rfl⟩ := Option.map_eq_some_iff.mp e2
      have fr2 := (fr.step g0 s1).step g1 s2
      exact prim g2 (Dr.of g2 fr2 r2 e1) e3 fun z rz => q Y2 H2 z (Step.refl Y2 H2) g2 rz
    | _ => exact False.elim q1
  | _ => exact False.elim q1
end
def strsOf : List PyData → Option (List Str)
  | [] => some []
  | .str s :: r => (strsOf r).map (s :: ·)
  | _ :: _ => none
theorem strsOf_map (ss : List Str) : strsOf (ss.map .str) = some ss := by
  induction ss with
  | nil => rfl
  | cons s r ih =>
    show (strsOf (r.map .str)).map (s :: ·) = _
    rw [ih]
    rfl
theorem strsOf_some : ∀ {ds : List PyData} {ss : List Str}, strsOf ds = some ss → ds = ss.map .str
  | [], ss, h => by
    cases (show [] = ss from Option.some.inj h)
    rfl
  | d :: ds, ss, h => by
    cases d with
    | str s =>
      obtain ⟨t, e, rfl⟩ := Option.map_eq_some_iff.mp (show (strsOf ds).map (s :: ·) = some ss from h)
      rw [strsOf_some e]
      rfl
    | _ => cases h
def gStrip (a : Str) : PyData → Option PyData | .str b => if a.length ≤ SL then some (.str (Txt.stripChars a b)) else none | _ => none
def gCount (a : Str) : PyData → Option PyData | .str b => some (.int (Txt.count a b)) | _ => none
def gJoin (a : Str) : PyData → Option PyData
  | .list ds => (strsOf ds).bind fun ys => if (ys.map (·.length)).sum + ys.length * a.length ≤ SL then some (.str (Txt.join a ys)) else none
  | .tuple ds => (strsOf ds).bind fun ys => if (ys.map (·.length)).sum + ys.length * a.length ≤ SL then some (.str (Txt.join a ys)) else none
  | _ => none
section
variable {X : Cx} {P : Pm} {o e : Expr} {apos cpos : Pos} {fo fe : Ex Val}
theorem se_strip (ho : SE X P o fo) (ha : SE X P e fe) (hs : starEach [e] X.env = (false, eval e X.env) :: starEach [] X.env := by rfl) (hbase : attributeBase o "strip" X.env (eval o X.env) = eval o X.env := by rfl)
    (hfew : ((backTo cpos (starEach [e] X.env)).all (fun x => !x.1) && (backToKw cpos (keywordEach [] X.env)).all (fun x => x.1.isSome) && decide ([e].length + ([] : List Keyword).length + (if ([] : List Keyword).isEmpty then 0 else 1) < 30)) = true := by rfl)
    (hline : (apos.endLine == cpos.line) = true := by rfl) (hplain : (backTo cpos (starEach [] X.env)).any (·.1) = false := by rfl) : SE X P (.Call (.Attribute o "strip" apos) [e] [] cpos) (eM1 gStrip fo fe) := by
  refine se_m1 PySem.F.slot_str_strip PySem.F.type_str_strip mt_stripChars ?_ ho ha hs hbase hfew hline hplain
  intro Y M H a y db d Q g0 dy e q
  cases db with
  | str b =>
    have e : (if a.length ≤ SL then some (PyData.str (Txt.stripChars a b)) else none) = some d := e
    by_cases hl : a.length ≤ SL
    · rw [if_pos hl] at e
      cases e
      exact ⟨a, b, rfl, by rw [dy.str], by rw [sl_eq]; exact hl, q _ (.str _)⟩
    · rw [if_neg hl] at e
      cases e
  | _ => cases e
theorem se_count (ho : SE X P o fo) (ha : SE X P e fe) (hs : starEach [e] X.env = (false, eval e X.env) :: starEach [] X.env := by rfl) (hbase : attributeBase o "count" X.env (eval o X.env) = eval o X.env := by rfl)
    (hfew : ((backTo cpos (starEach [e] X.env)).all (fun x => !x.1) && (backToKw cpos (keywordEach [] X.env)).all (fun x => x.1.isSome) && decide ([e].length + ([] : List Keyword).length + (if ([] : List Keyword).isEmpty then 0 else 1) < 30)) = true := by rfl)
    (hline : (apos.endLine == cpos.line) = true := by rfl) (hplain : (backTo cpos (starEach [] X.env)).any (·.1) = false := by rfl) : SE X P (.Call (.Attribute o "count" apos) [e] [] cpos) (eM1 gCount fo fe) := by
  refine se_m1 PySem.F.slot_str_count PySem.F.type_str_count mt_count ?_ ho ha hs hbase hfew hline hplain
  intro Y M H a y db d Q g0 dy e q
  cases db with
  | str b =>
    cases e
    exact ⟨a, b, rfl, by rw [dy.str], q _ (.int _)⟩
  | _ => cases e
theorem se_join (ho : SE X P o fo) (ha : SE X P e fe) (hs : starEach [e] X.env = (false, eval e X.env) :: starEach [] X.env := by rfl) (hbase : attributeBase o "join" X.env (eval o X.env) = eval o X.env := by rfl)
    (hfew : ((backTo cpos (starEach [e] X.env)).all (fun x => !x.1) && (backToKw cpos (keywordEach [] X.env)).all (fun x => x.1.isSome) && decide ([e].length + ([] : List Keyword).length + (if ([] : List Keyword).isEmpty then 0 else 1) < 30)) = true := by rfl)
    (hline : (apos.endLine == cpos.line) = true := by rfl) (hplain : (backTo cpos (starEach [] X.env)).any (·.1) = false := by rfl) : SE X P (.Call (.Attribute o "join" apos) [e] [] cpos) (eM1 gJoin fo fe) := by
  refine se_m1 PySem.F.slot_str_join PySem.F.type_str_join mt_join ?_ ho ha hs hbase hfew hline hplain
  intro Y M H a y db d Q g0 dy e q
  have fin : ∀ {ds : List PyData}, (strsOf ds).bind (fun ys => if (ys.map (·.length)).sum + ys.length * a.length ≤ SL then some (PyData.str (Txt.join a ys)) else none) = some d → ∃ ys, ds = ys.map .str ∧ (ys.map (·.length)).sum + ys.length * a.length ≤ SL ∧ d = .str (Txt.join a ys) := fun {ds} e => by
    obtain ⟨ys, e1, e2⟩ := Option.bind_eq_some_iff.mp e
    by_cases hl : (ys.map (·.length)).sum + ys.length * a.length ≤ SL
    · rw [if_pos hl] at e2
      cases e2
      exact ⟨ys, strsOf_some e1, hl, rfl⟩
    · rw [if_neg hl] at e2
      cases e2
  cases db with
  | list ds =>
    obtain ⟨ys, rfl, hl, rfl⟩ := fin e
    obtain ⟨p, xs, rfl, h1, h2⟩ := dy.lst
    rw [RpA.str_inv h2] at h1
    exact ⟨a, p, ys, rfl, rfl, .inl h1, hl, q _ (.str _)⟩
  | tuple ds =>
    obtain ⟨ys, rfl, hl, rfl⟩ := fin e
    obtain ⟨p, xs, rfl, h1, h2⟩ := dy.tup
    rw [RpA.str_inv h2] at h1
    exact ⟨a, p, ys, rfl, rfl, .inr h1, hl, q _ (.str _)⟩
  | _ => cases e
/-- str(x) of an int, a text -/
def gStr : List PyData → Option PyData
  | [.int i] => if i.natAbs.log2 < 1920 then some (.str (toString i)) else none
  | [.str a] => some (.str a)
  | _ => none
theorem ty_str : TyR X "str" gStr := by
  refine ⟨_, cr_or call_str_int SkE.call_str_str, ?_⟩
  intro Y M H xs ds d Q g0 h e q
  match ds, e with
  | [.int i], e =>
    obtain ⟨x, rfl, dx⟩ := one h rfl
    have e : (if i.natAbs.log2 < 1920 then some (PyData.str (toString i)) else none) = some d := e
    by_cases hl : i.natAbs.log2 < 1920
    · rw [if_pos hl] at e
      cases e
      exact .inl ⟨i, by rw [dx.int], hl, q Y H _ (Step.refl Y H) g0 (.str _)⟩
    · rw [if_neg hl] at e
      cases e
  | [.str a], e =>
    obtain ⟨x, rfl, dx⟩ := one h rfl
    cases e
    exact .inr ⟨a, by rw [dx.str], q Y H _ (Step.refl Y H) g0 (.str _)⟩
end
end Mn

set_option Elab.async false
set_option linter.all false
set_option maxRecDepth 100000
set_option maxHeartbeats 4000000
namespace Mn
open PySem PySem.Spec PyProof.Rows L2

/-! ### a list of the frame's own gets another name; the old name is not read again -/
def tmMv (i j : Nat) : Tm := fun st M => match st[j]? with
  | some (some (.own ds)) => some (.nx, (st.set j none).set i (some (.own ds)), M)
  | some (some (.v x)) => some (.nx, st.set i (some (.v x)), M)
  | _ => none
section
variable {K : PySem.W.Frag} {Y0 Y : Wd} {H0 H : Hp} {bs : Bs} {st : MSt} {M : MH} {σ : L2.St}
theorem set_none {α : Type} {l : List (Option α)} {i j : Nat} {b : α} (h : (l.set i none)[j]? = some (some b)) : i ≠ j ∧ l[j]? = some (some b) := by
  rcases set_get h with ⟨_, h2⟩ | h2
  · cases h2
  · exact h2
theorem SR.gone (r : SR K Y0 H0 bs Y H st M σ) (j : Nat) : SR K Y0 H0 bs Y H (st.set j none) M σ :=
  ⟨r.gr, ⟨by rw [List.length_set]; exact r.fr.len, fun i x e => r.fr.val i x (set_none e).2, fun i ds e => r.fr.own i ds (set_none e).2, fun i k ds es a e1 e2 e3 e4 => r.fr.inj i k ds es a (set_none e1).2 (set_none e2).2 e3 e4⟩, fun i ds a e1 e2 => r.yo i ds a (set_none e1).2 e2, r.s0, r.wk, r.mm⟩
end
section
variable {X : Cx} {P : Pm} {pos : Pos}
theorem s1_mv (i j : Nat) {x y : Str} {pos' py : Pos} (hN : X.N.Nodup) (hy : X.N[j]? = some y := by rfl) (hi : X.N[i]? = some x := by rfl) (hx : Loc X.env.scope x := by first | exact Or.inl rfl | exact Or.inr rfl) (hv : Vis X.env.scope y := by first | exact Or.inl rfl | exact Or.inr (Or.inl rfl) | exact Or.inr (Or.inr rfl)) (hd : (y == ("__debug__" : Str)) = false := by decide)
    (hcd : (y == ("__classdict__" : Str)) = false := by decide) (hs : swapsWith (.Name y py) (some (.Name x pos')) pos.line X.env = pure false := by rfl)
    (hf : X.fn x = true ∨ X.env.scope.names.lookup x = some .local := by first | exact .inl rfl | exact .inr rfl) : S1 X P (.Assign [.Name x pos'] (.Name y py) pos) (tmMv i j) := PS.imp (ps_set hN hi hx (pe_var hy hv hd hcd) hs hf) fun D σ H h => by
  obtain ⟨Y0, H0, bs, Y, M, st, r, h⟩ := h
  unfold tmMv at h
  cases q : st[j]? with
  | none => rw [q] at h; exact False.elim h
  | some o =>
    rw [q] at h
    cases o with
    | none => exact False.elim h
    | some s =>
      cases s with
      | v z =>
        obtain ⟨u, h1, h2⟩ := r.fr.val j z q
        exact ⟨u, h1, h Y H _ ((asg_set r.fr r.yo (s := .v z) h2 i).sr r)⟩
      | own ds =>
        obtain ⟨a, h1, h2⟩ := r.fr.own j ds q
        have r' := r.gone j
        refine ⟨_, h1, h Y H _ ((asg_set r'.fr r'.yo (s := .own ds) ⟨a, rfl, h2, r.yo j ds a q h1, fun k es e1 e2 => ?_⟩ i).sr r')⟩
        obtain ⟨n1, n2⟩ := set_none e1
        exact n1 (r.fr.inj j k ds es a q n2 h1 e2)
end
/-! ### repr of any of these -/
section
variable {X : Cx}
theorem call_repr_bool : CallR X (.builtin "repr") (fun xs H Q => ∃ b : Bool, xs = [.bl b] ∧ Q (.str (if b then "True" else "False")) H) := by
  intro pins s σ H xs us Q I r h
  obtain ⟨b, rfl, q⟩ := h
  obtain ⟨u, rfl, rfl⟩ := vals1 r
  exact PySem.P.repr_of_bool ⟨.str _, H, I.tok _, ⟨_, rfl⟩, q⟩
theorem call_repr_none : CallR X (.builtin "repr") (fun xs H Q => xs = [.non] ∧ Q (.str "None") H) := by
  intro pins s σ H xs us Q I r h
  obtain ⟨rfl, q⟩ := h
  obtain ⟨u, rfl, rfl⟩ := vals1 r
  exact PySem.P.repr_of_none ⟨.str _, H, I.tok _, ⟨_, rfl⟩, q⟩
theorem call_repr_str : CallR X (.builtin "repr") (fun xs H Q => ∃ x : Str, xs = [.str x] ∧ (reprText x).length ≤ sizeLine ∧ Q (.str (reprText x)) H) := by
  intro pins s σ H xs us Q I r h
  obtain ⟨x, rfl, hl, q⟩ := h
  obtain ⟨u, rfl, t, rfl⟩ := vals1 r
  exact PySem.P.repr_of_str ⟨.str _, H, I.tok _, ⟨_, rfl⟩, q⟩ hl
def gReprA : List PyData → Option PyData
  | [.int i] => if i.natAbs.log2 < 1920 then some (.str (toString i)) else none
  | [.bool b] => some (.str (if b then "True" else "False"))
  | [.none] => some (.str "None")
  | [.str x] => if (reprText x).length ≤ sizeLine then some (.str (reprText x)) else none
  | ds => gRepr ds
theorem bi_reprA {k : Nat} (hgd : X.A.guards = some []) (hr : Room k X.A) : BiR X "repr" gReprA := by
  obtain ⟨r0, c0, i0⟩ := bi_repr hgd hr
  refine ⟨_, cr_or c0 (cr_or SkE.call_repr_int (cr_or call_repr_bool (cr_or call_repr_none call_repr_str))), ?_⟩
  intro Y M H xs ds d Q g0 h e q
  have dflt : gRepr ds = some d → r0 xs H Q := fun e => i0 g0 h e q
  match ds, e with
  | [.int i], e =>
    obtain ⟨x, rfl, dx⟩ := one h rfl
    have e : (if i.natAbs.log2 < 1920 then some (PyData.str (toString i)) else none) = some d := e
    by_cases hl : i.natAbs.log2 < 1920
    · rw [if_pos hl] at e
      cases e
      exact .inr (.inl ⟨i, by rw [dx.int], hl, q Y H _ (Step.refl Y H) g0 (.str _)⟩)
    · rw [if_neg hl] at e
      cases e
  | [.bool b], e =>
    obtain ⟨x, rfl, dx⟩ := one h rfl
    cases e
    exact .inr (.inr (.inl ⟨b, by rw [dx.bl], q Y H _ (Step.refl Y H) g0 (.str _)⟩))
  | [.none], e =>
    obtain ⟨x, rfl, dx⟩ := one h rfl
    cases e
    exact .inr (.inr (.inr (.inl ⟨by rw [dx.non], q Y H _ (Step.refl Y H) g0 (.str _)⟩)))
  | [.str t], e =>
    obtain ⟨x, rfl, dx⟩ := one h rfl
    have e : (if (reprText t).length ≤ sizeLine then some (PyData.str (reprText t)) else none) = some d := e
    by_cases hl : (reprText t).length ≤ sizeLine
    · rw [if_pos hl] at e
      cases e
      exact .inr (.inr (.inr (.inr ⟨t, by rw [dx.str], hl, q Y H _ (Step.refl Y H) g0 (.str _)⟩)))
    · rw [if_neg hl] at e
      cases e
  | [], e => exact .inl (dflt e)
  | [.list _], e => exact .inl (dflt e)
  | [.tuple _], e => exact .inl (dflt e)
  | [.dict _], e => exact .inl (dflt e)
  | a :: b :: t, e => cases a <;> exact .inl (dflt e)
end
@[simp] theorem gReprA_list (ds : List PyData) : gReprA [.list ds] = gRepr [.list ds] := nofl rfl
@[simp] theorem gReprA_tuple (ds : List PyData) : gReprA [.tuple ds] = gRepr [.tuple ds] := nofl rfl
@[simp] theorem w_mv (i j : Nat) (st : MSt) (M : MH) : tmMv i j st M = match st[j]? with
  | some (some (.own ds)) => some (.nx, (st.set j none).set i (some (.own ds)), M)
  | some (some (.v x)) => some (.nx, st.set i (some (.v x)), M)
  | _ => none := nofl rfl
end Mn

set_option Elab.async false
set_option linter.all false
set_option maxRecDepth 100000
set_option maxHeartbeats 4000000
namespace Mn
open PySem PySem.Spec PyProof.Rows L2
open PySem.Sem (wp)

/-! ### zip of a list and a tuple, either way about: the two walked things by their kinds -/
inductive Kd where
  | L
  | T
inductive Itd : Kd → Heap → Addr → Addr → Nat → Prop
  | l {h : Heap} {i l : Addr} {k : Nat} : h.IsListIter i l k → Itd .L h i l k
  | t {h : Heap} {i l : Addr} {k : Nat} : h.IsTupleIter i l k → Itd .T h i l k
inductive Srd : Kd → Heap → Addr → Array Value → Prop
  | l {h : Heap} {l : Addr} {xs : Array Value} : h.IsList l xs → Srd .L h l xs
  | t {h : Heap} {l : Addr} {xs : Array Value} : h.IsTuple l xs → Srd .T h l xs
section
variable {b c : Kd} {h h' : Heap} {i j l : Addr} {k : Nat} {xs : Array Value}
theorem Itd.mv (q : Itd b h i l k) (e : Heap.ExtBut j h h') (n : i ≠ j) : Itd b h' i l k := by
  cases q with
  | l q => exact .l (q.extBut e n)
  | t q => exact .t (q.extBut e n)
theorem Srd.mv (q : Srd b h l xs) (e : Heap.ExtBut j h h') (n : l ≠ j) : Srd b h' l xs := by
  cases q with
  | l q => exact .l (q.extBut e n)
  | t q => exact .t (q.extBut e n)
theorem Itd.at_ (q : Itd b h i l k) (e : ∀ o, h.get? i = some o → h'.get? i = some o) : Itd b h' i l k := by
  cases q with
  | l q => exact .l (q.at e)
  | t q => exact .t (q.at e)
theorem Itd.ob (q : Itd b h i l k) : ∃ o, h.get? i = some o ∧ ∀ v, o.data ≠ .cell v := by
  cases q with
  | l q => exact let ⟨o, e, _, d⟩ := q; ⟨o, e, fun v z => by rw [d] at z; cases z⟩
  | t q => exact let ⟨o, e, _, d⟩ := q; ⟨o, e, fun v z => by rw [d] at z; cases z⟩
theorem Itd.lt (q : Itd b h i l k) : i < h.objs.size := by
  obtain ⟨o, e, _⟩ := q.ob
  exact Heap.lt_size e
end
section
variable {prog : Program} {w : World} {A : Around} {E : Value → Shared → Prop} {s : Shared}
theorem Kd.nxt {b : Kd} {i l : Addr} {k : Nat} {xs : Array Value} {x : Value} {Q : Value → Shared → Prop} (q : Itd b s.heap i l k) (r : Srd b s.heap l xs) (hx : xs[k]? = some x)
    (g : ∀ h', Itd b h' i l (k + 1) → Heap.SameBut i s.heap h' → Q x { s with heap := h' }) : wpAny (model prog w) A (Builtin.SmallTypes.nextOf (.ref i)) Q E s := by
  cases q with
  | l q =>
    cases r with
    | l r => exact wpAny_nextOf_list_item q r hx fun h' z => g h' (.l z)
  | t q =>
    cases r with
    | t r => exact RZ.nextOf_tuple_item q r hx fun h' z => g h' (.t z)
theorem Kd.nxe {b : Kd} {i l : Addr} {k : Nat} {xs : Array Value} {Q : Value → Shared → Prop} (hh : A.handled = none) (q : Itd b s.heap i l k) (r : Srd b s.heap l xs) (hx : xs[k]? = none)
    (g : ∀ h' e, Heap.ExtBut i s.heap h' → (∃ o, h'.get? e = some o ∧ o.cls = .type "StopIteration") → E (.ref e) { s with heap := h' }) : wpAny (model prog w) A (Builtin.SmallTypes.nextOf (.ref i)) Q E s := by
  cases q with
  | l q =>
    cases r with
    | l r => exact wpAny_nextOf_list_end hh q r hx g
  | t q =>
    cases r with
    | t r => exact RZ.nextOf_tuple_end hh q r hx g
/-- the zip object z over two iterators at their k-th places; its pair of iterators, its last pair -/
structure Zp (b c : Kd) (z TI TO i1 i2 l1 l2 : Addr) (xs ys : Array Value) (k : Nat) (h : Heap) : Prop where
  z : IsZip h z TI TO .none
  ti : IsPair h TI (.ref i1) (.ref i2)
  to : ∃ x y, IsPair h TO x y
  i1 : Itd b h i1 l1 k
  i2 : Itd c h i2 l2 k
variable {b c : Kd} {z TI TO i1 i2 l1 l2 : Addr} {xs ys : Array Value} {k : Nat}
theorem zp_item {x y : Value} {Q : Value → Shared → Prop} (D : ZipApart z TI TO i1 i2 l1 l2) (p : Zp b c z TI TO i1 i2 l1 l2 xs ys k s.heap) (s1 : Srd b s.heap l1 xs) (s2 : Srd c s.heap l2 ys) (ex : xs[k]? = some x) (ey : ys[k]? = some y)
    (g : ∀ h', IsZip h' z TI TO (rawInt s.heap.objs.size) → IsPair h' TO x y → Itd b h' i1 l1 (k + 1) → Itd c h' i2 l2 (k + 1) → IsPair h' s.heap.objs.size x y → h'.objs.size = s.heap.objs.size + 1 →
      (∀ d o, d ≠ z → d ≠ TO → d ≠ i1 → d ≠ i2 → s.heap.get? d = some o → h'.get? d = some o) → Q (.ref s.heap.objs.size) { s with heap := h' }) :
    wpAny (model prog w) A (Builtin.«zip.__next__» ⟨[.ref z], []⟩) (fun fin s' => ∃ v, fin = .done (.ret v) ∧ Q v s') E s := by
  obtain ⟨pz, pti, ⟨u0, u1, pto⟩, p1, p2⟩ := p
  show wpAny _ _ (field (.ref z) 2 >>= _) _ _ _; refine wpAny_bind (wpAny_field pz rfl (x := .bool false) rfl ?_)
  show wpAny _ _ (field (.ref z) 3 >>= _) _ _ _; refine wpAny_bind (wpAny_field pz rfl (x := .ref TI) rfl (wpAny_bind (wpAny_seqItems pti rfl ?_)))
  show wpAny _ _ (Builtin.SmallTypes.ownedTupleIsFree (.ref z) >>= _) _ _ _; unfold Builtin.SmallTypes.ownedTupleIsFree
  refine wpAny_bind (wpAny_bind (wpAny_field pz rfl (x := .none) rfl (wpAny_pure ?_)))
  simp only [if_true]; refine wpAny_bind (wpAny_rule (wpAny_bind (wpAny_field pz rfl (x := .ref TO) rfl (wpAny_bind (wpAny_setField_rec pz (by simp) fun ha za ka => ?_)))))
  have za : IsZip ha z TI TO .ellipsis := za
  simp only [List.zipIdx_cons, List.zipIdx_nil, List.forIn_cons, List.forIn_nil]
  refine wpAny_bind (wpAny_bind (wpAny_bind (wpAny_onRaise ?_)))
  show wpAny _ _ (Builtin.SmallTypes.nextOf (.ref i1) >>= _) _ _ _
  refine wpAny_bind (Kd.nxt (p1.mv ka.extBut D.i1z) (s1.mv ka.extBut D.l1z) ex fun hb qb kb => wpAny_pure ?_)
  have tb : IsPair hb TO u0 u1 := kb.extBut _ _ D.TOi1 (ka.extBut _ _ D.TOz pto)
  refine wpAny_bind (wpAny_seqItems tb rfl (wpAny_bind (wpAny_updateSeq_pair tb fun hc tc kc => wpAny_bind (wpAny_letGo (wpAny_pure ?_)))))
  have tc : IsPair hc TO x u1 := tc
  refine wpAny_bind (wpAny_bind (wpAny_onRaise ?_))
  show wpAny _ _ (Builtin.SmallTypes.nextOf (.ref i2) >>= _) _ _ _
  refine wpAny_bind (Kd.nxt (((p2.mv ka.extBut D.i2z).mv kb.extBut D.i12.symm).mv kc.extBut D.TOi2.symm) (((s2.mv ka.extBut D.l2z).mv kb.extBut D.l2i1).mv kc.extBut D.l2TO) ey fun hd qd kd => wpAny_pure ?_)
  have td : IsPair hd TO x u1 := kd.extBut _ _ D.TOi2 tc
  refine wpAny_bind (wpAny_seqItems td rfl (wpAny_bind (wpAny_updateSeq_pair td fun he te ke => wpAny_bind (wpAny_letGo (wpAny_pure (wpAny_pure ?_))))))
  have te : IsPair he TO x y := te
  refine wpAny_bind (wpAny_seqItems te rfl (wpAny_bind (wpAny_newTuple ?_)))
  have size : he.objs.size = s.heap.objs.size := by rw [ke.1, kd.1, kc.1, kb.1, ka.1]
  have ze : IsZip he z TI TO .ellipsis := ke.extBut _ _ D.TOz.symm (kd.extBut _ _ D.i2z.symm (kc.extBut _ _ D.TOz.symm (kb.extBut _ _ D.i1z.symm za)))
  have old : ∀ d o, d ≠ z → d ≠ TO → d ≠ i1 → d ≠ i2 → s.heap.get? d = some o → he.get? d = some o := fun d o n1 n2 n3 n4 e => ke.extBut _ _ n2 (kd.extBut _ _ n4 (kc.extBut _ _ n2 (kb.extBut _ _ n3 (ka.extBut _ _ n1 e))))
  have q1 : Itd b he i1 l1 (k + 1) := ((qb.mv kc.extBut D.TOi1.symm).mv kd.extBut D.i12).mv ke.extBut D.TOi1.symm
  have q2 : Itd c he i2 l2 (k + 1) := qd.mv ke.extBut D.TOi2.symm
  have zlt : z < he.objs.size := Heap.lt_size ze
  show wpAny _ _ (Builtin.SmallTypes.ownedTupleHandOut (.ref z) (.ref he.objs.size) >>= _) _ _ _; unfold Builtin.SmallTypes.ownedTupleHandOut
  have zf : IsZip (he.push { cls := .type "tuple", data := .seq #[x, y] }) z TI TO .ellipsis := Heap.get?_push_of_some _ ze
  refine wpAny_bind (wpAny_bind (wpAny_setField_rec zf (by simp) fun hg zg kg => ?_))
  have zg : IsZip hg z TI TO (rawInt he.objs.size) := zg
  refine wpAny_setField_rec zg (by simp) fun hi zi ki => ?_
  have zi : IsZip hi z TI TO (rawInt he.objs.size) := zi
  have up : ∀ d o, d ≠ z → he.get? d = some o → hi.get? d = some o := fun d o n e => ki.extBut _ _ n (kg.extBut _ _ n (Heap.get?_push_of_some _ e))
  have ti : IsPair hi he.objs.size x y := ki.extBut _ _ (Nat.ne_of_gt zlt) (kg.extBut _ _ (Nat.ne_of_gt zlt) (Heap.get?_push_size _ rfl))
  have si : hi.objs.size = he.objs.size + 1 := by rw [ki.1, kg.1, Heap.size_push]
  rw [size] at zi ti si
  refine wpAny_pure ⟨_, rfl, ?_⟩
  show Q (.ref he.objs.size) _
  rw [size]
  exact g hi zi (up _ _ D.TOz te) (q1.at_ fun o e => up _ o D.i1z e) (q2.at_ fun o e => up _ o D.i2z e) ti si fun d o n1 n2 n3 n4 e => up d o n1 (old d o n1 n2 n3 n4 e)
theorem zp_stop {Q : Fin → Shared → Prop} (hh : A.handled = none) (D : ZipApart z TI TO i1 i2 l1 l2) (p : Zp b c z TI TO i1 i2 l1 l2 xs ys k s.heap) (s1 : Srd b s.heap l1 xs) (s2 : Srd c s.heap l2 ys) (ee : xs[k]? = none ∨ ys[k]? = none)
    (g : ∀ h' e, (∀ d o, d ≠ z → d ≠ TO → d ≠ i1 → d ≠ i2 → s.heap.get? d = some o → h'.get? d = some o) → (∃ o, h'.get? e = some o ∧ o.cls = .type "StopIteration") → E (.ref e) { s with heap := h' }) :
    wpAny (model prog w) A (Builtin.«zip.__next__» ⟨[.ref z], []⟩) Q E s := by
  obtain ⟨pz, pti, ⟨u0, u1, pto⟩, p1, p2⟩ := p
  show wpAny _ _ (field (.ref z) 2 >>= _) _ _ _; refine wpAny_bind (wpAny_field pz rfl (x := .bool false) rfl ?_)
  show wpAny _ _ (field (.ref z) 3 >>= _) _ _ _; refine wpAny_bind (wpAny_field pz rfl (x := .ref TI) rfl (wpAny_bind (wpAny_seqItems pti rfl ?_)))
  show wpAny _ _ (Builtin.SmallTypes.ownedTupleIsFree (.ref z) >>= _) _ _ _; unfold Builtin.SmallTypes.ownedTupleIsFree
  refine wpAny_bind (wpAny_bind (wpAny_field pz rfl (x := .none) rfl (wpAny_pure ?_)))
  simp only [if_true]; refine wpAny_bind (wpAny_rule (wpAny_bind (wpAny_field pz rfl (x := .ref TO) rfl (wpAny_bind (wpAny_setField_rec pz (by simp) fun ha za ka => ?_)))))
  have za : IsZip ha z TI TO .ellipsis := za
  simp only [List.zipIdx_cons, List.zipIdx_nil, List.forIn_cons, List.forIn_nil]
  refine wpAny_bind (wpAny_bind (wpAny_bind (wpAny_onRaise ?_)))
  show wpAny _ _ (Builtin.SmallTypes.nextOf (.ref i1) >>= _) _ _ _
  have r1 := p1.mv ka.extBut D.i1z
  have t1 := s1.mv ka.extBut D.l1z
  have ne : ∀ {h : Heap} {e : Addr}, IsZip h z TI TO .ellipsis → (∃ o, h.get? e = some o ∧ o.cls = .type "StopIteration") → e ≠ z := fun hz he q => by
    obtain ⟨o, ho, hc⟩ := he
    subst q
    rw [hz] at ho
    cases ho
    simp at hc
  cases e1 : xs[k]? with
  | none =>
    refine wpAny_bind (Kd.nxe hh r1 t1 e1 fun hb e kb he => ?_)
    have zb : IsZip hb z TI TO .ellipsis := kb _ _ D.i1z.symm za
    have n := ne zb he
    obtain ⟨oe, ho, hc⟩ := he
    exact wpAny_setField_rec zb (by simp) fun hd _ kd => g hd e (fun d o n1 _ n3 _ q => kd.extBut _ _ n1 (kb _ _ n3 (ka.extBut _ _ n1 q))) ⟨oe, kd.extBut _ _ n ho, hc⟩
  | some x =>
    have e2 : ys[k]? = none := by
      rcases ee with q | q
      · rw [e1] at q; cases q
      · exact q
    refine wpAny_bind (Kd.nxt r1 t1 e1 fun hb qb kb => wpAny_pure ?_)
    have tb : IsPair hb TO u0 u1 := kb.extBut _ _ D.TOi1 (ka.extBut _ _ D.TOz pto)
    refine wpAny_bind (wpAny_seqItems tb rfl (wpAny_bind (wpAny_updateSeq_pair tb fun hc tc kc => wpAny_bind (wpAny_letGo (wpAny_pure ?_)))))
    refine wpAny_bind (wpAny_bind (wpAny_onRaise ?_))
    show wpAny _ _ (Builtin.SmallTypes.nextOf (.ref i2) >>= _) _ _ _
    have r2 := ((p2.mv ka.extBut D.i2z).mv kb.extBut D.i12.symm).mv kc.extBut D.TOi2.symm
    have t2 := ((s2.mv ka.extBut D.l2z).mv kb.extBut D.l2i1).mv kc.extBut D.l2TO
    refine wpAny_bind (Kd.nxe hh r2 t2 e2 fun hd e kd he => ?_)
    have zd : IsZip hd z TI TO .ellipsis := kd _ _ D.i2z.symm (kc.extBut _ _ D.TOz.symm (kb.extBut _ _ D.i1z.symm za))
    have n := ne zd he
    obtain ⟨oe, ho, hq⟩ := he
    exact wpAny_setField_rec zd (by simp) fun hf _ kf => g hf e (fun d o n1 n2 n3 n4 q => kf.extBut _ _ n1 (kd _ _ n4 (kc.extBut _ _ n2 (kb.extBut _ _ n3 (ka.extBut _ _ n1 q))))) ⟨oe, kf.extBut _ _ n ho, hq⟩
theorem zp_nextI {x y : Value} {Q : Option Value → Shared → Prop} (D : ZipApart z TI TO i1 i2 l1 l2) (p : Zp b c z TI TO i1 i2 l1 l2 xs ys k s.heap) (s1 : Srd b s.heap l1 xs) (s2 : Srd c s.heap l2 ys) (ex : xs[k]? = some x) (ey : ys[k]? = some y)
    (g : ∀ h', IsZip h' z TI TO (rawInt s.heap.objs.size) → IsPair h' TO x y → Itd b h' i1 l1 (k + 1) → Itd c h' i2 l2 (k + 1) → IsPair h' s.heap.objs.size x y → h'.objs.size = s.heap.objs.size + 1 →
      (∀ d o, d ≠ z → d ≠ TO → d ≠ i1 → d ≠ i2 → s.heap.get? d = some o → h'.get? d = some o) → Q (some (.ref s.heap.objs.size)) { s with heap := h' }) : wpAny (model prog w) A (pyNext (.ref z)) Q E s := by
  have ty : s.TypeIs (.ref z) "zip" := ⟨_, p.z, rfl⟩
  unfold pyNext
  refine wpAny_bind (wpAny_attempt (wpAny_callSpecial?_slot (name := Str.ofString "__next__") ty PySem.F.slot_zip_next (wpAny_call_entry PySem.F.slot_zip_next ty PySem.F.entry_zip_next ?_ (PySem.F.args_zip_next_1 _))))
  exact zp_item D p s1 s2 ex ey fun h' a1 a2 a3 a4 a5 a6 a7 => wpAny_pure (g h' a1 a2 a3 a4 a5 a6 a7)
theorem zp_nextE {Q : Option Value → Shared → Prop} (hh : A.handled = none) (D : ZipApart z TI TO i1 i2 l1 l2) (p : Zp b c z TI TO i1 i2 l1 l2 xs ys k s.heap) (s1 : Srd b s.heap l1 xs) (s2 : Srd c s.heap l2 ys) (ee : xs[k]? = none ∨ ys[k]? = none)
    (g : ∀ h', (∀ d o, d ≠ z → d ≠ TO → d ≠ i1 → d ≠ i2 → s.heap.get? d = some o → h'.get? d = some o) → Q none { s with heap := h' }) : wpAny (model prog w) A (pyNext (.ref z)) Q E s := by
  have ty : s.TypeIs (.ref z) "zip" := ⟨_, p.z, rfl⟩
  unfold pyNext
  refine wpAny_bind (wpAny_attempt (wpAny_callSpecial?_slot (name := Str.ofString "__next__") ty PySem.F.slot_zip_next (wpAny_call_entry PySem.F.slot_zip_next ty PySem.F.entry_zip_next ?_ (PySem.F.args_zip_next_1 _))))
  refine zp_stop hh D p s1 s2 ee fun h' e old he => ?_
  obtain ⟨o, ho, hc⟩ := he
  exact wpAny_bind (wpAny_isInstance (T := "StopIteration") (b := true) ⟨o, ho, hc⟩ isSubtype_stop (wpAny_pure (g _ old)))
end
/-! ### in the frame: the tracked things of either kind -/
inductive Sqk (K : PySem.W.Frag) : Kd → Hp → Addr → List V → Prop
  | l {H : Hp} {a : Addr} {xs : List V} : SqL K H a xs → Sqk K .L H a xs
  | t {H : Hp} {a : Addr} {xs : List V} : SqT K H a xs → Sqk K .T H a xs
section
variable {X : Cx} {pins : List (Addr × Obj)} {σ : L2.St} {H : Hp} {s : Shared} {b : Kd} {a : Addr} {xs ys : List V}
theorem Sqk.srd (q : Sqk X.K b H a xs) (I : Inv X pins σ H s) : ∃ its, Vals xs its ∧ Srd b s.heap a its.toArray ∧ a < s.heap.objs.size := by
  cases q with
  | l q =>
    obtain ⟨its, rv, p, _⟩ := I.list q
    exact ⟨its, rv, .l p.isList, p.lt⟩
  | t q =>
    obtain ⟨its, rv, p, _⟩ := I.tuple q
    obtain ⟨o, ho, _⟩ := id p
    exact ⟨its, rv, .t p, Heap.lt_size ho⟩
theorem Sqk.inj (q : Sqk X.K b H a xs) (r : Sqk X.K b H a ys) (I : Inv X pins σ H s) : xs = ys := by
  cases q with
  | l q =>
    cases r with
    | l r => exact I.list_inj q r
  | t q =>
    cases r with
    | t r => exact I.tuple_inj q r
end
/-- two things by turns, in new pairs -/
def Itm (K : PySem.W.Frag) (b c : Kd) (a1 a2 : Addr) : It where
  go := fun i H => ∃ (xs ys : List V) (x y : V), Sqk K b H a1 xs ∧ Sqk K c H a2 ys ∧ xs[i]? = some x ∧ ys[i]? = some y
  yld := fun i H v H' => ∃ T x y, v = .ref T ∧ H T = none ∧ H' = upd H T (.tup [x, y]) ∧ (∀ xs, Sqk K b H a1 xs → xs[i]? = some x) ∧ ∀ ys, Sqk K c H a2 ys → ys[i]? = some y
  stop := fun i H => ∃ xs ys : List V, Sqk K b H a1 xs ∧ Sqk K c H a2 ys ∧ (xs.length ≤ i ∨ ys.length ≤ i)
theorem turn_m {P : Program} {w : World} {K : PySem.W.Frag} {elts : List Expr} {kk : Nat} {tpos : Pos} {b c : Kd} {a1 a2 z TI TO i1 i2 : Addr} (D : ZipApart z TI TO i1 i2 a1 a2) :
    Turn P w K (.Tuple elts kk tpos) (Itm K b c a1 a2) [z, TI, TO, i1, i2] z (fun i h => Zp b c z TI TO i1 i2 a1 a2 #[] #[] i h) where
  mem := by simp
  obj := fun i h p d hd => by
    obtain ⟨pz, pti, ⟨u0, u1, pto⟩, p1, p2⟩ := p
    rcases (show d = z ∨ d = TI ∨ d = TO ∨ d = i1 ∨ d = i2 by simpa using hd) with rfl | rfl | rfl | rfl | rfl
    · exact ⟨_, pz, fun v e => nomatch e⟩
    · exact ⟨_, pti, fun v e => nomatch e⟩
    · exact ⟨_, pto, fun v e => nomatch e⟩
    · exact p1.ob
    · exact p2.ob
  keep := fun i h h' p k => by
    obtain ⟨pz, pti, ⟨u0, u1, pto⟩, p1, p2⟩ := p
    exact ⟨k _ (by simp) _ pz, k _ (by simp) _ pti, ⟨u0, u1, k _ (by simp) _ pto⟩, p1.at_ fun o e => k _ (by simp) o e, p2.at_ fun o e => k _ (by simp) o e⟩
  item := by
    intro X hP hw hK hc i pins s σ H E I hf p hg
    subst hP hw hK
    obtain ⟨xs, ys, x, y, qx, qy, ex, ey⟩ := hg
    obtain ⟨its, rv, s1, _⟩ := qx.srd I
    obtain ⟨jts, rw_, s2, _⟩ := qy.srd I
    obtain ⟨u, hu, ru⟩ := rv.get ex
    obtain ⟨v, hv, rv2⟩ := rw_.get ey
    have zl : z < s.heap.objs.size := Heap.lt_size p.z
    have tl : TI < s.heap.objs.size := Heap.lt_size p.ti
    have ol : TO < s.heap.objs.size := by obtain ⟨_, _, e⟩ := p.to; exact Heap.lt_size e
    have l1 := p.i1.lt
    have l2 := p.i2.lt
    have pti := p.ti
    refine zp_nextI (xs := its.toArray) (ys := jts.toArray) (x := u) (y := v) D ⟨p.z, p.ti, p.to, p.i1, p.i2⟩ s1 s2 (by simpa using hu) (by simpa using hv) fun h' nz nto n1 n2 nt nsz old => ?_
    refine ⟨_, rfl, wpAny_letOwnedTupleGo_zip (s := { s with heap := h' }) nz fun hh nzz sb => ?_⟩
    have nt2 : hh.get? s.heap.objs.size = some { cls := .type "tuple", data := .seq #[u, v] } := (sb.2 _ (Nat.ne_of_gt zl)).trans nt
    have mem : ∀ d, d ∉ [z, TI, TO, i1, i2] → d ≠ z ∧ d ≠ TI ∧ d ≠ TO ∧ d ≠ i1 ∧ d ≠ i2 := fun d n => by simpa using n
    have I1 : Inv X pins σ (upd H s.heap.objs.size (.tup [x, y])) { s with heap := hh } := by
      refine I.turnedNew (t' := s.toks) (ch := [z, TI, TO, i1, i2]) (fun d o hb e => ?_) hf (Nat.le_refl _) ⟨by show 2 ≤ sizeLine; decide, [u, v], .cons ru (.cons rv2 .nil), ⟨_, nt2, rfl, _, rfl⟩⟩
      obtain ⟨m1, m2, m3, m4, m5⟩ := mem d hb
      exact (sb.2 d m1).trans (old d o m1 m3 m4 m5 e)
    refine ⟨.ref s.heap.objs.size, _, I1, rfl, ⟨_, x, y, rfl, I.hok.fresh (Nat.le_refl _), rfl, fun l hl => by rw [hl.inj qx I]; exact ex, fun l hl => by rw [hl.inj qy I]; exact ey⟩, ⟨nzz, ?_, ⟨u, v, ?_⟩, ?_, ?_⟩, fun d hd => ?_⟩
    · exact (sb.2 _ D.TIz).trans (old _ _ D.TIz D.TITO D.TIi1 D.TIi2 pti)
    · exact (sb.2 _ D.TOz).trans nto
    · exact n1.at_ fun o e => (sb.2 _ D.i1z).trans e
    · exact n2.at_ fun o e => (sb.2 _ D.i2z).trans e
    · have lt : d < s.heap.objs.size := by
        rcases (show d = z ∨ d = TI ∨ d = TO ∨ d = i1 ∨ d = i2 by simpa using hd) with rfl | rfl | rfl | rfl | rfl <;> assumption
      rw [upd_ne (Nat.ne_of_lt lt)]
      exact (hf d hd).1
  done := by
    intro X hP hw hK hc i pins s σ H E I hf p hg
    subst hP hw hK
    obtain ⟨xs, ys, qx, qy, ee⟩ := hg
    obtain ⟨its, rv, s1, _⟩ := qx.srd I
    obtain ⟨jts, rw_, s2, _⟩ := qy.srd I
    have e1 := rv.length
    have e2 := rw_.length
    have en : its.toArray[i]? = none ∨ jts.toArray[i]? = none := by
      rcases ee with e | e
      · exact .inl (by simp; omega)
      · exact .inr (by simp; omega)
    refine zp_nextE (I.ok.hd hc) D ⟨p.z, p.ti, p.to, p.i1, p.i2⟩ s1 s2 en fun h' old => ⟨rfl, I.turnedL (t' := s.toks) (ch := [z, TI, TO, i1, i2]) (fun d o hb e => ?_) hf⟩
    obtain ⟨m1, m2, m3, m4, m5⟩ : d ≠ z ∧ d ≠ TI ∧ d ≠ TO ∧ d ≠ i1 ∧ d ≠ i2 := by simpa using hb
    exact old d o m1 m3 m4 m5 e
  self := fun A i s Q E p h => wpAny_pyIter_zip p.z h
/-- how each kind begins -/
def Kd.o : Kd → Addr → Obj
  | .L, a => { cls := .type "list_iterator", data := .fields #[.ref a, .int 0 0] }
  | .T, a => { cls := .type "tuple_iterator", data := .fields #[.ref a, .int 0 0] }
theorem Kd.begins (b : Kd) (a : Addr) (its : Array Value) : Begins (.ref a) (b.o a) fun h => Srd b h a its := by
  cases b with
  | L => exact ⟨fun prog w A E s Q hl h => by cases hl with | l hl => exact (begins_list a its).iter prog w A E s Q hl h, fun h h' x k => by cases x with | l x => exact .l ((begins_list a its).keeps h h' x k), rfl⟩
  | T => exact ⟨fun prog w A E s Q hl h => by cases hl with | t hl => exact (begins_tuple a its).iter prog w A E s Q hl h, fun h h' x k => by cases x with | t x => exact .t ((begins_tuple a its).keeps h h' x k), rfl⟩
theorem Kd.itd {b : Kd} {a i : Addr} {h : Heap} (e : h.get? i = some (b.o a)) : Itd b h i a 0 := by
  cases b with
  | L => exact .l ⟨_, e, rfl, rfl⟩
  | T => exact .t ⟨_, e, rfl, rfl⟩
def iZm (K : PySem.W.Frag) (ta : TA) : TI := fun σ H R => ta σ H fun vs H1 => ∃ b c a1 a2 xs ys, vs = [.ref a1, .ref a2] ∧ Sqk K b H1 a1 xs ∧ Sqk K c H1 a2 ys ∧ R (Itm K b c a1 a2) H1
theorem pi_zm {X : Cx} {e e2 : Expr} {ta : TA} {p pos tpos : Pos} {elts : List Expr} {kk : Nat} (hg : Gl X "zip") (hm : X.mg "zip" = none) (ha : PA X [e, e2] ta)
    (hs : starEach [e, e2] X.env = (false, eval e X.env) :: starEach [e2] X.env := by rfl) (hpl : (backTo pos (starEach [e2] X.env)).any (·.1) = false := by rfl) :
    PI X (.Tuple elts kk tpos) (.Call (.Name "zip" p) [e, e2] [] pos) (iZm X.K ta) := by
  refine ⟨fun pins s σ H R I h => ?_⟩
  refine Call_ (ld_blt I hg hm PyProof.Rows.boot_zip (PyProof.Rows.callWith_type1 (thn (ha.run pos pins s σ H _ I h) fun us s1 ⟨vs, H1, I1, r1, q1⟩ => ?_) hs hpl))
  obtain ⟨b, c, a1, a2, xs, ys, ex, qx, qy, q⟩ := q1
  subst ex
  obtain ⟨its, rv, s1', lt1⟩ := qx.srd I1
  obtain ⟨jts, rw_, s2', lt2⟩ := qy.srd I1
  cases r1 with
  | cons r rr =>
    cases rr with
    | cons r' rr =>
      cases rr
      cases r
      cases r'
      generalize hn : s1.heap.objs.size = n at lt1 lt2
      have new : ∀ d ∈ [n + 4, n + 2, n + 3, n, n + 1], FpOk X pins H1 d := fun d hd => by
        have le : s1.heap.objs.size ≤ d := by
          rcases (show d = n + 4 ∨ d = n + 2 ∨ d = n + 3 ∨ d = n ∨ d = n + 1 by simpa using hd) with e | e | e | e | e <;> omega
        exact I1.fpOk le (I1.hok.fresh le)
      refine zip_begins2 (Kd.begins b a1 its.toArray) (Kd.begins c a2 jts.toArray) s1' s2' fun h' hz hti hto g1 g2 hsz hk => wpAny_pyIter_zip hz ?_
      rw [hn] at hz hti hto g1 g2 ⊢
      exact ⟨n + 4, [n + 4, n + 2, n + 3, n, n + 1], _, _, H1, rfl, I1.kept (t' := s1.toks) hk, turn_m (PySem.W.ktu_apart n a1 a2 lt1 lt2), ⟨hz, hti, ⟨_, _, hto⟩, Kd.itd g1, Kd.itd g2⟩, new, q⟩
section
variable {K : PySem.W.Frag} {b c : Kd} {a1 a2 : Addr} {xs ys : List V}
theorem walk_m {n : Nat} (hn : n = min xs.length ys.length) : Walk (Itm K b c a1 a2) n (fun H => Sqk K b H a1 xs ∧ Sqk K c H a2 ys) (YPair (fun i => xs[i]?) (fun i => ys[i]?)) := by
  subst hn
  refine ⟨fun i _ hi q => ?_, fun _ q => ⟨xs, ys, q.1, q.2, by omega⟩, fun i H v H' _ q y => ?_⟩
  · have h1 : i < xs.length := by omega
    have h2 : i < ys.length := by omega
    exact ⟨xs, ys, xs[i], ys[i], q.1, q.2, by simp [h1], by simp [h2]⟩
  · obtain ⟨T, x, z, h1, h2, h3, h4, h5⟩ := y
    exact ⟨T, x, z, h1, h2, h3, h4 xs q.1, h5 ys q.2⟩
end
/-! ### .. and the rules: a list or a tuple each -/
def zipM (a b : PyData) : Option (List PyData) := (seqOf a).bind fun x => (seqOf b).map (zpD x)
theorem zipM_ll (x y : List PyData) : zipM (.list x) (.list y) = some (zpD x y) := rfl
theorem zipM_lt (x y : List PyData) : zipM (.list x) (.tuple y) = some (zpD x y) := rfl
theorem zipM_tl (x y : List PyData) : zipM (.tuple x) (.list y) = some (zpD x y) := rfl
theorem zipM_tt (x y : List PyData) : zipM (.tuple x) (.tuple y) = some (zpD x y) := rfl
def iZpM (v : MSt → MH → Val → Option PyData) (f1 f2 : Ex Val) : Ex (List PyData) := fun st M => (f1 st M).bind fun x M1 => (f2 st M1).bind fun y M2 => Out.ofOpt ((v st M2 x).bind fun a => (v st M2 y).bind fun b => zipM a b) M2
section
variable {K : PySem.W.Frag} {Y : Wd} {H : Hp} {M : MH} {st : MSt} {σ : L2.St}
theorem seqk_w {x : V} {v : Val} {d : PyData} {ds : List PyData} (r : VRp K Y H st σ x v) (h : datV v = some d) (e : seqOf d = some ds) : ∃ b a xs, x = .ref a ∧ RpA K Y.F H xs ds ∧ ∀ F2 H2, Wk Y.F F2 H H2 → Sqk K b H2 a xs := by
  rcases seqOf_some e with rfl | rfl
  · obtain ⟨a, xs, e1, rx, k⟩ := (seq_w r h).1 ds rfl
    exact ⟨.L, a, xs, e1, rx, fun F2 H2 w => .l (k F2 H2 w)⟩
  · obtain ⟨a, xs, e1, rx, k⟩ := (seq_w r h).2 ds rfl
    exact ⟨.T, a, xs, e1, rx, fun F2 H2 w => .t (k F2 H2 w)⟩
theorem seqk_x {x : V} {v : Val} {d : PyData} {ds : List PyData} (g : GR K Y M H) (fr : FR K Y st H σ) (r : VRp K Y H st σ x v) (h : ownV st M v = some d) (e : seqOf d = some ds) : ∃ b a xs, x = .ref a ∧ RpA K Y.F H xs ds ∧ ∀ Y2 H2, Step Y H Y2 H2 → Sqk K b H2 a xs := by
  rcases seqOf_some e with rfl | rfl
  · obtain ⟨a, xs, e1, rx, k⟩ := (seq_x g fr r h).1 ds rfl
    exact ⟨.L, a, xs, e1, rx, fun Y2 H2 w => .l (k Y2 H2 w)⟩
  · obtain ⟨a, xs, e1, rx, k⟩ := (seq_x g fr r h).2 ds rfl
    exact ⟨.T, a, xs, e1, rx, fun Y2 H2 w => .t (k Y2 H2 w)⟩
theorem zipM_some {a b : PyData} {zs : List PyData} (h : zipM a b = some zs) : ∃ ds es, zs = zpD ds es ∧ seqOf a = some ds ∧ seqOf b = some es := by
  obtain ⟨ds, h1, h2⟩ := Option.bind_eq_some_iff.mp h
  obtain ⟨es, h3, rfl⟩ := Option.map_eq_some_iff.mp h2
  exact ⟨ds, es, rfl, h1, h3⟩
end
section
variable {X : Cx} {P : Pm} {e e2 : Expr} {p pos tpos : Pos} {f f2 : Ex Val} {elts : List Expr} {kk : Nat}
theorem zm_cast {st : MSt} {M : MH} (v : MSt → MH → Val → Option PyData) : iZpM v f f2 st M = (aCons f (aCons f2 aNil) st M).bind fun vs M2 => Out.ofOpt (match vs with | [x, y] => (v st M2 x).bind fun a => (v st M2 y).bind fun b => zipM a b | _ => none) M2 := by
  unfold iZpM aCons aNil
  cases f st M with
  | ok x M1 =>
    simp only [Out.bind_ok]
    cases f2 st M1 <;> rfl
  | exc _ _ => rfl
  | err => rfl
theorem si_zipM (hg : Gl X "zip") (hm : X.mg "zip" = none) (h : SE X P e f) (h2 : SE X P e2 f2) (hs : starEach [e, e2] X.env = (false, eval e X.env) :: starEach [e2] X.env := by rfl) (hs1 : starEach [e2] X.env = (false, eval e2 X.env) :: starEach [] X.env := by rfl)
    (hpl : (backTo pos (starEach [e2] X.env)).any (·.1) = false := by rfl) : SI X P (.Tuple elts kk tpos) (.Call (.Name "zip" p) [e, e2] [] pos) (iZpM vD f f2) := by
  refine PI.imp (pi_zm hg hm (sa_cons h (sa_cons h2 sa_nil hs1) hs) hs hpl) fun σ H Q q => ?_
  obtain ⟨Y, M, st, g0, fr, q⟩ := q
  rw [zm_cast vD] at q
  refine ⟨Y, M, st, g0, fr, Post.bind (R1 := RA X.K) shI q fun vs M1 Y1 H1 xs _ s1 g1 r1 q1 => ?_⟩
  obtain ⟨zs, ez, q⟩ := Post.opt q1
  match vs, ez with
  | [x, y], ez =>
    obtain ⟨a, ea, ez⟩ := Option.bind_eq_some_iff.mp ez
    obtain ⟨b, eb, ez⟩ := Option.bind_eq_some_iff.mp ez
    obtain ⟨ds, es, rfl, e1, e2⟩ := zipM_some ez
    cases r1 with
    | cons r1 r2 =>
      cases r2 with
      | cons r2 r3 =>
        cases r3
        obtain ⟨b1, a1, xs, rfl, rx, k1⟩ := seqk_w r1 ea e1
        obtain ⟨b2, a2, ys, rfl, ry, k2⟩ := seqk_w r2 eb e2
        exact ⟨b1, b2, a1, a2, xs, ys, rfl, k1 _ _ (Wk.refl _ _), k2 _ _ (Wk.refl _ _), Post.ok q (Step.refl Y1 H1) g1 (mw_pair (by rw [zpD_len, rx.length, ry.length]) (walk_m rfl) (fun F2 H2 w => ⟨k1 F2 H2 w, k2 F2 H2 w⟩) (zp_prs rx ry))⟩
theorem six_zipM (hg : Gl X "zip") (hm : X.mg "zip" = none) (h : SE X P e f) (h2 : SE X P e2 f2) (hs : starEach [e, e2] X.env = (false, eval e X.env) :: starEach [e2] X.env := by rfl) (hs1 : starEach [e2] X.env = (false, eval e2 X.env) :: starEach [] X.env := by rfl)
    (hpl : (backTo pos (starEach [e2] X.env)).any (·.1) = false := by rfl) : SIx X P (.Tuple elts kk tpos) (.Call (.Name "zip" p) [e, e2] [] pos) (iZpM vO f f2) := by
  refine PI.imp (pi_zm hg hm (sa_cons h (sa_cons h2 sa_nil hs1) hs) hs hpl) fun σ H Q q => ?_
  obtain ⟨Y, M, st, g0, fr, q⟩ := q
  rw [zm_cast vO] at q
  refine ⟨Y, M, st, g0, fr, Post.bind (R1 := RA X.K) shIx q fun vs M1 Y1 H1 xs _ s1 g1 r1 q1 => ?_⟩
  have fr1 := fr.step g0 s1
  obtain ⟨zs, ez, q⟩ := Post.opt q1
  match vs, ez with
  | [x, y], ez =>
    obtain ⟨a, ea, ez⟩ := Option.bind_eq_some_iff.mp ez
    obtain ⟨b, eb, ez⟩ := Option.bind_eq_some_iff.mp ez
    obtain ⟨ds, es, rfl, e1, e2⟩ := zipM_some ez
    cases r1 with
    | cons r1 r2 =>
      cases r2 with
      | cons r2 r3 =>
        cases r3
        obtain ⟨b1, a1, xs, rfl, rx, k1⟩ := seqk_x g1 fr1 r1 ea e1
        obtain ⟨b2, a2, ys, rfl, ry, k2⟩ := seqk_x g1 fr1 r2 eb e2
        exact ⟨b1, b2, a1, a2, xs, ys, rfl, k1 _ _ (Step.refl _ _), k2 _ _ (Step.refl _ _), Post.ok q (Step.refl Y1 H1) g1 (mwx_pair g1 (by rw [zpD_len, rx.length, ry.length]) (walk_m rfl) (fun Y2 H2 w => ⟨k1 Y2 H2 w, k2 Y2 H2 w⟩) (zp_prs rx ry))⟩
end
/-! ### a shared list: insert -/
theorem Paired.takeN {α β : Type} {F : α → β → Prop} : ∀ {as : List α} {bs : List β} (_ : Paired F as bs) (i : Nat), Paired F (as.take i) (bs.take i)
  | _, _, _, 0 => by rw [List.take_zero, List.take_zero]; exact .nil
  | _, _, .nil, i + 1 => .nil
  | _, _, .cons h t, i + 1 => .cons h (Paired.takeN t i)
theorem Paired.dropN {α β : Type} {F : α → β → Prop} : ∀ {as : List α} {bs : List β} (_ : Paired F as bs) (i : Nat), Paired F (as.drop i) (bs.drop i)
  | _, _, h, 0 => h
  | _, _, .nil, i + 1 => .nil
  | _, _, .cons _ t, i + 1 => Paired.dropN t i
def eLIns (fo fi f : Ex Val) : Ex Val := fun st M => (fo st M).bind fun o M1 => if isLoc M1 o = true then (fi st M1).bind fun i M2 => (f st M2).bind fun v M3 => match locOf M3 o, intOf i with
  | some (n, vs), some j => if (0 ≤ j ∧ j < 2 ^ 63) ∧ noSlot v = true ∧ vs.length < SL then .ok (.dat .none) (M3.set n (.lst (vs.take j.toNat ++ [v] ++ vs.drop j.toNat))) else .err
  | _, _ => .err else .err
section
variable {X : Cx} {P : Pm} {e o i : Expr}
theorem se_lins {apos cpos : Pos} {fo fi f : Ex Val} (ho : SE X P o fo) (hi : SE X P i fi) (he : SE X P e f) (hs : starEach [i, e] X.env = (false, eval i X.env) :: starEach [e] X.env := by rfl) (hs1 : starEach [e] X.env = (false, eval e X.env) :: starEach [] X.env := by rfl)
    (hb : attributeBase o "insert" X.env (eval o X.env) = eval o X.env := by rfl) (hline : (apos.endLine == cpos.line) = true := by rfl) (hplain : (backTo cpos (starEach [e] X.env)).any (·.1) = false := by rfl)
    (hf : ((backTo cpos (starEach [i, e] X.env)).all (fun x => !x.1) && (backToKw cpos (keywordEach [] X.env)).all (fun x => x.1.isSome) && decide ([i, e].length + ([] : List Keyword).length + (if ([] : List Keyword).isEmpty then 0 else 1) < 30)) = true := by rfl) :
    SE X P (.Call (.Attribute o "insert" apos) [i, e] [] cpos) (eLIns fo fi f) := by
  refine PE.imp (pe_bm PySem.F.plainAttrs_list PySem.F.slot_list_insert PySem.F.type_list_insert mt_insert ho (pa_cons hi (pa_cons he pa_nil hs1) hs) hb hf hline hs hplain) fun σ H Q h => ?_
  obtain ⟨Y, M, st, g0, fr, h⟩ := h
  refine ⟨Y, M, st, g0, fr, Post.bind (R1 := RV X.K) shV h fun va M1 Y1 H1 x _ s1 g1 r1 q1 => ?_⟩
  have fr1 := fr.step g0 s1
  cases hl : isLoc M1 va with
  | false => rw [hl] at q1; exact False.elim q1
  | true =>
    rw [hl, if_pos rfl] at q1
    refine ⟨loc_ty g1 r1 hl, Y1, M1, st, g1, fr1, Post.bind (R1 := RV X.K) shV q1 fun vi M2 Y2 H2 yi _ s2 g2 r2 q2 => ⟨Y2, M2, st, g2, fr1.step g1 s2, Post.bind (R1 := RV X.K) shV q2 fun v M3 Y3 H3 y _ s3 g3 r3 q3 => ?_⟩⟩
    cases hl2 : locOf M3 va with
    | none => rw [hl2] at q3; exact False.elim q3
    | some p =>
      obtain ⟨n, vs⟩ := p
      cases hj : intOf vi with
      | none => rw [hl2, hj] at q3; exact False.elim q3
      | some j =>
        rw [hl2, hj] at q3
        simp only at q3
        cases intOf_some hj
        cases VRp.int (VRp.step g2 s3 r2)
        obtain ⟨a, xs, rfl, hm, hx, pr⟩ := loc_at g3 (VRp.step g2 s3 (VRp.step g1 s2 r1)) hl2
        by_cases hc : (0 ≤ j ∧ j < 2 ^ 63) ∧ noSlot v = true ∧ vs.length < SL
        · rw [if_pos hc] at q3
          obtain ⟨⟨c1, c2⟩, c3, c4⟩ := hc
          obtain ⟨g4, s4⟩ := g3.wrt hm (Paired.app (Paired.app (Paired.takeN pr j.toNat) (.cons (VRp.v0 r3 c3) .nil)) (Paired.dropN pr j.toNat))
          exact ⟨a, xs, j, y, rfl, rfl, hx, by rw [Paired.length pr, sl_eq]; exact c4, c1, c2, q3 Y3 _ .non s4 g4 (show Rp X.K Y3.F _ .non .none from .non)⟩
        · rw [if_neg hc] at q3; exact False.elim q3
end
/-! ### a comprehension's list as a shared one -/
section
variable {K : PySem.W.Frag} {P : Pm} {σ : L2.St} {H : Hp} {Q : VK}
theorem rn_loc {f : Ex Sl} (h : Rn K P (RV K) (eLoc f) σ H Q) : Rn K P (RS K) f σ H Q := by
  obtain ⟨Y, M, st, g, fr, h⟩ := h
  refine ⟨Y, M, st, g, fr, ?_⟩
  unfold eLoc at h
  cases q : f st M with
  | ok s M' =>
    rw [q] at h
    intro Y' H' x sp g' r
    cases s with
    | v y => exact False.elim h
    | own ds =>
      obtain ⟨a, rfl, o, n⟩ := r
      refine h (Y'.add M'.length a) H' _ ?_ (Ow.share g' o) ⟨a, rfl, ?_⟩
      · refine ⟨fun k b e => ?_, sp.F, fun k b e => ?_, sp.fF, sp.kp⟩
        · show (if k = M'.length then some a else Y'.m k) = some b
          rw [if_neg (Nat.ne_of_lt (g'.lt k b (sp.m k b e)))]
          exact sp.m k b e
        · have e : (if k = M'.length then some a else Y'.m k) = some b := e
          by_cases hk : k = M'.length
          · rw [if_pos hk] at e
            cases e
            exact .inr n
          · rw [if_neg hk] at e
            exact sp.fm k b e
      · show (if M'.length = M'.length then some a else Y'.m M'.length) = some a
        rw [if_pos rfl]
  | exc ex M' =>
    rw [q] at h
    exact h
  | err => rw [q] at h; exact h
theorem rn_xv {f : Ex Val} (h : Rn K P (RS K) (xV f) σ H Q) : Rn K P (RV K) f σ H Q := by
  refine Rn.first (R1 := RV K) shS h fun v st M' Y' H' x g fr _ r q => ?_
  cases hn : noSlot v with
  | false => rw [hn] at q; exact False.elim q
  | true =>
    rw [hn] at q
    exact Post.ok q (Step.refl Y' H') g (VRp.v0 r hn)
end
section
variable {X : Cx} {P : Pm} {pos : Pos}
theorem s1_setLcL (i : Nat) {y : Str} {py spos : Pos} {elt tg iter : Expr} {ifs : List Expr} {scope : Scope} {own : List (Str × Nat)} {ws : List Nat} {it : Ex (List PyData)} {g : Tgt} {c : Ex Bool} {f : Ex Val} (hc : X.calm = true) (hN : X.N.Nodup)
    (hi : SIx X P tg iter it) (ok : BlkOk X.N X.env.scope scope own)
    (hg : ∀ (s : Shared) (H : Hp) (C : Addr) (cl : List (Str × Addr)) (fp : List Addr), SG (X.blk s H scope (compEnvC scope cl C X.env) fp) tg ws g) (ht : ∀ (s : Shared) (H : Hp) (C : Addr) (cl : List (Str × Addr)) (fp : List Addr), SC (X.blk s H scope (compEnvC scope cl C X.env) fp) P.b ifs c)
    (he : ∀ (s : Shared) (H : Hp) (C : Addr) (cl : List (Str × Addr)) (fp : List Addr), SE (X.blk s H scope (compEnvC scope cl C X.env) fp) P.b elt f)
    (hsw : swapsWith (.ListComp elt [⟨tg, iter, ifs, 0⟩] scope pos) (some (.Name y py)) spos.line X.env = pure true) (hv : ∀ i ∈ ws, i ∈ own.map (·.2) := by decide)
    (hy : X.N[i]? = some y := by rfl) (hyl : X.env.scope.names.lookup y = some .local := by rfl) (hs : ∀ x, foldedSetIterable iter X.env x = pure x := by intro _; rfl) :
    S1 X P (.Assign [.Name y py] (.ListComp elt [⟨tg, iter, ifs, 0⟩] scope pos) spos) (tmAs (xV (eLoc (xLc (own.map (·.2)) it g c f))) (tgN i)) := PS.imp (ps_setLc hc hN hy hyl hsw hi ok hg ht he hs) fun D σ H h => by
  obtain ⟨Y0, H0, bs, Y, M, st, r, h⟩ := h
  refine lc_imp hv (Q := fun x H1 => gName i x σ H1 D.nx) (rn_loc (rn_xv (rn_x (R := RS X.K) r h fun a M' Y' H' x r' s ra h' => ?_)))
  exact h' Y' H' _ ((asg_set r'.fr r'.yo (SlR.n r s r'.gr ra) i).sr r')
theorem s1_setLcAL (k i : Nat) {y : Str} {py spos : Pos} {elt tg iter : Expr} {ifs : List Expr} {scope : Scope} {own : List (Str × Nat)} {ws : List Nat} {fe : Ex Val} {g : Tgt} {c : Ex Bool} {f : Ex Val} (hc : X.calm = true) (hN : X.N.Nodup)
    (hi : SE X P iter fe) (ok : BlkOk X.N X.env.scope scope own)
    (hg : ∀ (s : Shared) (H : Hp) (C : Addr) (cl : List (Str × Addr)) (fp : List Addr), SG (X.blk s H scope (compEnvC scope cl C X.env) fp) tg ws g) (ht : ∀ (s : Shared) (H : Hp) (C : Addr) (cl : List (Str × Addr)) (fp : List Addr), SC (X.blk s H scope (compEnvC scope cl C X.env) fp) P.b ifs c)
    (he : ∀ (s : Shared) (H : Hp) (C : Addr) (cl : List (Str × Addr)) (fp : List Addr), SE (X.blk s H scope (compEnvC scope cl C X.env) fp) P.b elt f)
    (hsw : swapsWith (.ListComp elt [⟨tg, iter, ifs, 0⟩] scope pos) (some (.Name y py)) spos.line X.env = pure true) (hv : ∀ i ∈ ws, i ∈ own.map (·.2) := by decide)
    (hy : X.N[i]? = some y := by rfl) (hyl : X.env.scope.names.lookup y = some .local := by rfl) (hs : ∀ x, foldedSetIterable iter X.env x = pure x := by intro _; rfl) :
    S1 X P (.Assign [.Name y py] (.ListComp elt [⟨tg, iter, ifs, 0⟩] scope pos) spos) (tmAs (xV (eLoc (xLcA k (own.map (·.2)) fe g c f))) (tgN i)) := PS.imp (ps_setLc hc hN hy hyl hsw (pi_any hi) ok hg ht he hs) fun D σ H h => by
  obtain ⟨Y0, H0, bs, Y, M, st, r, h⟩ := h
  refine lcA_imp k hv (Q := fun x H1 => gName i x σ H1 D.nx) (rn_loc (rn_xv (rn_x (R := RS X.K) r h fun a M' Y' H' x r' s ra h' => ?_)))
  exact h' Y' H' _ ((asg_set r'.fr r'.yo (SlR.n r s r'.gr ra) i).sr r')
end
end Mn

set_option Elab.async false
set_option linter.all false
set_option maxRecDepth 100000
set_option maxHeartbeats 4000000
namespace Mn
open PySem PySem.Spec PyProof.Rows L2

/-! ### dicts: what stands at a key, what is put there (keys: ints and texts, or tuples of these) -/
def keysT : PyData → Option (List Key) | .tuple ds => keysD ds | _ => none
def dLook (M : MH) (o k : Val) : Option (Option Val) := match dctAt M o, (datV k).bind keyD with
  | some p, some kk => some (getK p.2 kk)
  | _, _ => match dctTAt M o, (datV k).bind keysT with
    | some p, some kk => some (getK p.2 kk)
    | _, _ => none
def dPut (M : MH) (o k v : Val) : Option MH := match dctAt M o, (datV k).bind keyD with
  | some p, some kk => if p.2.length < SL ∧ noSlot v = true then some (M.set p.1 (.dct (setK p.2 kk v))) else none
  | _, _ => match dctTAt M o, (datV k).bind keysT with
    | some p, some kk => if p.2.length < SL ∧ noSlot v = true then some (M.set p.1 (.dctT (setK p.2 kk v))) else none
    | _, _ => none
section
variable {K : PySem.W.Frag} {Y : Wd} {M : MH} {H : Hp} {st : MSt} {σ : L2.St}
theorem keysD_rp {F : Addr → Prop} : ∀ {xs : List V} {ds : List PyData} {ks : List Key}, RpA K F H xs ds → keysD ds = some ks → xs = ks.map kV
  | [], [], ks, _, h => by
    cases (show some [] = some ks from h)
    rfl
  | x :: xs, d :: ds, ks, r, h => by
    cases r with
    | cons r1 r2 =>
      obtain ⟨k, e1, h⟩ := Option.bind_eq_some_iff.mp (show (keyD d).bind (fun k => (keysD ds).map (k :: ·)) = some ks from h)
      obtain ⟨t, e2, rfl⟩ := Option.map_eq_some_iff.mp h
      rw [keysD_rp r2 e2, keyD_rp r1 e1]
      rfl
  | [], _ :: _, _, r, _ => nomatch r
  | _ :: _, [], _, r, _ => nomatch r
theorem keysT_at {y : V} {vk : Val} {kk : List Key} (r : VRp K Y H st σ y vk) (h : (datV vk).bind keysT = some kk) : ∃ b, y = .ref b ∧ H b = some (.tup (kk.map kV)) := by
  cases vk with
  | dat d =>
    cases d with
    | tuple ds =>
      have h : keysD ds = some kk := h
      cases r with
      | tup h1 h2 =>
        have e := keysD_rp h2 h
        subst e
        exact ⟨_, rfl, h1⟩
    | _ => cases h
  | _ => cases h
theorem keyD_at {y : V} {vk : Val} {kk : Key} (r : VRp K Y H st σ y vk) (h : (datV vk).bind keyD = some kk) : y = kV kk := by
  cases vk with
  | dat d => exact keyD_rp r (show keyD d = some kk from h)
  | _ => cases h
theorem dLook_at (g : GR K Y M H) {x y : V} {vo vk : Val} {r : Option Val} (rx : VRp K Y H st σ x vo) (ry : VRp K Y H st σ y vk) (h : dLook M vo vk = some r) :
    ∃ a o, x = .ref a ∧ DGet H a y o ∧ (r = none → o = none) ∧ ∀ v, r = some v → ∃ z, o = some z ∧ VR0 K Y H z v := by
  unfold dLook at h
  split at h
  · rename_i p kk h1 h2
    cases h
    obtain ⟨a, kx, rfl, _, hx, pr⟩ := dctAt_at g rx (n := p.1) (kvs := p.2) h1
    have kf := kv_find kk pr
    rw [keyD_at ry h2]
    exact ⟨a, _, rfl, DGet.k hx, fun e => kf.2 e, fun v e => kf.1 v e⟩
  · split at h
    · rename_i p kk h1 h2
      cases h
      obtain ⟨a, kx, rfl, _, hx, pr⟩ := dctTAt_at g rx (n := p.1) (kvs := p.2) h1
      have kf := kv_find kk pr
      obtain ⟨b, rfl, hb⟩ := keysT_at ry h2
      exact ⟨a, _, rfl, DGet.t hx hb, fun e => kf.2 e, fun v e => kf.1 v e⟩
    · cases h
theorem dPut_at (g : GR K Y M H) {x y z : V} {vo vk v : Val} {M' : MH} (rx : VRp K Y H st σ x vo) (ry : VRp K Y H st σ y vk) (rz : VRp K Y H st σ z v) (h : dPut M vo vk v = some M') :
    ∃ a H', x = .ref a ∧ DPut H a y z H' ∧ GR K Y M' H' ∧ Step Y H Y H' := by
  unfold dPut at h
  split at h
  · rename_i p kk h1 h2
    obtain ⟨a, kx, rfl, hm, hx, pr⟩ := dctAt_at g rx (n := p.1) (kvs := p.2) h1
    by_cases hc : p.2.length < SL ∧ noSlot v = true
    · rw [if_pos hc] at h
      cases h
      obtain ⟨g4, s4⟩ := g.wrtO (u := .dK (putK kx kk z)) (o := .dct (setK p.2 kk v)) hm (show Paired _ _ _ from kv_put (VRp.v0 rz hc.2) pr)
      rw [keyD_at ry h2]
      exact ⟨a, _, rfl, DPut.k hx (by rw [Paired.length pr, sl_eq]; exact hc.1), g4, s4⟩
    · rw [if_neg hc] at h
      cases h
  · split at h
    · rename_i p kk h1 h2
      obtain ⟨a, kx, rfl, hm, hx, pr⟩ := dctTAt_at g rx (n := p.1) (kvs := p.2) h1
      obtain ⟨b, rfl, hb⟩ := keysT_at ry h2
      by_cases hc : p.2.length < SL ∧ noSlot v = true
      · rw [if_pos hc] at h
        cases h
        obtain ⟨g4, s4⟩ := g.wrtO (u := .dT (putK kx kk z)) (o := .dctT (setK p.2 kk v)) hm (show Paired _ _ _ from kv_put (VRp.v0 rz hc.2) pr)
        exact ⟨a, _, rfl, DPut.t hx hb (by rw [Paired.length pr, sl_eq]; exact hc.1), g4, s4⟩
      · rw [if_neg hc] at h
        cases h
    · cases h
end
/-- d[k], k in d, k not in d, d.get(k), d.get(k, x) -/
def eDAt (fo fk : Ex Val) : Ex Val := fun st M => (fo st M).bind fun o M1 => (fk st M1).bind fun k M2 => match dLook M2 o k with
  | some (some v) => .ok v M2
  | _ => .err
def eDIn (fk fo : Ex Val) : Ex Val := fun st M => (fk st M).bind fun k M1 => (fo st M1).bind fun o M2 => match dLook M2 o k with
  | some r => .ok (.dat (.bool r.isSome)) M2
  | none => .err
def eDNotIn (fk fo : Ex Val) : Ex Val := fun st M => (fk st M).bind fun k M1 => (fo st M1).bind fun o M2 => match dLook M2 o k with
  | some r => .ok (.dat (.bool (!r.isSome))) M2
  | none => .err
def eDGet1 (fo fk : Ex Val) : Ex Val := fun st M => (fo st M).bind fun o M1 => if isDct M1 o = true then (fk st M1).bind fun k M2 => match dLook M2 o k with
  | some r => .ok (r.getD (.dat .none)) M2
  | none => .err else .err
def eDGet2 (fo fk fx : Ex Val) : Ex Val := fun st M => (fo st M).bind fun o M1 => if isDct M1 o = true then (fk st M1).bind fun k M2 => (fx st M2).bind fun x M3 => match dLook M3 o k with
  | some r => if noSlot x = true then .ok (r.getD x) M3 else .err
  | none => .err else .err
/-- d[k] = v -/
def tmDPut (fv fo fk : Ex Val) : Tm := tX (fun st M => (fv st M).bind fun v M1 => (fo st M1).bind fun o M2 => (fk st M2).bind fun k M3 => match dPut M3 o k v with
  | some M' => .ok (Val.dat .none) M'
  | none => .err) fun _ st M => some (.nx, st, M)
section
variable {X : Cx} {P : Pm} {pos : Pos} {e e2 o i value : Expr} {fo fk fx fv f : Ex Val}
theorem rn_dat {σ : L2.St} {H : Hp} {Q : VK} (h : Rn X.K P (RV X.K) (eDAt fo fk) σ H Q) : tDGet (Rn X.K P (RV X.K) fo) (Rn X.K P (RV X.K) fk) σ H Q := by
  obtain ⟨Y, M, st, g0, fr, h⟩ := h
  refine ⟨Y, M, st, g0, fr, Post.bind (R1 := RV X.K) shV h fun vo M1 Y1 H1 x _ s1 g1 r1 q1 => ?_⟩
  have fr1 := fr.step g0 s1
  refine ⟨Y1, M1, st, g1, fr1, Post.bind (R1 := RV X.K) shV q1 fun vk M2 Y2 H2 y _ s2 g2 r2 q2 => ?_⟩
  split at q2
  case h_2 => exact False.elim q2
  rename_i v hl
  obtain ⟨a, ov, rfl, dg, _, some_⟩ := dLook_at g2 (VRp.step g1 s2 r1) r2 hl
  obtain ⟨z, rfl, rz⟩ := some_ v rfl
  exact ⟨a, z, rfl, dg, q2 Y2 H2 z (Step.refl Y2 H2) g2 (VR0.vr rz)⟩
theorem se_dat (hu : X.A.units + 1 < cLine) (ho : SE X P o fo) (hk : SE X P e fk) (hs : NoSl e := by exact fun _ _ => rfl) : SE X P (.Subscript o e pos) (eDAt fo fk) := PE.imp (pe_dget hu ho hk hs) fun _ _ _ h => rn_dat h
theorem rn_din {σ : L2.St} {H : Hp} {Q : VK} (h : Rn X.K P (RV X.K) (eDIn fk fo) σ H Q) : tDIn (Rn X.K P (RV X.K) fk) (Rn X.K P (RV X.K) fo) σ H Q := by
  obtain ⟨Y, M, st, g0, fr, h⟩ := h
  refine ⟨Y, M, st, g0, fr, Post.bind (R1 := RV X.K) shV h fun vk M1 Y1 H1 y _ s1 g1 r1 q1 => ?_⟩
  have fr1 := fr.step g0 s1
  refine ⟨Y1, M1, st, g1, fr1, Post.bind (R1 := RV X.K) shV q1 fun vo M2 Y2 H2 x _ s2 g2 r2 q2 => ?_⟩
  split at q2
  case h_2 => exact False.elim q2
  rename_i r hl
  obtain ⟨a, ov, rfl, dg, no, some_⟩ := dLook_at g2 r2 (VRp.step g1 s2 r1) hl
  have e : ov.isSome = r.isSome := by
    cases r with
    | none => rw [no rfl]; rfl
    | some v => obtain ⟨z, rfl, _⟩ := some_ v rfl; rfl
  exact ⟨a, ov, rfl, dg, q2 Y2 H2 _ (Step.refl Y2 H2) g2 (show Rp X.K Y2.F H2 (.bl ov.isSome) (.bool r.isSome) from by rw [e]; exact .bl _)⟩
theorem rn_dnotin {σ : L2.St} {H : Hp} {Q : VK} (h : Rn X.K P (RV X.K) (eDNotIn fk fo) σ H Q) : tDNotIn (Rn X.K P (RV X.K) fk) (Rn X.K P (RV X.K) fo) σ H Q := by
  obtain ⟨Y, M, st, g0, fr, h⟩ := h
  refine ⟨Y, M, st, g0, fr, Post.bind (R1 := RV X.K) shV h fun vk M1 Y1 H1 y _ s1 g1 r1 q1 => ?_⟩
  have fr1 := fr.step g0 s1
  refine ⟨Y1, M1, st, g1, fr1, Post.bind (R1 := RV X.K) shV q1 fun vo M2 Y2 H2 x _ s2 g2 r2 q2 => ?_⟩
  split at q2
  case h_2 => exact False.elim q2
  rename_i r hl
  obtain ⟨a, ov, rfl, dg, no, some_⟩ := dLook_at g2 r2 (VRp.step g1 s2 r1) hl
  have e : ov.isSome = r.isSome := by
    cases r with
    | none => rw [no rfl]; rfl
    | some v => obtain ⟨z, rfl, _⟩ := some_ v rfl; rfl
  exact ⟨a, ov, rfl, dg, q2 Y2 H2 _ (Step.refl Y2 H2) g2 (show Rp X.K Y2.F H2 (.bl (!ov.isSome)) (.bool (!r.isSome)) from by rw [e]; exact .bl _)⟩
theorem se_din (hu : X.A.units + 1 < cLine) (hk : SE X P i fk) (ho : SE X P o fo) (hm : behindInMarks .In o = false := by rfl) : SE X P (.Compare i [.In] [o] pos) (eDIn fk fo) := PE.imp (pe_cmp (pc_din hu hk ho) hm) fun _ _ _ h => rn_din h
theorem st_din (hu : X.A.units + 1 < cLine) (hk : SE X P i fk) (ho : SE X P o fo) (hm : behindInMarks .In o = false := by rfl) : ST X P (.Compare i [.In] [o] pos) (toB (eDIn fk fo)) := PT.imp (pt_cmp (pc_din hu hk ho) hm) fun _ _ _ h => rn_din (rn_toB h)
theorem se_dnotin (hu : X.A.units + 1 < cLine) (hk : SE X P i fk) (ho : SE X P o fo) (hm : behindInMarks .NotIn o = false := by rfl) : SE X P (.Compare i [.NotIn] [o] pos) (eDNotIn fk fo) := PE.imp (pe_cmp (pc_dnotin hu hk ho) hm) fun _ _ _ h => rn_dnotin h
theorem st_dnotin (hu : X.A.units + 1 < cLine) (hk : SE X P i fk) (ho : SE X P o fo) (hm : behindInMarks .NotIn o = false := by rfl) : ST X P (.Compare i [.NotIn] [o] pos) (toB (eDNotIn fk fo)) := PT.imp (pt_cmp (pc_dnotin hu hk ho) hm) fun _ _ _ h => rn_dnotin (rn_toB h)
theorem se_dget1 {apos cpos : Pos} (hu : X.A.units + 1 < cLine) (ho : SE X P o fo) (hk : SE X P e fk) (hbase : attributeBase o "get" X.env (eval o X.env) = eval o X.env := by rfl)
    (hfew : ((backTo cpos (starEach [e] X.env)).all (fun x => !x.1) && (backToKw cpos (keywordEach [] X.env)).all (fun x => x.1.isSome) && decide (([e] : List Expr).length + ([] : List Keyword).length + (if ([] : List Keyword).isEmpty then 0 else 1) < 30)) = true := by rfl)
    (hline : (apos.endLine == cpos.line) = true := by rfl) (htr : backTo cpos (starEach [e] X.env) = [(false, eval e X.env)] := by rfl) :
    SE X P (.Call (.Attribute o "get" apos) [e] [] cpos) (eDGet1 fo fk) := by
  refine PE.imp (pe_dget1 hu ho hk ⟨hbase, hfew, hline, htr⟩) fun σ H Q h => ?_
  obtain ⟨Y, M, st, g0, fr, h⟩ := h
  refine ⟨Y, M, st, g0, fr, Post.bind (R1 := RV X.K) shV h fun vo M1 Y1 H1 x _ s1 g1 r1 q1 => ?_⟩
  have fr1 := fr.step g0 s1
  cases hd : isDct M1 vo with
  | false => rw [hd] at q1; exact False.elim q1
  | true =>
    rw [hd, if_pos rfl] at q1
    obtain ⟨a, rfl, isd⟩ := isDct_at g1 r1 hd
    refine ⟨a, rfl, isd, Y1, M1, st, g1, fr1, Post.bind (R1 := RV X.K) shV q1 fun vk M2 Y2 H2 y _ s2 g2 r2 q2 => ?_⟩
    split at q2
    case h_2 => exact False.elim q2
    rename_i r hl
    obtain ⟨a', ov, ea, dg, no, some_⟩ := dLook_at g2 (VRp.step g1 s2 r1) r2 hl
    cases ea
    refine ⟨ov, dg, ?_⟩
    cases r with
    | none =>
      rw [no rfl]
      exact q2 Y2 H2 .non (Step.refl Y2 H2) g2 (show Rp X.K Y2.F H2 .non .none from .non)
    | some v =>
      obtain ⟨z, rfl, rz⟩ := some_ v rfl
      exact q2 Y2 H2 z (Step.refl Y2 H2) g2 (VR0.vr rz)
theorem se_dget2 {apos cpos : Pos} (hu : X.A.units + 1 < cLine) (ho : SE X P o fo) (hk : SE X P e fk) (hx : SE X P e2 fx) (hbase : attributeBase o "get" X.env (eval o X.env) = eval o X.env := by rfl)
    (hfew : ((backTo cpos (starEach [e, e2] X.env)).all (fun x => !x.1) && (backToKw cpos (keywordEach [] X.env)).all (fun x => x.1.isSome) && decide (([e, e2] : List Expr).length + ([] : List Keyword).length + (if ([] : List Keyword).isEmpty then 0 else 1) < 30)) = true := by rfl)
    (hline : (apos.endLine == cpos.line) = true := by rfl) (htr : backTo cpos (starEach [e, e2] X.env) = [(false, eval e X.env), (false, eval e2 X.env)] := by rfl) :
    SE X P (.Call (.Attribute o "get" apos) [e, e2] [] cpos) (eDGet2 fo fk fx) := by
  refine PE.imp (pe_dget2 hu ho hk hx ⟨hbase, hfew, hline, htr⟩) fun σ H Q h => ?_
  obtain ⟨Y, M, st, g0, fr, h⟩ := h
  refine ⟨Y, M, st, g0, fr, Post.bind (R1 := RV X.K) shV h fun vo M1 Y1 H1 x _ s1 g1 r1 q1 => ?_⟩
  have fr1 := fr.step g0 s1
  cases hd : isDct M1 vo with
  | false => rw [hd] at q1; exact False.elim q1
  | true =>
    rw [hd, if_pos rfl] at q1
    obtain ⟨a, rfl, isd⟩ := isDct_at g1 r1 hd
    refine ⟨a, rfl, isd, Y1, M1, st, g1, fr1, Post.bind (R1 := RV X.K) shV q1 fun vk M2 Y2 H2 y _ s2 g2 r2 q2 => ?_⟩
    have fr2 := fr1.step g1 s2
    refine ⟨Y2, M2, st, g2, fr2, Post.bind (R1 := RV X.K) shV q2 fun vx M3 Y3 H3 w _ s3 g3 r3 q3 => ?_⟩
    split at q3
    case h_2 => exact False.elim q3
    rename_i r hl
    by_cases hn : noSlot vx = true
    · rw [if_pos hn] at q3
      obtain ⟨a', ov, ea, dg, no, some_⟩ := dLook_at g3 (VRp.step g2 s3 (VRp.step g1 s2 r1)) (VRp.step g2 s3 r2) hl
      cases ea
      refine ⟨ov, dg, ?_⟩
      cases r with
      | none =>
        rw [no rfl]
        exact q3 Y3 H3 w (Step.refl Y3 H3) g3 r3
      | some v =>
        obtain ⟨z, rfl, rz⟩ := some_ v rfl
        exact q3 Y3 H3 z (Step.refl Y3 H3) g3 (VR0.vr rz)
    · rw [if_neg hn] at q3
      exact False.elim q3
theorem s1_dput {pos' : Pos} (hu : X.A.units + 1 < cLine) (hv : SE X P value fv) (ho : SE X P o fo) (hk : SE X P i fk) (hs : swapsWith value (some (.Subscript o i pos')) pos.line X.env = pure false := by rfl) :
    S1 X P (.Assign [.Subscript o i pos'] value pos) (tmDPut fv fo fk) := by
  refine PS.imp (ps_dput hu ho hk hv hs) fun D σ H h => ?_
  obtain ⟨Y0, H0, bs, Y, M, st, r, h⟩ := h
  have h := rn_x (R := RV X.K) (N := fun _ H1 => D.nx σ H1) r h fun a M' Y' H' x r' s ra h' => h' Y' H' σ r'
  obtain ⟨Y, M, st, g0, fr, h⟩ := h
  refine ⟨Y, M, st, g0, fr, Post.bind (R1 := RV X.K) shV h fun v M1 Y1 H1 z _ s1 g1 r1 q1 => ?_⟩
  have fr1 := fr.step g0 s1
  refine ⟨Y1, M1, st, g1, fr1, Post.bind (R1 := RV X.K) shV q1 fun vo M2 Y2 H2 x _ s2 g2 r2 q2 => ?_⟩
  have fr2 := fr1.step g1 s2
  refine ⟨Y2, M2, st, g2, fr2, Post.bind (R1 := RV X.K) shV q2 fun vk M3 Y3 H3 y _ s3 g3 r3 q3 => ?_⟩
  split at q3
  case h_2 => exact False.elim q3
  rename_i M' hp
  obtain ⟨a, H4, rfl, dp, g4, s4⟩ := dPut_at g3 (VRp.step g2 s3 r2) r3 (VRp.step g2 s3 (VRp.step g1 s2 r1)) hp
  exact ⟨a, H4, rfl, dp, q3 Y3 _ .non s4 g4 (show Rp X.K Y3.F _ .non .none from .non)⟩
/-! ### a display of constant keys -/
def kvN : Ex (List (Key × Val)) := fun _ M => .ok [] M
def kvC (k : Key) (f : Ex Val) (r : Ex (List (Key × Val))) : Ex (List (Key × Val)) := fun st M => (f st M).bind fun v M1 => (r st M1).bind fun l M2 => .ok ((k, v) :: l) M2
def mergeM (kvs more : List (Key × Val)) : List (Key × Val) := more.foldl (fun acc kv => setK acc kv.1 kv.2) kvs
def eDDisp (g : Ex (List (Key × Val))) : Ex Val := fun st M => (g st (M ++ [.dct []])).bind fun kvs M1 => match M1[M.length]? with
  | some (.dct []) => if kvs.all (fun kv => noSlot kv.2) = true ∧ kvs.length ≤ 15 then .ok (.loc M.length) (M1.set M.length (.dct (mergeM [] kvs))) else .err
  | _ => .err
abbrev RKV (K : PySem.W.Frag) : RelT (List (Key × Val)) (List (V × V)) := fun Y _ H st σ ps kvs => Paired (fun p kv => p.1 = kV kv.1 ∧ VRp K Y H st σ p.2 kv.2) ps kvs
def SKV (X : Cx) (P : Pm) (pos : Pos) (keys : List (Option Expr)) (values : List Expr) (g : Ex (List (Key × Val))) : Prop := ∃ trs, PPs X pos keys values trs ∧ ∀ σ H Q, Rn X.K P (RKV X.K) g σ H Q → tPairs trs σ H Q
theorem shKV {K : PySem.W.Frag} : ShiftR K (RKV K) := ⟨fun _ _ h => h⟩
theorem skv_nil : SKV X P pos [] [] kvN := ⟨[], pps_nil, fun σ H Q h => by
  obtain ⟨Y, M, st, g0, fr, h⟩ := h
  exact h Y H [] (Step.refl Y H) g0 .nil⟩
theorem skv_cons {k v : Expr} {ks : List (Option Expr)} {vs : List Expr} {kk : Key} {d : PyData} {g : Ex (List (Key × Val))} (hk : SE X P k (eC d)) (hd : keyD d = some kk) (hv : SE X P v f) (hr : SKV X P pos ks vs g) : SKV X P pos (some k :: ks) (v :: vs) (kvC kk f g) := by
  obtain ⟨trs, h1, h2⟩ := hr
  refine ⟨_, pps_cons hk hv h1, fun σ H Q h => ?_⟩
  obtain ⟨Y, M, st, g0, fr, h⟩ := h
  refine ⟨Y, M, st, g0, fr, ?_⟩
  show ∀ Y' H' x, Step Y H Y' H' → GR X.K Y' M H' → VRp X.K Y' H' st σ x (.dat d) → _
  intro Y1 H1 x s1 g1 r1
  have fr1 := fr.step g0 s1
  refine ⟨Y1, M, st, g1, fr1, Post.bind (R1 := RV X.K) shKV (Post.shift shKV s1 g1 h) fun vv M2 Y2 H2 y _ s2 g2 r2 q2 => ?_⟩
  have fr2 := fr1.step g1 s2
  refine h2 σ H2 _ ⟨Y2, M2, st, g2, fr2, Post.bind (R1 := RKV X.K) shKV q2 fun kvs M3 Y3 H3 ps _ s3 g3 r3 q3 => ?_⟩
  have ex : x = kV kk := keyD_at (vk := .dat d) r1 hd
  exact q3 Y3 H3 ((x, y) :: ps) (Step.refl Y3 H3) g3 (.cons ⟨ex, VRp.step g2 s3 r2⟩ r3)
theorem kv_merge {R : V → Val → Prop} : ∀ {kx : List (Key × V)} {kv : List (Key × Val)} {ax : List (Key × V)} {av : List (Key × Val)}, Paired (KvR R) kx kv → Paired (KvR R) ax av → Paired (KvR R) (mergeK ax kx) (mergeM av kv)
  | _, _, _, _, .nil, a => a
  | p :: _, q :: _, ax, av, .cons h t, a => by
    show Paired (KvR R) (mergeK (putK ax p.1 p.2) _) (mergeM (setK av q.1 q.2) _)
    refine kv_merge t ?_
    rw [h.1]
    exact kv_put h.2 a
theorem se_disp {keys : List (Option Expr)} {values : List Expr} {g : Ex (List (Key × Val))} (h : SKV X P pos keys values g) (hall : keys.all (·.isSome) = true := by rfl) (hl : keys.length = values.length := by rfl) (h0 : keys ≠ [] := by exact List.cons_ne_nil _ _) (h15 : keys.length ≤ 15 := by decide) :
    SE X P (.Dict keys values pos) (eDDisp g) := by
  obtain ⟨trs, h1, h2⟩ := h
  refine PE.imp (pe_disp h1 hall hl h0 h15) fun σ H Q h => ?_
  obtain ⟨Y, M, st, g0, fr, h⟩ := h
  intro p hp
  obtain ⟨g2, s2⟩ := g0.newO (u := .dK []) (o := .dct []) hp (show Paired _ [] [] from .nil)
  refine h2 σ _ _ ⟨_, _, st, g2, fr.step g0 s2, Post.bind (R1 := RKV X.K) shV (Post.shift shV s2 g2 h) fun kvs M3 Y3 H3 ps eo s3 g3 r3 q3 => ?_⟩
  split at q3
  case h_2 => exact False.elim q3
  rename_i hm
  by_cases hc : kvs.all (fun kv => noSlot kv.2) = true ∧ kvs.length ≤ 15
  · rw [if_pos hc] at q3
    have hmp : Y3.m M.length = some p := s3.m _ _ Wd.add_self
    obtain ⟨b, hb, u, hu, ob⟩ := g3.obj _ _ hm
    rw [hmp] at hb
    cases hb
    have e0 : H3 p = some (.dK []) := by
      cases u with
      | dK kx =>
        have ob : Paired (KvR (VR0 X.K Y3 H3)) kx [] := ob
        cases ob
        exact hu
      | _ => exact ob.elim
    obtain ⟨kx, e1, e2, e3⟩ : ∃ kx : List (Key × V), ps = kx.map (fun kv => (kV kv.1, kv.2)) ∧ kx.length = kvs.length ∧ Paired (KvR (VR0 X.K Y3 H3)) kx kvs := by
      have hns : ∀ kv ∈ kvs, noSlot kv.2 = true := fun kv hkv => List.all_eq_true.mp hc.1 kv hkv
      clear hc q3 eo
      induction r3 with
      | nil => exact ⟨[], rfl, rfl, .nil⟩
      | @cons p q ps qs hh t ih =>
        obtain ⟨kx, e1, e2, e3⟩ := ih fun kv hkv => hns kv (List.mem_cons_of_mem _ hkv)
        obtain ⟨x, y⟩ := p
        obtain ⟨h3, h4⟩ := hh
        dsimp only at h3 h4
        subst h3
        exact ⟨(q.1, y) :: kx, by rw [e1]; rfl, by rw [List.length_cons, e2, List.length_cons], .cons ⟨rfl, VRp.v0 h4 (hns q (List.mem_cons_self ..))⟩ e3⟩
    obtain ⟨g4, s4⟩ := g3.wrtO (u := .dK (mergeK [] kx)) (o := .dct (mergeM [] kvs)) hmp (show Paired _ _ _ from kv_merge e3 .nil)
    exact ⟨e0, kx, e1, by rw [e2]; exact hc.2, q3 Y3 _ (.ref p) s4 g4 ⟨p, rfl, hmp⟩⟩
  · rw [if_neg hc] at q3
    exact False.elim q3
end
/-! ### reckoning -/
@[simp] theorem w_dat (fo fk : Ex Val) (st : MSt) (M : MH) : eDAt fo fk st M = (fo st M).bind fun o M1 => (fk st M1).bind fun k M2 => match dLook M2 o k with
  | some (some v) => .ok v M2
  | _ => .err := nofl rfl
@[simp] theorem w_din (fk fo : Ex Val) (st : MSt) (M : MH) : eDIn fk fo st M = (fk st M).bind fun k M1 => (fo st M1).bind fun o M2 => match dLook M2 o k with
  | some r => .ok (.dat (.bool r.isSome)) M2
  | none => .err := nofl rfl
@[simp] theorem w_dnotin (fk fo : Ex Val) (st : MSt) (M : MH) : eDNotIn fk fo st M = (fk st M).bind fun k M1 => (fo st M1).bind fun o M2 => match dLook M2 o k with
  | some r => .ok (.dat (.bool (!r.isSome))) M2
  | none => .err := nofl rfl
@[simp] theorem w_dput (fv fo fk : Ex Val) (st : MSt) (M : MH) : tmDPut fv fo fk st M = ot ((fv st M).bind fun v M1 => (fo st M1).bind fun o M2 => (fk st M2).bind fun k M3 => match dPut M3 o k v with
  | some M' => .ok (Val.dat .none) M'
  | none => .err) st fun _ M' => some (.nx, st, M') := tX_eq _ _ _ _
@[simp] theorem w_dget1 (fo fk : Ex Val) (st : MSt) (M : MH) : eDGet1 fo fk st M = (fo st M).bind fun o M1 => if isDct M1 o = true then (fk st M1).bind fun k M2 => match dLook M2 o k with
  | some r => .ok (r.getD (.dat .none)) M2
  | none => .err else .err := nofl rfl
@[simp] theorem w_dget2 (fo fk fx : Ex Val) (st : MSt) (M : MH) : eDGet2 fo fk fx st M = (fo st M).bind fun o M1 => if isDct M1 o = true then (fk st M1).bind fun k M2 => (fx st M2).bind fun x M3 => match dLook M3 o k with
  | some r => if noSlot x = true then .ok (r.getD x) M3 else .err
  | none => .err else .err := nofl rfl
@[simp] theorem w_kvn (st : MSt) (M : MH) : kvN st M = .ok [] M := nofl rfl
@[simp] theorem w_kvc (k : Key) (f : Ex Val) (r : Ex (List (Key × Val))) (st : MSt) (M : MH) : kvC k f r st M = (f st M).bind fun v M1 => (r st M1).bind fun l M2 => .ok ((k, v) :: l) M2 := nofl rfl
@[simp] theorem w_disp (g : Ex (List (Key × Val))) (st : MSt) (M : MH) : eDDisp g st M = (g st (M ++ [.dct []])).bind fun kvs M1 => match M1[M.length]? with
  | some (.dct []) => if kvs.all (fun kv => noSlot kv.2) = true ∧ kvs.length ≤ 15 then .ok (.loc M.length) (M1.set M.length (.dct (mergeM [] kvs))) else .err
  | _ => .err := nofl rfl
/-! ### o[i], o2[i2] = v, w: both shared lists -/
def lsetO (fo fi : Ex Val) (v : Val) : Ex Val := fun st M1 => (fo st M1).bind fun o M2 => (fi st M2).bind fun i M3 => match locOf M3 o, intOf i with
  | some (n, vs), some k => match ixN vs.length k with
    | some j => if noSlot v = true then .ok (Val.dat .none) (M3.set n (.lst (vs.set j v))) else .err
    | none => .err
  | _, _ => .err
def lset2 (fa : Ex (List Val)) (fo fi fo2 fi2 : Ex Val) : Ex Val := fun st M => (fa st M).bind fun vs M1 => match vs with
  | [v, w] => (lsetO fo fi v st M1).bind fun _ M2 => lsetO fo2 fi2 w st M2
  | _ => .err
def tmLSet2 (fa : Ex (List Val)) (fo fi fo2 fi2 : Ex Val) : Tm := tX (lset2 fa fo fi fo2 fi2) fun _ st M => some (.nx, st, M)
theorem ob_assoc {α β γ : Type} (o : Out α) (f : α → MH → Out β) (g : β → MH → Out γ) : (o.bind f).bind g = o.bind fun a M => (f a M).bind g := by cases o <;> rfl
section
variable {X : Cx} {P : Pm} {pos : Pos}
theorem lset_go {Y : Wd} {M : MH} {H : Hp} {st : MSt} {σ : L2.St} {fo fi : Ex Val} {x : V} {v : Val} {Q : V → Hp → Prop} {N : Hp → Prop} {k : Val → MH → Out Val} (g0 : GR X.K Y M H) (fr : FR X.K Y st H σ) (rv : VRp X.K Y H st σ x v)
    (h : Post X.K P (RV X.K) st σ Y H ((lsetO fo fi v st M).bind k) Q)
    (hN : ∀ Y' H' M', Step Y H Y' H' → GR X.K Y' M' H' → Post X.K P (RV X.K) st σ Y' H' (k (.dat .none) M') Q → N H') :
    gSub (Rn X.K P (RV X.K) fo) (Rn X.K P (RV X.K) fi) rSetL x σ H (fun _ H' => N H') := by
  unfold lsetO at h
  rw [ob_assoc] at h
  refine ⟨Y, M, st, g0, fr, Post.bind (R1 := RV X.K) shV h fun vo M2 Y2 H2 xo _ s2 g2 r2 q2 => ?_⟩
  have fr2 := fr.step g0 s2
  rw [ob_assoc] at q2
  refine ⟨Y2, M2, st, g2, fr2, Post.bind (R1 := RV X.K) shV q2 fun vi M3 Y3 H3 xi _ s3 g3 r3 q3 => ?_⟩
  split at q3
  case h_2 => exact False.elim q3
  rename_i n vs k hl2 hk
  cases intOf_some hk
  cases VRp.int r3
  obtain ⟨a, xs, rfl, hm, hx, pr⟩ := loc_at g3 (VRp.step g2 s3 r2) hl2
  split at q3
  case h_2 => exact False.elim q3
  rename_i j hj
  by_cases hc : noSlot v = true
  · rw [if_pos hc] at q3
    have rv := VRp.v0 (VRp.step g2 s3 (VRp.step g0 s2 rv)) hc
    obtain ⟨g4, s4⟩ := g3.wrt hm (Paired.set' rv pr j)
    exact ⟨a, xs, k, j, rfl, rfl, hx, by rw [Paired.length pr]; exact hj, hN Y3 _ _ ((s2.then g2 s3).then g3 s4) g4 (Post.shift shV s4 g4 q3)⟩
  · rw [if_neg hc] at q3; exact False.elim q3
theorem s1_lset2 {e1 e2 o i o2 i2 : Expr} {sp sp2 : Pos} {k k2 : Nat} {p1 p2 : Pos} {fa : Ex (List Val)} {fo fi fo2 fi2 : Ex Val} (hc : X.calm = true) (ha : SA X P [e1, e2] fa) (ho : SE X P o fo) (hi : SE X P i fi) (ho2 : SE X P o2 fo2) (hi2 : SE X P i2 fi2)
    (hA : ∀ v, assign (.Subscript o i sp) X.env v = (do
      let ov ← holding [v] (eval o X.env)
      let iv ← holding [v, ov] (eval i X.env)
      standAt sp
      holding [v, ov, iv] (setItem ov iv v)
      release [v, ov, iv] []) := by intro _; rfl)
    (hA2 : ∀ v, assign (.Subscript o2 i2 sp2) X.env v = (do
      let ov ← holding [v] (eval o2 X.env)
      let iv ← holding [v, ov] (eval i2 X.env)
      standAt sp2
      holding [v, ov, iv] (setItem ov iv v)
      release [v, ov, iv] []) := by intro _; rfl)
    (hb : (assignEach [.Subscript o i sp, .Subscript o2 i2 sp2] X.env).map (·.2) = assign (.Subscript o i sp) X.env :: (assignEach [.Subscript o2 i2 sp2] X.env).map (·.2) := by rfl)
    (hb2 : (assignEach [.Subscript o2 i2 sp2] X.env).map (·.2) = assign (.Subscript o2 i2 sp2) X.env :: (assignEach [] X.env).map (·.2) := by rfl)
    (hn : (assignEach [.Subscript o i sp, .Subscript o2 i2 sp2] X.env).length = 2 := by rfl) (hst : (assignEach [.Subscript o i sp, .Subscript o2 i2 sp2] X.env).findIdx? (·.1) = none := by rfl)
    (hs : swapsWithSole [.Tuple [.Subscript o i sp, .Subscript o2 i2 sp2] k p1] (.Tuple [e1, e2] k2 p2) pos.line X.env = pure false := by rfl) (hw : swappedStores [.Tuple [.Subscript o i sp, .Subscript o2 i2 sp2] k p1] (.Tuple [e1, e2] k2 p2) X.env = pure none := by rfl)
    (h1 : (assignEach [.Tuple [.Subscript o i sp, .Subscript o2 i2 sp2] k p1] X.env).map (·.2) = [assign (.Tuple [.Subscript o i sp, .Subscript o2 i2 sp2] k p1) X.env] := by rfl) :
    S1 X P (.Assign [.Tuple [.Subscript o i sp, .Subscript o2 i2 sp2] k p1] (.Tuple [e1, e2] k2 p2) pos) (tmLSet2 fa fo fi fo2 fi2) := by
  refine PS.imp (ps_asg (pe_tup ha) (pg_tup (n := 2) hc (pgs_cons (pg_sub ho hi set_list hA) (pgs_cons (pg_sub ho2 hi2 set_list hA2) pgs_nil hb2) hb) hn hst) hs hw h1) fun D σ H h => ?_
  obtain ⟨Y0, H0, bs, Y, M, st, r, h⟩ := h
  have h := rn_x (R := RV X.K) (N := fun _ H1 => D.nx σ H1) r h fun a M' Y' H' x r' s ra h' => h' Y' H' σ r'
  obtain ⟨Y, M, st, g0, fr, h⟩ := h
  refine ⟨Y, M, st, g0, fr, Post.bind (R1 := RA X.K) shV h fun vs M1 Y1 H1 xs _ s1 g1 r1 q1 => ?_⟩
  have fr1 := fr.step g0 s1
  cases r1 with
  | nil => exact False.elim q1
  | cons r1 rr =>
    cases rr with
    | nil => exact False.elim q1
    | cons r2 rr2 =>
      cases rr2 with
      | cons _ _ => exact False.elim q1
      | nil =>
        rename_i y1 x1 y2 x2 he
        refine ⟨by rw [sl_eq]; simp [SL], fun p hp => ⟨p, _, rfl, .inl (.inl upd_same), rfl, ?_⟩⟩
        have sl := Step.laid (Y := Y1) (o := .tup [y1, y2]) hp
        have gl := g1.laid (o := .tup [y1, y2]) hp
        refine ⟨_, _, rfl, lset_go gl (fr1.step g1 sl) (VRp.step g1 sl r1) (Post.shift shV sl gl q1) fun Y' H' M' s' g' q' => ?_⟩
        refine ⟨_, _, rfl, lset_go (k := fun v M => .ok v M) g' ((fr1.step g1 sl).step gl s') (VRp.step gl s' (VRp.step g1 sl r2)) (by
          have e : (fun (v : Val) (M : MH) => Out.ok v M) = fun v M => .ok v M := rfl
          cases ee : lsetO fo2 fi2 _ st M' with
          | ok a m => rw [ee] at q'; exact q'
          | exc a m => rw [ee] at q'; exact q'
          | err => rw [ee] at q'; exact q') fun Y2 H2 M2 s2 g2 q2 => ?_⟩
        exact ⟨rfl, q2 Y2 H2 .non (Step.refl _ _) g2 (show Rp X.K Y2.F _ .non .none from .non)⟩
end
@[simp] theorem w_lset2 (fa : Ex (List Val)) (fo fi fo2 fi2 : Ex Val) (st : MSt) (M : MH) : tmLSet2 fa fo fi fo2 fi2 st M = ot ((fa st M).bind fun vs M1 => match vs with
  | [v, w] => (lsetO fo fi v st M1).bind fun _ M2 => lsetO fo2 fi2 w st M2
  | _ => .err) st fun _ M' => some (.nx, st, M') := tX_eq _ _ _ _
@[simp] theorem w_lsetO (fo fi : Ex Val) (v : Val) (st : MSt) (M1 : MH) : lsetO fo fi v st M1 = (fo st M1).bind fun o M2 => (fi st M2).bind fun i M3 => match locOf M3 o, intOf i with
  | some (n, vs), some k => match ixN vs.length k with
    | some j => if noSlot v = true then .ok (Val.dat .none) (M3.set n (.lst (vs.set j v))) else .err
    | none => .err
  | _, _ => .err := nofl rfl
/-! ### return a if c else b, where a or b may be a list of one's own -/
section
variable {X : Cx} {P : Pm} {pos pos2 : Pos}
def RE (X : Cx) (P : Pm) (e : Expr) (f : Tm) : Prop := ∃ te : TE, PE X e te ∧ ∀ (D : Ends) (σ : L2.St) (H : Hp) (Y0 : Wd) (H0 : Hp) (bs : Bs) (Y : Wd) (M : MH) (st : MSt), SR X.K Y0 H0 bs Y H st M σ → PoS X.K P Y0 H0 bs D (f st M) → te σ H D.rt
theorem re_x {e : Expr} {f : Ex Sl} (he : SX X P e f) : RE X P e (tmRt f) := ⟨_, he, fun D σ H Y0 H0 bs Y M st r h =>
  rn_x (R := RS X.K) r h fun a M' Y' H' x r' s ra h' => h' Y' H' x r'.s0 r'.gr (SlR.r0 r ra)⟩
theorem re_v (i : Nat) {x : Str} {p : Pos} (hN : X.N[i]? = some x := by rfl) (hv : Vis X.env.scope x := by first | exact Or.inl rfl | exact Or.inr (Or.inl rfl) | exact Or.inr (Or.inr rfl)) (hd : (x == ("__debug__" : Str)) = false := by decide)
    (hcd : (x == ("__classdict__" : Str)) = false := by decide) : RE X P (.Name x p) (tmRv i) := ⟨_, pe_var hN hv hd hcd, fun D σ H Y0 H0 bs Y M st r h => by
  unfold tmRv at h
  split at h
  · rename_i s e1
    cases s with
    | v y =>
      obtain ⟨u, h1, h2⟩ := r.fr.val i y e1
      exact ⟨u, h1, h Y H u r.s0 r.gr h2⟩
    | own ds =>
      obtain ⟨a, h1, h2⟩ := r.fr.own i ds e1
      exact ⟨_, h1, h Y H _ r.s0 r.gr ⟨a, rfl, h2, r.yo i ds a e1 h1⟩⟩
  · exact False.elim h⟩
theorem s1_retIf {c a b : Expr} {fc : Ex Bool} {f g : Tm} (hc : ST X P c fc) (ha : RE X P a f) (hb : RE X P b g) : S1 X P (.Return (some (.IfExp c a b pos)) pos2) (tmIf fc f g) := by
  obtain ⟨ta, ha, ea⟩ := ha
  obtain ⟨tb, hb, eb⟩ := hb
  refine PS.imp (ps_ret (pe_ifExp hc ha hb)) fun D σ H h => ?_
  obtain ⟨Y0, H0, bs, Y, M, st, r, h⟩ := h
  refine rn_x (R := RB) (N := fun c H1 => if c = true then ta σ H1 D.rt else tb σ H1 D.rt) r h fun b M' Y' H' x r' s ra h' => ?_
  cases (show x = b from ra)
  cases b with
  | true => exact ea D σ H' _ _ _ _ _ _ r' h'
  | false => exact eb D σ H' _ _ _ _ _ _ r' h'
end
end Mn

set_option Elab.async false
set_option linter.all false
set_option maxRecDepth 100000
set_option maxHeartbeats 4000000
namespace Mn
open PySem PySem.Spec PyProof.Rows L2

/-! ### texts: constants of the module, signs one by one, split, int of a text -/
/-- the signs of a text -/
def sgD (s : Str) : List PyData := s.cps.toList.map fun c => .str ⟨#[c]⟩
def iCh (f : Ex Val) : Ex (List PyData) := fun st M => (f st M).bind fun v M1 => match v with
  | .dat (.str s) => .ok (sgD s) M1
  | _ => .err
def xSplit (fo fe : Ex Val) : Ex Sl := fun st M => (fo st M).bind fun v M1 => match v with
  | .dat (.str a) => (fe st M1).bind fun w M2 => match w with
    | .dat (.str b) => if (b.length == 0) = false ∧ a.length + 2 ≤ SL then .ok (.own ((Txt.split a b).map .str)) M2 else .err
    | _ => .err
  | _ => .err
def gIntS : List PyData → Option PyData
  | [.str a] => if a.length ≤ 640 then (PySem.intText? a).map .int else none
  | _ => none
section
variable {X : Cx} {P : Pm} {e o tg : Expr} {f fo fe : Ex Val} {apos cpos pos : Pos}
theorem se_globS {x z : Str} {t : Tok} (hg : Gl X x) (hm : X.mg x = some (.str z t)) (hd : (x == ("__debug__" : Str)) = false := by decide) : SE X P (.Name x pos) (eC (.str z)) := se_const (v := .str z) (pe_glob hg hm ⟨t, rfl⟩ hd) fun _ _ => .str z
theorem walk_str (s : Str) : Walk (Its s) s.cps.size (fun _ => True) (fun i H x H' => H' = H ∧ ∃ c, s.cps[i]? = some c ∧ x = .str ⟨#[c]⟩) :=
  ⟨fun i H hi _ => hi, fun H _ => Nat.le_refl _, fun i H x H' _ _ y => y⟩
theorem si_str (he : SE X P e f) : SI X P tg e (iCh f) := by
  refine PI.imp (pi_str he) fun σ H Q h => ?_
  obtain ⟨Y, M, st, g0, fr, h⟩ := h
  refine ⟨Y, M, st, g0, fr, Post.bind (R1 := RV X.K) shI h fun va M1 Y1 H1 x _ s1 g1 r1 q1 => ?_⟩
  split at q1
  case h_2 => exact False.elim q1
  rename_i s _
  cases r1
  refine ⟨s, rfl, q1 Y1 H1 _ (Step.refl Y1 H1) g1 ?_⟩
  have hl : (sgD s).length = s.cps.size := by simp [sgD]
  refine ⟨fun _ => True, fun i H x H' => H' = H ∧ ∃ c, s.cps[i]? = some c ∧ x = .str ⟨#[c]⟩, by rw [hl]; exact walk_str s, fun _ _ _ => trivial, ?_⟩
  rintro Y2 M2 H2 i x H3 d wk g hi ⟨rfl, c, hc, rfl⟩ hd
  refine ⟨Step.refl _ _, g, ?_⟩
  have : (sgD s)[i]? = some (.str ⟨#[c]⟩) := by
    rw [sgD, List.getElem?_map, Array.getElem?_toList, hc]
    rfl
  rw [this] at hd
  cases hd
  exact .str _
theorem split_rp {K : PySem.W.Frag} {F : Addr → Prop} {H : Hp} : ∀ ys : List Str, RpA K F H (ys.map V.str) (ys.map PyData.str)
  | [] => .nil
  | y :: ys => .cons (.str y) (split_rp ys)
theorem sx_split (ho : SE X P o fo) (ha : SE X P e fe) (hs : starEach [e] X.env = (false, eval e X.env) :: starEach [] X.env := by rfl) (hbase : attributeBase o "split" X.env (eval o X.env) = eval o X.env := by rfl)
    (hfew : ((backTo cpos (starEach [e] X.env)).all (fun x => !x.1) && (backToKw cpos (keywordEach [] X.env)).all (fun x => x.1.isSome) && decide ([e].length + ([] : List Keyword).length + (if ([] : List Keyword).isEmpty then 0 else 1) < 30)) = true := by rfl)
    (hline : (apos.endLine == cpos.line) = true := by rfl) (hplain : (backTo cpos (starEach [] X.env)).any (·.1) = false := by rfl) : SX X P (.Call (.Attribute o "split" apos) [e] [] cpos) (xSplit fo fe) := by
  refine PE.imp (pe_bm PySem.F.plainAttrs_str PySem.F.slot_str_split PySem.F.type_str_split mt_split ho (pa_cons ha pa_nil hs) hbase hfew hline hs hplain) fun σ H Q h => ?_
  obtain ⟨Y, M, st, g0, fr, h⟩ := h
  refine ⟨Y, M, st, g0, fr, Post.bind (R1 := RV X.K) shS h fun va M1 Y1 H1 x _ s1 g1 r1 q1 => ?_⟩
  split at q1
  case h_2 => exact False.elim q1
  rename_i a _
  cases r1
  refine ⟨rfl, Y1, M1, st, g1, fr.step g0 s1, Post.bind (R1 := RV X.K) shS q1 fun vb M2 Y2 H2 y _ s2 g2 r2 q2 => ?_⟩
  split at q2
  case h_2 => exact False.elim q2
  rename_i b _
  cases r2
  by_cases hc : (b.length == 0) = false ∧ a.length + 2 ≤ SL
  · rw [if_pos hc] at q2
    refine ⟨a, b, rfl, rfl, hc.1, by rw [sl_eq]; exact hc.2, fun p hp => ?_⟩
    exact q2 Y2 _ _ (Step.laid hp) (g2.laid hp) ⟨p, rfl, Ow.new g2 hp (split_rp _), hp⟩
  · rw [if_neg hc] at q2
    exact False.elim q2
theorem ty_intS : TyR X "int" gIntS := by
  refine ⟨_, call_int_str, ?_⟩
  intro Y M H xs ds d Q g0 h e q
  match ds, e with
  | [.str a], e =>
    obtain ⟨x, rfl, dx⟩ := one h rfl
    have e : (if a.length ≤ 640 then (PySem.intText? a).map PyData.int else none) = some d := e
    by_cases hl : a.length ≤ 640
    · rw [if_pos hl] at e
      obtain ⟨n, hn, rfl⟩ := Option.map_eq_some_iff.mp e
      exact ⟨a, n, by rw [dx.str], hn, hl, q Y H _ (Step.refl Y H) g0 (.int _)⟩
    · rw [if_neg hl] at e
      cases e
end
/-! ### a tuple, an empty one too, times a small number; <= of rows -/
@[simp] def dMulE : PyData → PyData → Option Sl
  | .tuple [], .int k => if 1 ≤ k ∧ k ≤ 1000 then some (.v (.dat (.tuple []))) else none
  | a, b => dMul a b
theorem tuple_mul0 (l : Addr) (items : Array Value) (n : Nat) (dd : Option Addr) (sl : Array (Option Value)) (k : Int) (u : Tok) (c0 : (decide (k < -(2 ^ 63)) || decide (k ≥ 2 ^ 63)) = false) (c1 : (items.isEmpty || k == 1) = true) :
    Meets (Builtin.«tuple.__mul__» ⟨[.ref l, .int k u], []⟩) (fun _ R s => s.heap.get? l = some { cls := .type "tuple", dict := dd, data := .seq items n, slots := sl } ∧ R (.ok (.ret (Value.ref l))) s) :=
  .of_wp fun prog w A R s h => by
    obtain ⟨hp, g, d, tk, os⟩ := s
    obtain ⟨hl, h⟩ := h
    have f1 := AutoSeq1.idx_int
    wp_walk using wpAny_loadPart' hl
    repeat (first
      | (refine wpAny_ite_false (decide_eq_false (by rw [c0]; exact Bool.false_ne_true)) ?_; wp_walk using wpAny_loadPart' hl)
      | (refine wpAny_ite_true (decide_eq_true c1) ?_; wp_walk using wpAny_loadPart' hl))
    exact ⟨_, rfl, h⟩
def rRepE (K : PySem.W.Frag) : R2 := fun x y H Q => ∃ l k, x = .ref l ∧ y = .int k ∧ SqT K H l [] ∧ 1 ≤ k ∧ k ≤ 1000 ∧ Q x H
theorem op_repE {X : Cx} : OpR X (binaryOp .Mult) (rRepE X.K) := by
  rintro pins s σ H x y v u Q I rx ry ⟨l, k, rfl, rfl, hT, k1, k2, q⟩
  cases rx
  obtain ⟨t, rfl⟩ := ry
  obtain ⟨its, r, ⟨⟨cls, dd, data, sl⟩, ho, hc, n, hd⟩, hs⟩ := I.tuple hT
  simp only at hc hd
  subst hc hd
  cases r
  exact wpAny_binaryOp_repeat_ref (T := "tuple") (U := "int") (by decide) ⟨_, ho, rfl⟩ (fun s' => typeIs_int s' k t) noFill_tuple_mul F.fills_int_mul F.slot_int_rmul repeat_tuple F.slot_int_index.lookup
    (call_meets F.slot_int_rmul (typeIs_int s k t) F.entry_int_rmul (F.args_int_rmul_2 _ _) (int_rmul_tuple k t l [].toArray n dd sl)
      ⟨ho, rfl, ⟨_, ho, rfl⟩, call_meets F.slot_tuple_mul ⟨_, ho, rfl⟩ F.entry_tuple_mul (F.args_tuple_mul_2 _ _) (tuple_mul0 l [].toArray n dd sl k t (by rw [decide_eq_false (by omega), decide_eq_false (by omega)] <;> rfl) rfl) ⟨ho, ⟨.ref l, H, I, rfl, q⟩⟩⟩)
theorem p_mulE {K : PySem.W.Frag} : Prim2S K (fun x y H Q => rRepE K x y H Q ∨ rMulAll K x y H Q) dMulE := by
  intro Y M H x y da db s Q g0 dx dy e q
  by_cases hc : da = .tuple [] ∧ ∃ k, db = .int k
  · obtain ⟨rfl, k, rfl⟩ := hc
    have e : (if 1 ≤ k ∧ k ≤ 1000 then some (Sl.v (.dat (.tuple []))) else none) = some s := e
    by_cases hk : 1 ≤ k ∧ k ≤ 1000
    · rw [if_pos hk] at e
      cases e
      obtain ⟨p1, xs, rfl, tt1, r1⟩ := dx.dr.tupT
      cases r1
      exact .inl ⟨p1, k, rfl, dy.dr.int, .inl (.inl tt1), hk.1, hk.2, q Y H _ (Step.refl Y H) g0 (show Rp K Y.F H _ _ from .tup tt1 .nil)⟩
    · rw [if_neg hk] at e
      cases e
  · have e : dMul da db = some s := by
      rw [← e]
      cases da with
      | tuple a =>
        cases a with
        | nil =>
          cases db with
          | int k => exact absurd ⟨rfl, k, rfl⟩ hc
          | _ => rfl
        | cons _ _ => cases db <;> rfl
      | _ => cases db <;> rfl
    exact .inr (p_mul g0 dx dy e q)
theorem sx_mulE {X : Cx} {P : Pm} {a b : Expr} {f1 f2 : Ex Val} {pos : Pos} (ha : SE X P a f1) (hb : SE X P b f2) : SX X P (.BinOp a .Mult b pos) (xOp2 dMulE f1 f2) := sx_op (OpR.or op_repE op_mulAll) p_mulE ha hb
def leX (ns ms : List Int) : Bool := Ob.lexAt (fun j => decide (ns.getD j 0 = ms.getD j 0)) (fun j => decide (ns.getD j 0 ≤ ms.getD j 0)) (decide (ns.length ≤ ms.length)) 0 (min ns.length ms.length)
def dLeT : PyData → PyData → Option PyData
  | .tuple a, .tuple b => (intsOf a).bind fun ns => (intsOf b).map fun ms => .bool (leX ns ms)
  | _, _ => none
theorem p_leT {K : PySem.W.Frag} : Prim2 K (rLeT K) dLeT := by
  intro Y M H x y da db d Q g0 dx dy e q
  cases da with
  | tuple a =>
    cases db with
    | tuple b =>
      obtain ⟨ns, e1, e⟩ := Option.bind_eq_some_iff.mp (show (intsOf a).bind (fun ns => (intsOf b).map fun ms => PyData.bool (leX ns ms)) = some d from e)
      obtain ⟨ms, e2, rfl⟩ := Option.map_eq_some_iff.mp e
      obtain ⟨p1, xs, rfl, t1, r1⟩ := dx.tup
      obtain ⟨p2, ys, rfl, t2, r2⟩ := dy.tup
      rw [intsOf_some e1] at r1
      rw [intsOf_some e2] at r2
      rw [RpA.int_inv r1] at t1
      rw [RpA.int_inv r2] at t2
      exact ⟨p1, p2, ns, ms, rfl, rfl, t1, t2, q Y H _ (Step.refl Y H) g0 (.bl _)⟩
    | _ => cases e
  | _ => cases e
theorem cr_leT {X : Cx} {k : Nat} (hr : Room k X.A) : CmpR X .LtE dLeT := ⟨_, op_leT (by have := hr.units; omega), p_leT⟩
@[simp] theorem dLeT_rows (ns ms : List PyData) : dLeT (.tuple ns) (.tuple ms) = (intsOf ns).bind fun ns => (intsOf ms).map fun ms => .bool (leX ns ms) := nofl rfl
@[simp] theorem w_ich (f : Ex Val) (st : MSt) (M : MH) : iCh f st M = (f st M).bind fun v M1 => match v with
  | .dat (.str s) => .ok (sgD s) M1
  | _ => .err := nofl rfl
@[simp] theorem w_split (fo fe : Ex Val) (st : MSt) (M : MH) : xSplit fo fe st M = (fo st M).bind fun v M1 => match v with
  | .dat (.str a) => (fe st M1).bind fun w M2 => match w with
    | .dat (.str b) => if (b.length == 0) = false ∧ a.length + 2 ≤ SL then .ok (.own ((Txt.split a b).map .str)) M2 else .err
    | _ => .err
  | _ => .err := nofl rfl
end Mn

set_option Elab.async false
set_option linter.all false
set_option maxRecDepth 100000
set_option maxHeartbeats 20000000
namespace K06
open PySem PySem.Spec PyProof.Rows L2 Mn

def top (i : Nat) : Stmt := PySem.Challenge.pw_truerows_k06_whole_lines_read_back.main.body.getD i (.Pass ⟨0, 0, 0, 0⟩)

abbrev RD : Nat := 12

/-! _law_own_bag -/
abbrev s__law_own_bag : Stmt := top 23

abbrev N__law_own_bag : List Str := ["script", "cells", "cell", "mixed"]
abbrev p__law_own_bag : List Str := ["script"]

def tm__law_own_bag : Mn.Tm :=
  (tmSeq (tmAs (xLcA FU [2] (eF (xSl (eVar 0) oNone (oSome (eC (.int 63))))) (tgN 2) cYes (eFn gAbs (aCons (eFn gInt (aCons (eVar 2) aNil)) aNil))) (tgN 1))
  (tmSeq (tmAs (xOp2 dAdd (eC (.int 2468)) (eFn gLen (aCons (eVar 1) aNil))) (tgN 3))
  (tmSeq (tmFrz 1 (tmForA FU (eVar 1) (tgN 2) (tmAs (xV (eOp2 dMod (eFn gInt (aCons (eF (xOp2 dAdd (eF (xOp2 dAdd (eF (xOp2 dMul (eVar 3) (eC (.int 48271)))) (eOp2 dMod (eFn gInt (aCons (eVar 2) aNil)) (eC (.int 2147483629))))) (eC (.int 7)))) aNil)) (eC (.int 2147483647)))) (tgN 3))))
  (tmRt (xV (eLstL (aCons (eLoc (xFn gRevL0 (aCons (eVar 1) aNil))) (aCons (eC (.int 0)) (aCons (eVar 3) aNil)))))))))

def fn__law_own_bag : List Val → MH → Out Sl := fnM 1 4 tm__law_own_bag

theorem ar__law_own_bag : ArityN 1 fn__law_own_bag := fnM_arity

theorem go__law_own_bag {a0 : Val} {M : MH} {Q : Sl → MH → Prop} (h : Rs (tm__law_own_bag [some (.v a0), none, none, none] M) Q) : Ok (fn__law_own_bag [a0] M) Q := Ok_fn (np := 1) (ns := 4) (f := tm__law_own_bag) (vs := [a0]) rfl h

theorem sc__law_own_bag : FnScope N__law_own_bag p__law_own_bag (defScope s__law_own_bag) := ⟨rfl, rfl, rfl, by decide +kernel, rfl, by decide +kernel, by decide +kernel⟩

theorem ok__law_own_bag {P : Program} {w : World} {K : PySem.W.Frag} {mg : Str → Option Value} {base : Heap} {f : Addr} {fd : FuncData} (F : FunD K "_law_own_bag" "_law_own_bag" (defArgs s__law_own_bag) (defBody s__law_own_bag) (defScope s__law_own_bag) [] [] f fd) (hm : mg "_law_own_bag" = some (.ref f)) (g_int : mg "int" = none) (g_abs : mg "abs" = none) (g_len : mg "len" = none) (g_reversed : mg "reversed" = none) (g_list : mg "list" = none) : Cal P w K mg base 1 "_law_own_bag" p__law_own_bag fn__law_own_bag := by
  refine cal_of F hm sc__law_own_bag (FunD.bindsN F fun _ _ _ _ _ _ us hl => match us, hl with | [_], _ => rfl) (kbo_of F fun _ _ _ _ _ _ us hl => match us, hl with | [_], _ => rfl) fun cdv B out s H E hg hr => ?_
  have nd := (sc__law_own_bag).nd
  unfold tm__law_own_bag
  exact (ss_cons (by first | exact (s1_set 1 nd (sx_lcA FU (own := [("cell", 2)]) rfl nd (se_sx (sx_sl (se_var 0) so_none (so_some se_int))) (blkOk_by (N := N__law_own_bag) (sc := (defScope s__law_own_bag)) (by decide +kernel)) (fun _ _ _ _ _ => (sg_name 2 nd)) (fun _ _ _ _ _ => sc_nil) (fun _ _ _ _ _ => (se_bi bi_abs rfl g_abs boot_abs (sa_cons (se_ty ty_int rfl g_int boot_int (sa_cons (se_var 2) sa_nil)) sa_nil))))) | exact (s1_setLcA FU 1 (own := [("cell", 2)]) rfl nd (se_sx (sx_sl (se_var 0) so_none (so_some se_int))) (blkOk_by (N := N__law_own_bag) (sc := (defScope s__law_own_bag)) (by decide +kernel)) (fun _ _ _ _ _ => (sg_name 2 nd)) (fun _ _ _ _ _ => sc_nil) (fun _ _ _ _ _ => (se_bi bi_abs rfl g_abs boot_abs (sa_cons (se_ty ty_int rfl g_int boot_int (sa_cons (se_var 2) sa_nil)) sa_nil))) (sw_true rfl rfl rfl (by decide +kernel))))
    (ss_cons (s1_set 3 nd (sx_add se_int (se_bi bi_len rfl g_len boot_len (sa_cons (se_var 1) sa_nil))))
    (ss_cons (s1_frz 1 (s1_forA FU PassesOwn.never rfl (se_var 1) (sg_name 2 nd) (ss_one (s1_set 3 nd (sx_se (se_mod (se_ty ty_int rfl g_int boot_int (sa_cons (se_sx (sx_add (se_sx (sx_add (se_sx (sx_mul (se_var 3) se_int)) (se_mod (se_ty ty_int rfl g_int boot_int (sa_cons (se_var 2) sa_nil)) se_int))) se_int)) sa_nil)) se_int))))))
    (ss_one (s1_ret (sx_se (se_lstL (sa_cons (se_loc (sx_listRev rfl rfl g_list rfl g_reversed (se_var 1))) (sa_cons se_int (sa_cons (se_var 3) sa_nil))))))))))

/-! _law_draw -/
abbrev s__law_draw : Stmt := top 24

abbrev N__law_draw : List Str := ["bag", "below", "cell", "found"]
abbrev p__law_draw : List Str := ["bag", "below"]

def tm__law_draw : Mn.Tm :=
  (tmSeq (whGo (bAnd (toB (eOp2 dEq (eIx (eVar 0) (eC (.int 1))) (eC (.int 0)))) (toB (eOp2 dNe (eIx (eVar 0) (eC (.int 0))) (eF (xLst aNil))))) (tmSeq (tmAs (xV (eLPop (eIx (eVar 0) (eC (.int 0))))) (tgN 2))
  (tmLSet (eIf (toB (eOp2 dGt (eVar 2) (eOp2 dPow (eC (.int 10)) (eC (.int 9))))) (eVar 2) (eC (.int 0))) (eVar 0) (eC (.int 1)))) FU)
  (tmSeq (tmIf (toB (eOp2 dGt (eIx (eVar 0) (eC (.int 1))) (eC (.int 0)))) (tmSeq (tmAs (xV (eOp2 dMod (eFn gInt (aCons (eIx (eVar 0) (eC (.int 1))) aNil)) (eVar 1))) (tgN 3))
  (tmSeq (tmLSet (eOp2 dDiv (eIx (eVar 0) (eC (.int 1))) (eVar 1)) (eVar 0) (eC (.int 1)))
  (tmRv 3))) tmNil)
  (tmSeq (tmLSet (eOp2 dMod (eFn gInt (aCons (eF (xOp2 dAdd (eF (xOp2 dMul (eIx (eVar 0) (eC (.int 2))) (eC (.int 48271)))) (eC (.int 11)))) aNil)) (eC (.int 2147483647))) (eVar 0) (eC (.int 2)))
  (tmRt (xV (eOp2 dMod (eFn gInt (aCons (eOp2 dDiv (eOp2 dMod (eFn gInt (aCons (eF (xOp2 dMul (eIx (eVar 0) (eC (.int 2))) (eIx (eVar 0) (eC (.int 2))))) aNil)) (eC (.int 2147483629))) (eC (.int 7))) aNil)) (eVar 1)))))))

def fn__law_draw : List Val → MH → Out Sl := fnM 2 4 tm__law_draw

theorem ar__law_draw : ArityN 2 fn__law_draw := fnM_arity

theorem go__law_draw {a0 a1 : Val} {M : MH} {Q : Sl → MH → Prop} (h : Rs (tm__law_draw [some (.v a0), some (.v a1), none, none] M) Q) : Ok (fn__law_draw [a0, a1] M) Q := Ok_fn (np := 2) (ns := 4) (f := tm__law_draw) (vs := [a0, a1]) rfl h

theorem sc__law_draw : FnScope N__law_draw p__law_draw (defScope s__law_draw) := ⟨rfl, rfl, rfl, by decide +kernel, rfl, by decide +kernel, by decide +kernel⟩

theorem ok__law_draw {P : Program} {w : World} {K : PySem.W.Frag} {mg : Str → Option Value} {base : Heap} {f : Addr} {fd : FuncData} (F : FunD K "_law_draw" "_law_draw" (defArgs s__law_draw) (defBody s__law_draw) (defScope s__law_draw) [] [] f fd) (hm : mg "_law_draw" = some (.ref f)) (g_int : mg "int" = none) : Cal P w K mg base 1 "_law_draw" p__law_draw fn__law_draw := by
  refine cal_of F hm sc__law_draw (FunD.bindsN F fun _ _ _ _ _ _ us hl => match us, hl with | [_, _], _ => rfl) (kbo_of F fun _ _ _ _ _ _ us hl => match us, hl with | [_, _], _ => rfl) fun cdv B out s H E hg hr => ?_
  have nd := (sc__law_draw).nd
  unfold tm__law_draw
  exact (ss_cons (s1_while FU PassesOwn.never (st_sw (sw_and (st_c (cr_eq hr) (se_ix (se_var 0) se_int) se_int) (sw_and1 (st_c (cr_ne hr) (se_ix (se_var 0) se_int) (se_sx (sx_lst sa_nil)))))) (ss_cons (s1_set 2 nd (sx_se (se_lpop (se_ix (se_var 0) se_int))))
    (ss_one (s1_lset (se_if (st_c cr_gt (se_var 2) (se_pow se_int se_int)) (se_var 2) se_int) (se_var 0) se_int))))
    (ss_cons (s1_if (st_c cr_gt (se_ix (se_var 0) se_int) se_int) (ss_cons (s1_set 3 nd (sx_se (se_mod (se_ty ty_int rfl g_int boot_int (sa_cons (se_ix (se_var 0) se_int) sa_nil)) (se_var 1))))
    (ss_cons (s1_lset (se_div (se_ix (se_var 0) se_int) (se_var 1)) (se_var 0) se_int)
    (ss_one (s1_retV 3)))) ss_nil)
    (ss_cons (s1_lset (se_mod (se_ty ty_int rfl g_int boot_int (sa_cons (se_sx (sx_add (se_sx (sx_mul (se_ix (se_var 0) se_int) se_int)) se_int)) sa_nil)) se_int) (se_var 0) se_int)
    (ss_one (s1_ret (sx_se (se_mod (se_ty ty_int rfl g_int boot_int (sa_cons (se_div (se_mod (se_ty ty_int rfl g_int boot_int (sa_cons (se_sx (sx_mul (se_ix (se_var 0) se_int) (se_ix (se_var 0) se_int))) sa_nil)) se_int) se_int) sa_nil)) (se_var 1))))))))

/-! _law_pick -/
abbrev s__law_pick : Stmt := top 25

abbrev N__law_pick : List Str := ["bag", "some"]
abbrev p__law_pick : List Str := ["bag", "some"]

def tm__law_pick : Mn.Tm :=
  (tmRt (xV (eIx (eVar 1) (eF (xCall fn__law_draw (aCons (eVar 0) (aCons (eFn gLen (aCons (eVar 1) aNil)) aNil)))))))

def fn__law_pick : List Val → MH → Out Sl := fnM 2 2 tm__law_pick

theorem ar__law_pick : ArityN 2 fn__law_pick := fnM_arity

theorem go__law_pick {a0 a1 : Val} {M : MH} {Q : Sl → MH → Prop} (h : Rs (tm__law_pick [some (.v a0), some (.v a1)] M) Q) : Ok (fn__law_pick [a0, a1] M) Q := Ok_fn (np := 2) (ns := 2) (f := tm__law_pick) (vs := [a0, a1]) rfl h

theorem sc__law_pick : FnScope N__law_pick p__law_pick (defScope s__law_pick) := ⟨rfl, rfl, rfl, by decide +kernel, rfl, by decide +kernel, by decide +kernel⟩

theorem ok__law_pick {P : Program} {w : World} {K : PySem.W.Frag} {mg : Str → Option Value} {base : Heap} {f : Addr} {fd : FuncData} (F : FunD K "_law_pick" "_law_pick" (defArgs s__law_pick) (defBody s__law_pick) (defScope s__law_pick) [] [] f fd) (hm : mg "_law_pick" = some (.ref f)) (c__law_draw : Cal P w K mg base 1 "_law_draw" p__law_draw fn__law_draw) (g_len : mg "len" = none) : Cal P w K mg base 2 "_law_pick" p__law_pick fn__law_pick := by
  refine cal_of F hm sc__law_pick (FunD.bindsN F fun _ _ _ _ _ _ us hl => match us, hl with | [_, _], _ => rfl) (kbo_of F fun _ _ _ _ _ _ us hl => match us, hl with | [_, _], _ => rfl) fun cdv B out s H E hg hr => ?_
  have nd := (sc__law_pick).nd
  unfold tm__law_pick
  exact (ss_one (s1_ret (sx_se (se_ix (se_var 1) (se_sx (sx_fn c__law_draw hg hr (by first | decide | omega) rfl ar__law_draw (sa_cons (se_var 0) (sa_cons (se_bi bi_len rfl g_len boot_len (sa_cons (se_var 1) sa_nil)) sa_nil))))))))

/-! _law_sizes -/
abbrev s__law_sizes : Stmt := top 35

abbrev N__law_sizes : List Str := ["bag", "kinds", "many"]
abbrev p__law_sizes : List Str := ["bag"]

def tm__law_sizes : Mn.Tm :=
  (tmSeq (tmIf (toB (eOp2 dEq (eF (xCall fn__law_draw (aCons (eVar 0) (aCons (eC (.int 10)) aNil)))) (eC (.int 0)))) (tmRt (xV (eTup (aCons (eF (xOp2 dAdd (eC (.int 2)) (eF (xCall fn__law_draw (aCons (eVar 0) (aCons (eC (.int 2)) aNil)))))) (aCons (eC (.int 6)) (aCons (eC (.int 32)) aNil)))))) tmNil)
  (tmSeq (tmPs (xCons (xOp2 dAdd (eC (.int 2)) (eF (xCall fn__law_draw (aCons (eVar 0) (aCons (eC (.int 2)) aNil))))) (xCons (xCall fn__law_pick (aCons (eVar 0) (aCons (eF (xLst (aCons (eC (.int 1)) (aCons (eC (.int 2)) (aCons (eC (.int 2)) (aCons (eC (.int 3)) (aCons (eC (.int 3)) (aCons (eC (.int 3)) (aCons (eC (.int 4)) (aCons (eC (.int 4)) (aCons (eC (.int 5)) (aCons (eC (.int 6)) aNil)))))))))))) aNil))) xNil)) (tgsCons (tgN 1) (tgsCons (tgN 2) tgsNil)))
  (tmFrz 2 (tmFrz 1 (tmRt (xV (eTup (aCons (eVar 1) (aCons (eVar 2) (aCons (eF (xCall fn__law_pick (aCons (eVar 0) (aCons (eF (xLst (aCons (eC (.int 1)) (aCons (eC (.int 2)) (aCons (eC (.int 3)) (aCons (eC (.int 4)) (aCons (eC (.int 5)) (aCons (eC (.int 6)) (aCons (eC (.int 7)) (aCons (eC (.int 8)) (aCons (eC (.int 8)) (aCons (eC (.int 12)) aNil)))))))))))) aNil)))) aNil))))))))))

def fn__law_sizes : List Val → MH → Out Sl := fnM 1 3 tm__law_sizes

theorem ar__law_sizes : ArityN 1 fn__law_sizes := fnM_arity

theorem go__law_sizes {a0 : Val} {M : MH} {Q : Sl → MH → Prop} (h : Rs (tm__law_sizes [some (.v a0), none, none] M) Q) : Ok (fn__law_sizes [a0] M) Q := Ok_fn (np := 1) (ns := 3) (f := tm__law_sizes) (vs := [a0]) rfl h

theorem sc__law_sizes : FnScope N__law_sizes p__law_sizes (defScope s__law_sizes) := ⟨rfl, rfl, rfl, by decide +kernel, rfl, by decide +kernel, by decide +kernel⟩

theorem ok__law_sizes {P : Program} {w : World} {K : PySem.W.Frag} {mg : Str → Option Value} {base : Heap} {f : Addr} {fd : FuncData} (F : FunD K "_law_sizes" "_law_sizes" (defArgs s__law_sizes) (defBody s__law_sizes) (defScope s__law_sizes) [] [] f fd) (hm : mg "_law_sizes" = some (.ref f)) (c__law_draw : Cal P w K mg base 1 "_law_draw" p__law_draw fn__law_draw) (c__law_pick : Cal P w K mg base 2 "_law_pick" p__law_pick fn__law_pick) : Cal P w K mg base 3 "_law_sizes" p__law_sizes fn__law_sizes := by
  refine cal_of F hm sc__law_sizes (FunD.bindsN F fun _ _ _ _ _ _ us hl => match us, hl with | [_], _ => rfl) (kbo_of F fun _ _ _ _ _ _ us hl => match us, hl with | [_], _ => rfl) fun cdv B out s H E hg hr => ?_
  have nd := (sc__law_sizes).nd
  unfold tm__law_sizes
  exact (ss_cons (s1_if (st_c (cr_eq hr) (se_sx (sx_fn c__law_draw hg hr (by first | decide | omega) rfl ar__law_draw (sa_cons (se_var 0) (sa_cons se_int sa_nil)))) se_int) (ss_one (s1_ret (sx_se (se_tup (sa_cons (se_sx (sx_add se_int (se_sx (sx_fn c__law_draw hg hr (by first | decide | omega) rfl ar__law_draw (sa_cons (se_var 0) (sa_cons se_int sa_nil)))))) (sa_cons se_int (sa_cons se_int sa_nil))))))) ss_nil)
    (ss_cons (by first | exact (s1_par 1 2 rfl nd (sl_cons (sx_add se_int (se_sx (sx_fn c__law_draw hg hr (by first | decide | omega) rfl ar__law_draw (sa_cons (se_var 0) (sa_cons se_int sa_nil))))) (sl_cons (sx_fn c__law_pick hg hr (by first | decide | omega) rfl ar__law_pick (sa_cons (se_var 0) (sa_cons (se_sx (sx_lst (sa_cons se_int (sa_cons se_int (sa_cons se_int (sa_cons se_int (sa_cons se_int (sa_cons se_int (sa_cons se_int (sa_cons se_int (sa_cons se_int (sa_cons se_int sa_nil)))))))))))) sa_nil))) sl_nil)) rfl) | exact (s1_tt rfl (sl_cons (sx_add se_int (se_sx (sx_fn c__law_draw hg hr (by first | decide | omega) rfl ar__law_draw (sa_cons (se_var 0) (sa_cons se_int sa_nil))))) (sl_cons (sx_fn c__law_pick hg hr (by first | decide | omega) rfl ar__law_pick (sa_cons (se_var 0) (sa_cons (se_sx (sx_lst (sa_cons se_int (sa_cons se_int (sa_cons se_int (sa_cons se_int (sa_cons se_int (sa_cons se_int (sa_cons se_int (sa_cons se_int (sa_cons se_int (sa_cons se_int sa_nil)))))))))))) sa_nil))) sl_nil)) (sgs_cons (sg_name 1 nd) (sgs_cons (sg_name 2 nd) sgs_nil)) (tgsCons_len (tgsCons_len tgsNil_len))))
    (ss_one (s1_frz 2 (s1_frz 1 (s1_ret (sx_se (se_tup (sa_cons (se_var 1) (sa_cons (se_var 2) (sa_cons (se_sx (sx_fn c__law_pick hg hr (by first | decide | omega) rfl ar__law_pick (sa_cons (se_var 0) (sa_cons (se_sx (sx_lst (sa_cons se_int (sa_cons se_int (sa_cons se_int (sa_cons se_int (sa_cons se_int (sa_cons se_int (sa_cons se_int (sa_cons se_int (sa_cons se_int (sa_cons se_int sa_nil)))))))))))) sa_nil)))) sa_nil)))))))))))

/-! _law_numbers -/
abbrev s__law_numbers : Stmt := top 38

abbrev N__law_numbers : List Str := ["shelf", "found", "row", "code", "label"]
abbrev p__law_numbers : List Str := ["shelf"]

def tm__law_numbers : Mn.Tm :=
  (tmSeq (tmAs (xLst aNil) (tgN 1))
  (tmSeq (tmForA FU (eIx (eVar 0) (eC (.int 1))) (tgN 2) (tmSeq (tmAs (xV (eC (.int 0))) (tgN 3))
  (tmSeq (tmForA FU (eVar 2) (tgN 4) (tmAs (xOp2 dAdd (eF (xOp2 dMul (eVar 3) (eIx (eVar 0) (eC (.int 0))))) (eVar 4)) (tgN 3)))
  (tmApp 1 (eVar 3)))))
  (tmRv 1)))

def fn__law_numbers : List Val → MH → Out Sl := fnM 1 5 tm__law_numbers

theorem ar__law_numbers : ArityN 1 fn__law_numbers := fnM_arity

theorem go__law_numbers {a0 : Val} {M : MH} {Q : Sl → MH → Prop} (h : Rs (tm__law_numbers [some (.v a0), none, none, none, none] M) Q) : Ok (fn__law_numbers [a0] M) Q := Ok_fn (np := 1) (ns := 5) (f := tm__law_numbers) (vs := [a0]) rfl h

theorem sc__law_numbers : FnScope N__law_numbers p__law_numbers (defScope s__law_numbers) := ⟨rfl, rfl, rfl, by decide +kernel, rfl, by decide +kernel, by decide +kernel⟩

theorem ok__law_numbers {P : Program} {w : World} {K : PySem.W.Frag} {mg : Str → Option Value} {base : Heap} {f : Addr} {fd : FuncData} (F : FunD K "_law_numbers" "_law_numbers" (defArgs s__law_numbers) (defBody s__law_numbers) (defScope s__law_numbers) [] [] f fd) (hm : mg "_law_numbers" = some (.ref f)) : Cal P w K mg base 1 "_law_numbers" p__law_numbers fn__law_numbers := by
  refine cal_of F hm sc__law_numbers (FunD.bindsN F fun _ _ _ _ _ _ us hl => match us, hl with | [_], _ => rfl) (kbo_of F fun _ _ _ _ _ _ us hl => match us, hl with | [_], _ => rfl) fun cdv B out s H E hg hr => ?_
  have nd := (sc__law_numbers).nd
  unfold tm__law_numbers
  exact (ss_cons (s1_set 1 nd (sx_lst sa_nil))
    (ss_cons (s1_forA FU PassesOwn.never rfl (se_ix (se_var 0) se_int) (sg_name 2 nd) (ss_cons (s1_set 3 nd (sx_se se_int))
    (ss_cons (s1_forA FU PassesOwn.never rfl (se_var 2) (sg_name 4 nd) (ss_one (s1_set 3 nd (sx_add (se_sx (sx_mul (se_var 3) (se_ix (se_var 0) se_int))) (se_var 4)))))
    (ss_one (s1_app 1 (se_var 3))))))
    (ss_one (s1_retV 1))))

/-! _law_power -/
abbrev s__law_power : Stmt := top 27

abbrev N__law_power : List Str := ["kinds", "many", "found", "turn"]
abbrev p__law_power : List Str := ["kinds", "many"]

def tm__law_power : Mn.Tm :=
  (tmSeq (tmAs (xV (eC (.int 1))) (tgN 2))
  (tmSeq (tmFor (iRg (eRg1 (eVar 1))) (tgN 3) (tmAs (xOp2 dMul (eVar 2) (eVar 0)) (tgN 2)))
  (tmRv 2)))

def fn__law_power : List Val → MH → Out Sl := fnM 2 4 tm__law_power

theorem ar__law_power : ArityN 2 fn__law_power := fnM_arity

theorem go__law_power {a0 a1 : Val} {M : MH} {Q : Sl → MH → Prop} (h : Rs (tm__law_power [some (.v a0), some (.v a1), none, none] M) Q) : Ok (fn__law_power [a0, a1] M) Q := Ok_fn (np := 2) (ns := 4) (f := tm__law_power) (vs := [a0, a1]) rfl h

theorem sc__law_power : FnScope N__law_power p__law_power (defScope s__law_power) := ⟨rfl, rfl, rfl, by decide +kernel, rfl, by decide +kernel, by decide +kernel⟩

theorem ok__law_power {P : Program} {w : World} {K : PySem.W.Frag} {mg : Str → Option Value} {base : Heap} {f : Addr} {fd : FuncData} (F : FunD K "_law_power" "_law_power" (defArgs s__law_power) (defBody s__law_power) (defScope s__law_power) [] [] f fd) (hm : mg "_law_power" = some (.ref f)) (g_range : mg "range" = none) : Cal P w K mg base 1 "_law_power" p__law_power fn__law_power := by
  refine cal_of F hm sc__law_power (FunD.bindsN F fun _ _ _ _ _ _ us hl => match us, hl with | [_, _], _ => rfl) (kbo_of F fun _ _ _ _ _ _ us hl => match us, hl with | [_, _], _ => rfl) fun cdv B out s H E hg hr => ?_
  have nd := (sc__law_power).nd
  unfold tm__law_power
  exact (ss_cons (s1_set 2 nd (sx_se se_int))
    (ss_cons (s1_for PassesOwn.never rfl (si_rg1 rfl g_range (se_var 1)) (sg_name 3 nd) (ss_one (s1_set 2 nd (sx_mul (se_var 2) (se_var 0)))))
    (ss_one (s1_retV 2))))

/-! _law_row_of -/
abbrev s__law_row_of : Stmt := top 28

abbrev N__law_row_of : List Str := ["code", "kinds", "many", "row", "turn"]
abbrev p__law_row_of : List Str := ["code", "kinds", "many"]

def tm__law_row_of : Mn.Tm :=
  (tmSeq (tmAs (xLst aNil) (tgN 3))
  (tmSeq (tmFor (iRg (eRg1 (eVar 2))) (tgN 4) (tmSeq (tmApp 3 (eOp2 dMod (eFn gInt (aCons (eVar 0) aNil)) (eVar 1)))
  (tmAs (xV (eOp2 dDiv (eVar 0) (eVar 1))) (tgN 0))))
  (tmRt (xV (eFn gRevT (aCons (eVar 3) aNil))))))

def fn__law_row_of : List Val → MH → Out Sl := fnM 3 5 tm__law_row_of

theorem ar__law_row_of : ArityN 3 fn__law_row_of := fnM_arity

theorem go__law_row_of {a0 a1 a2 : Val} {M : MH} {Q : Sl → MH → Prop} (h : Rs (tm__law_row_of [some (.v a0), some (.v a1), some (.v a2), none, none] M) Q) : Ok (fn__law_row_of [a0, a1, a2] M) Q := Ok_fn (np := 3) (ns := 5) (f := tm__law_row_of) (vs := [a0, a1, a2]) rfl h

theorem sc__law_row_of : FnScope N__law_row_of p__law_row_of (defScope s__law_row_of) := ⟨rfl, rfl, rfl, by decide +kernel, rfl, by decide +kernel, by decide +kernel⟩

theorem ok__law_row_of {P : Program} {w : World} {K : PySem.W.Frag} {mg : Str → Option Value} {base : Heap} {f : Addr} {fd : FuncData} (F : FunD K "_law_row_of" "_law_row_of" (defArgs s__law_row_of) (defBody s__law_row_of) (defScope s__law_row_of) [] [] f fd) (hm : mg "_law_row_of" = some (.ref f)) (g_int : mg "int" = none) (g_range : mg "range" = none) (g_reversed : mg "reversed" = none) (g_tuple : mg "tuple" = none) : Cal P w K mg base 1 "_law_row_of" p__law_row_of fn__law_row_of := by
  refine cal_of F hm sc__law_row_of (FunD.bindsN F fun _ _ _ _ _ _ us hl => match us, hl with | [_, _, _], _ => rfl) (kbo_of F fun _ _ _ _ _ _ us hl => match us, hl with | [_, _, _], _ => rfl) fun cdv B out s H E hg hr => ?_
  have nd := (sc__law_row_of).nd
  unfold tm__law_row_of
  exact (ss_cons (s1_set 3 nd (sx_lst sa_nil))
    (ss_cons (s1_for PassesOwn.never rfl (si_rg1 rfl g_range (se_var 2)) (sg_name 4 nd) (ss_cons (s1_app 3 (se_mod (se_ty ty_int rfl g_int boot_int (sa_cons (se_var 0) sa_nil)) (se_var 1)))
    (ss_one (s1_set 0 nd (sx_se (se_div (se_var 0) (se_var 1)))))))
    (ss_one (s1_ret (sx_se (se_tupRev rfl rfl g_tuple rfl g_reversed (se_var 3)))))))

/-! _law_rows_of -/
abbrev s__law_rows_of : Stmt := top 29

abbrev N__law_rows_of : List Str := ["codes", "kinds", "many", "code"]
abbrev p__law_rows_of : List Str := ["codes", "kinds", "many"]

def tm__law_rows_of : Mn.Tm :=
  (tmRt (xV (eFn gTuple (aCons (eF (xLcA FU [3] (eF (xFn gSort (aCons (eF (xLcA FU [3] (eVar 0) (tgN 3) cYes (eFn gInt (aCons (eVar 3) aNil)))) aNil))) (tgN 3) cYes (eF (xCall fn__law_row_of (aCons (eVar 3) (aCons (eVar 1) (aCons (eVar 2) aNil))))))) aNil))))

def fn__law_rows_of : List Val → MH → Out Sl := fnM 3 4 tm__law_rows_of

theorem ar__law_rows_of : ArityN 3 fn__law_rows_of := fnM_arity

theorem go__law_rows_of {a0 a1 a2 : Val} {M : MH} {Q : Sl → MH → Prop} (h : Rs (tm__law_rows_of [some (.v a0), some (.v a1), some (.v a2), none] M) Q) : Ok (fn__law_rows_of [a0, a1, a2] M) Q := Ok_fn (np := 3) (ns := 4) (f := tm__law_rows_of) (vs := [a0, a1, a2]) rfl h

theorem sc__law_rows_of : FnScope N__law_rows_of p__law_rows_of (defScope s__law_rows_of) := ⟨rfl, rfl, rfl, by decide +kernel, rfl, by decide +kernel, by decide +kernel⟩

theorem ok__law_rows_of {P : Program} {w : World} {K : PySem.W.Frag} {mg : Str → Option Value} {base : Heap} {f : Addr} {fd : FuncData} (F : FunD K "_law_rows_of" "_law_rows_of" (defArgs s__law_rows_of) (defBody s__law_rows_of) (defScope s__law_rows_of) [] [] f fd) (hm : mg "_law_rows_of" = some (.ref f)) (c__law_row_of : Cal P w K mg base 1 "_law_row_of" p__law_row_of fn__law_row_of) (g_int : mg "int" = none) (g_sorted : mg "sorted" = none) (g_tuple : mg "tuple" = none) : Cal P w K mg base 2 "_law_rows_of" p__law_rows_of fn__law_rows_of := by
  refine cal_of F hm sc__law_rows_of (FunD.bindsN F fun _ _ _ _ _ _ us hl => match us, hl with | [_, _, _], _ => rfl) (kbo_of F fun _ _ _ _ _ _ us hl => match us, hl with | [_, _, _], _ => rfl) fun cdv B out s H E hg hr => ?_
  have nd := (sc__law_rows_of).nd
  unfold tm__law_rows_of
  exact (ss_one (s1_ret (sx_se (se_ty ty_tuple rfl g_tuple boot_tuple (sa_cons (se_sx (sx_lcA FU (own := [("code", 3)]) rfl nd (se_sx (sx_bi bi_sort rfl g_sorted boot_sorted (sa_cons (se_sx (sx_lcA FU (own := [("code", 3)]) rfl nd (se_var 0) (blkOk_by (N := N__law_rows_of) (sc := (defScope s__law_rows_of)) (by decide +kernel)) (fun _ _ _ _ _ => (sg_name 3 nd)) (fun _ _ _ _ _ => sc_nil) (fun _ _ _ _ _ => (se_ty ty_int rfl g_int boot_int (sa_cons (se_var 3) sa_nil))))) sa_nil))) (blkOk_by (N := N__law_rows_of) (sc := (defScope s__law_rows_of)) (by decide +kernel)) (fun _ _ _ _ _ => (sg_name 3 nd)) (fun _ _ _ _ _ => sc_nil) (fun _ _ _ _ _ => (se_sx (sx_fn c__law_row_of hg hr (by first | decide | omega) rfl ar__law_row_of (sa_cons (se_var 3) (sa_cons (se_var 1) (sa_cons (se_var 2) sa_nil)))))))) sa_nil)))))

/-! _law_drawn -/
abbrev s__law_drawn : Stmt := top 30

abbrev N__law_drawn : List Str := ["bag", "kinds", "many", "most", "rest", "found", "turn"]
abbrev p__law_drawn : List Str := ["bag", "kinds", "many", "most"]

def tm__law_drawn : Mn.Tm :=
  (tmSeq (tmPs (xCons (xV (eLoc (xLstRg (eRg1 (eF (xCall fn__law_power (aCons (eVar 1) (aCons (eVar 2) aNil)))))))) (xCons (xLst aNil) xNil)) (tgsCons (tgN 4) (tgsCons (tgN 5) tgsNil)))
  (tmSeq (tmFor (iRg (eRg1 (eFn gMin2 (aCons (eVar 3) (aCons (eFn gLen (aCons (eVar 4) aNil)) aNil))))) (tgN 6) (tmApp 5 (eLPopAt (eVar 4) (eF (xCall fn__law_draw (aCons (eVar 0) (aCons (eFn gLen (aCons (eVar 4) aNil)) aNil)))))))
  (tmRv 5)))

def fn__law_drawn : List Val → MH → Out Sl := fnM 4 7 tm__law_drawn

theorem ar__law_drawn : ArityN 4 fn__law_drawn := fnM_arity

theorem go__law_drawn {a0 a1 a2 a3 : Val} {M : MH} {Q : Sl → MH → Prop} (h : Rs (tm__law_drawn [some (.v a0), some (.v a1), some (.v a2), some (.v a3), none, none, none] M) Q) : Ok (fn__law_drawn [a0, a1, a2, a3] M) Q := Ok_fn (np := 4) (ns := 7) (f := tm__law_drawn) (vs := [a0, a1, a2, a3]) rfl h

theorem sc__law_drawn : FnScope N__law_drawn p__law_drawn (defScope s__law_drawn) := ⟨rfl, rfl, rfl, by decide +kernel, rfl, by decide +kernel, by decide +kernel⟩

theorem ok__law_drawn {P : Program} {w : World} {K : PySem.W.Frag} {mg : Str → Option Value} {base : Heap} {f : Addr} {fd : FuncData} (F : FunD K "_law_drawn" "_law_drawn" (defArgs s__law_drawn) (defBody s__law_drawn) (defScope s__law_drawn) [] [] f fd) (hm : mg "_law_drawn" = some (.ref f)) (c__law_power : Cal P w K mg base 1 "_law_power" p__law_power fn__law_power) (c__law_draw : Cal P w K mg base 1 "_law_draw" p__law_draw fn__law_draw) (g_range : mg "range" = none) (g_list : mg "list" = none) (g_len : mg "len" = none) (g_min : mg "min" = none) : Cal P w K mg base 2 "_law_drawn" p__law_drawn fn__law_drawn := by
  refine cal_of F hm sc__law_drawn (FunD.bindsN F fun _ _ _ _ _ _ us hl => match us, hl with | [_, _, _, _], _ => rfl) (kbo_of F fun _ _ _ _ _ _ us hl => match us, hl with | [_, _, _, _], _ => rfl) fun cdv B out s H E hg hr => ?_
  have nd := (sc__law_drawn).nd
  unfold tm__law_drawn
  exact (ss_cons (by first | exact (s1_par 4 5 rfl nd (sl_cons (sx_se (se_loc (sx_listRg rfl rfl g_list (srg_1 rfl g_range (se_sx (sx_fn c__law_power hg hr (by first | decide | omega) rfl ar__law_power (sa_cons (se_var 1) (sa_cons (se_var 2) sa_nil)))))))) (sl_cons (sx_lst sa_nil) sl_nil)) rfl) | exact (s1_tt rfl (sl_cons (sx_se (se_loc (sx_listRg rfl rfl g_list (srg_1 rfl g_range (se_sx (sx_fn c__law_power hg hr (by first | decide | omega) rfl ar__law_power (sa_cons (se_var 1) (sa_cons (se_var 2) sa_nil)))))))) (sl_cons (sx_lst sa_nil) sl_nil)) (sgs_cons (sg_name 4 nd) (sgs_cons (sg_name 5 nd) sgs_nil)) (tgsCons_len (tgsCons_len tgsNil_len))))
    (ss_cons (s1_for PassesOwn.never rfl (si_rg1 rfl g_range (se_bi (bi_min2 rfl) rfl g_min boot_min (sa_cons (se_var 3) (sa_cons (se_bi bi_len rfl g_len boot_len (sa_cons (se_var 4) sa_nil)) sa_nil)))) (sg_name 6 nd) (ss_one (s1_app 5 (se_lpopAt (se_var 4) (se_sx (sx_fn c__law_draw hg hr (by first | decide | omega) rfl ar__law_draw (sa_cons (se_var 0) (sa_cons (se_bi bi_len rfl g_len boot_len (sa_cons (se_var 4) sa_nil)) sa_nil))))))))
    (ss_one (s1_retV 5))))

/-! _law_near_shelves -/
abbrev s__law_near_shelves : Stmt := top 39

abbrev N__law_near_shelves : List Str := ["bag", "shelf", "kinds", "rows", "many", "codes", "at", "found", "more", "other"]
abbrev p__law_near_shelves : List Str := ["bag", "shelf"]

def tm__law_near_shelves : Mn.Tm :=
  (tmSeq (tmPs (xCons (xV (eIx (eVar 1) (eC (.int 0)))) (xCons (xV (eIx (eVar 1) (eC (.int 1)))) (xCons (xV (eFn gLen (aCons (eIx (eIx (eVar 1) (eC (.int 1))) (eC (.int 0))) aNil))) (xCons (xCall fn__law_numbers (aCons (eVar 1) aNil)) xNil)))) (tgsCons (tgN 2) (tgsCons (tgN 3) (tgsCons (tgN 4) (tgsCons (tgN 5) tgsNil)))))
  (tmSeq (tmPs (xCons (xCall fn__law_draw (aCons (eVar 0) (aCons (eFn gLen (aCons (eVar 3) aNil)) aNil))) (xCons (xLst (aCons (eVar 1) (aCons (eTup (aCons (eVar 2) (aCons (eF (xSl (eVar 3) oNone (oSome (eC (.int 1))))) aNil))) (aCons (eTup (aCons (eVar 2) (aCons (eF (xSl (eVar 3) (oSome (eUn dNeg (eC (.int 1)))) oNone)) aNil))) aNil)))) xNil)) (tgsCons (tgN 6) (tgsCons (tgN 7) tgsNil)))
  (tmSeq (tmIf (toB (eOp2 dEq (eVar 2) (eC (.int 2)))) (tmApp 7 (eTup (aCons (eC (.int 3)) (aCons (eVar 3) aNil)))) tmNil)
  (tmSeq (tmIf (toB (eOp2 dGt (eFn gLen (aCons (eVar 3) aNil)) (eC (.int 1)))) (tmApp 7 (eTup (aCons (eVar 2) (aCons (eF (xOp2 dAdd (eF (xSl (eVar 3) oNone (oSome (eVar 6)))) (eF (xSl (eVar 3) (oSome (eF (xOp2 dAdd (eVar 6) (eC (.int 1))))) oNone)))) aNil)))) tmNil)
  (tmSeq (tmAs (xCall fn__law_draw (aCons (eVar 0) (aCons (eF (xCall fn__law_power (aCons (eVar 2) (aCons (eVar 4) aNil)))) aNil))) (tgN 8))
  (tmSeq (tmIf (toB (eOp2 dNotIn (eVar 8) (eVar 5))) (tmSeq (tmFrz 8 (tmApp 7 (eTup (aCons (eVar 2) (aCons (eF (xCall fn__law_rows_of (aCons (eF (xOp2 dAdd (eF (xOp2 dAdd (eF (xSl (eVar 5) oNone (oSome (eVar 6)))) (eF (xSl (eVar 5) (oSome (eF (xOp2 dAdd (eVar 6) (eC (.int 1))))) oNone)))) (eF (xLst (aCons (eVar 8) aNil))))) (aCons (eVar 2) (aCons (eVar 4) aNil))))) aNil)))))
  (tmIf (toB (eOp2 dLt (eFn gLen (aCons (eVar 5) aNil)) (eC (.int 32)))) (tmFrz 8 (tmApp 7 (eTup (aCons (eVar 2) (aCons (eF (xCall fn__law_rows_of (aCons (eF (xOp2 dAdd (eVar 5) (eF (xLst (aCons (eVar 8) aNil))))) (aCons (eVar 2) (aCons (eVar 4) aNil))))) aNil))))) tmNil)) tmNil)
  (tmSeq (tmApp 7 (eTup (aCons (eC (.int 2)) (aCons (eF (xCall fn__law_rows_of (aCons (eF (xCall fn__law_drawn (aCons (eVar 0) (aCons (eC (.int 2)) (aCons (eVar 4) (aCons (eF (xOp2 dAdd (eC (.int 1)) (eF (xCall fn__law_draw (aCons (eVar 0) (aCons (eC (.int 4)) aNil)))))) aNil)))))) (aCons (eC (.int 2)) (aCons (eVar 4) aNil))))) aNil))))
  (tmSeq (tmIf (toB (eOp2 dEq (eF (xCall fn__law_draw (aCons (eVar 0) (aCons (eC (.int 4)) aNil)))) (eC (.int 0)))) (tmSeq (tmAs (xOp2 dAdd (eC (.int 2)) (eF (xCall fn__law_draw (aCons (eVar 0) (aCons (eC (.int 2)) aNil))))) (tgN 9))
  (tmFrz 9 (tmApp 7 (eTup (aCons (eVar 9) (aCons (eF (xCall fn__law_rows_of (aCons (eF (xCall fn__law_drawn (aCons (eVar 0) (aCons (eVar 9) (aCons (eC (.int 6)) (aCons (eC (.int 32)) aNil)))))) (aCons (eVar 9) (aCons (eC (.int 6)) aNil))))) aNil)))))) tmNil)
  (tmRv 7)))))))))

def fn__law_near_shelves : List Val → MH → Out Sl := fnM 2 10 tm__law_near_shelves

theorem ar__law_near_shelves : ArityN 2 fn__law_near_shelves := fnM_arity

theorem go__law_near_shelves {a0 a1 : Val} {M : MH} {Q : Sl → MH → Prop} (h : Rs (tm__law_near_shelves [some (.v a0), some (.v a1), none, none, none, none, none, none, none, none] M) Q) : Ok (fn__law_near_shelves [a0, a1] M) Q := Ok_fn (np := 2) (ns := 10) (f := tm__law_near_shelves) (vs := [a0, a1]) rfl h

theorem sc__law_near_shelves : FnScope N__law_near_shelves p__law_near_shelves (defScope s__law_near_shelves) := ⟨rfl, rfl, rfl, by decide +kernel, rfl, by decide +kernel, by decide +kernel⟩

theorem ok__law_near_shelves {P : Program} {w : World} {K : PySem.W.Frag} {mg : Str → Option Value} {base : Heap} {f : Addr} {fd : FuncData} (F : FunD K "_law_near_shelves" "_law_near_shelves" (defArgs s__law_near_shelves) (defBody s__law_near_shelves) (defScope s__law_near_shelves) [] [] f fd) (hm : mg "_law_near_shelves" = some (.ref f)) (c__law_numbers : Cal P w K mg base 1 "_law_numbers" p__law_numbers fn__law_numbers) (c__law_draw : Cal P w K mg base 1 "_law_draw" p__law_draw fn__law_draw) (c__law_power : Cal P w K mg base 1 "_law_power" p__law_power fn__law_power) (c__law_rows_of : Cal P w K mg base 2 "_law_rows_of" p__law_rows_of fn__law_rows_of) (c__law_drawn : Cal P w K mg base 2 "_law_drawn" p__law_drawn fn__law_drawn) (g_len : mg "len" = none) : Cal P w K mg base 3 "_law_near_shelves" p__law_near_shelves fn__law_near_shelves := by
  refine cal_of F hm sc__law_near_shelves (FunD.bindsN F fun _ _ _ _ _ _ us hl => match us, hl with | [_, _], _ => rfl) (kbo_of F fun _ _ _ _ _ _ us hl => match us, hl with | [_, _], _ => rfl) fun cdv B out s H E hg hr => ?_
  have nd := (sc__law_near_shelves).nd
  unfold tm__law_near_shelves
  exact (ss_cons (by first | exact (s1_tt rfl (sl_cons (sx_se (se_ix (se_var 1) se_int)) (sl_cons (sx_se (se_ix (se_var 1) se_int)) (sl_cons (sx_se (se_bi bi_len rfl g_len boot_len (sa_cons (se_ix (se_ix (se_var 1) se_int) se_int) sa_nil))) (sl_cons (sx_fn c__law_numbers hg hr (by first | decide | omega) rfl ar__law_numbers (sa_cons (se_var 1) sa_nil)) sl_nil)))) (sgs_cons (sg_name 2 nd) (sgs_cons (sg_name 3 nd) (sgs_cons (sg_name 4 nd) (sgs_cons (sg_name 5 nd) sgs_nil)))) (tgsCons_len (tgsCons_len (tgsCons_len (tgsCons_len tgsNil_len))))))
    (ss_cons (by first | exact (s1_par 6 7 rfl nd (sl_cons (sx_fn c__law_draw hg hr (by first | decide | omega) rfl ar__law_draw (sa_cons (se_var 0) (sa_cons (se_bi bi_len rfl g_len boot_len (sa_cons (se_var 3) sa_nil)) sa_nil))) (sl_cons (sx_lst (sa_cons (se_var 1) (sa_cons (se_tup (sa_cons (se_var 2) (sa_cons (se_sx (sx_sl (se_var 3) so_none (so_some se_int))) sa_nil))) (sa_cons (se_tup (sa_cons (se_var 2) (sa_cons (se_sx (sx_sl (se_var 3) (so_some (se_neg se_int)) so_none)) sa_nil))) sa_nil)))) sl_nil)) rfl) | exact (s1_tt rfl (sl_cons (sx_fn c__law_draw hg hr (by first | decide | omega) rfl ar__law_draw (sa_cons (se_var 0) (sa_cons (se_bi bi_len rfl g_len boot_len (sa_cons (se_var 3) sa_nil)) sa_nil))) (sl_cons (sx_lst (sa_cons (se_var 1) (sa_cons (se_tup (sa_cons (se_var 2) (sa_cons (se_sx (sx_sl (se_var 3) so_none (so_some se_int))) sa_nil))) (sa_cons (se_tup (sa_cons (se_var 2) (sa_cons (se_sx (sx_sl (se_var 3) (so_some (se_neg se_int)) so_none)) sa_nil))) sa_nil)))) sl_nil)) (sgs_cons (sg_name 6 nd) (sgs_cons (sg_name 7 nd) sgs_nil)) (tgsCons_len (tgsCons_len tgsNil_len))))
    (ss_cons (s1_if (st_c (cr_eq hr) (se_var 2) se_int) (ss_one (s1_app 7 (se_tup (sa_cons se_int (sa_cons (se_var 3) sa_nil))))) ss_nil)
    (ss_cons (s1_if (st_c cr_gt (se_bi bi_len rfl g_len boot_len (sa_cons (se_var 3) sa_nil)) se_int) (ss_one (s1_app 7 (se_tup (sa_cons (se_var 2) (sa_cons (se_sx (sx_add (se_sx (sx_sl (se_var 3) so_none (so_some (se_var 6)))) (se_sx (sx_sl (se_var 3) (so_some (se_sx (sx_add (se_var 6) se_int))) so_none)))) sa_nil))))) ss_nil)
    (ss_cons (s1_set 8 nd (sx_fn c__law_draw hg hr (by first | decide | omega) rfl ar__law_draw (sa_cons (se_var 0) (sa_cons (se_sx (sx_fn c__law_power hg hr (by first | decide | omega) rfl ar__law_power (sa_cons (se_var 2) (sa_cons (se_var 4) sa_nil)))) sa_nil))))
    (ss_cons (s1_if (st_c (cr_notIn hr) (se_var 8) (se_var 5)) (ss_cons (s1_frz 8 (s1_app 7 (se_tup (sa_cons (se_var 2) (sa_cons (se_sx (sx_fn c__law_rows_of hg hr (by first | decide | omega) rfl ar__law_rows_of (sa_cons (se_sx (sx_add (se_sx (sx_add (se_sx (sx_sl (se_var 5) so_none (so_some (se_var 6)))) (se_sx (sx_sl (se_var 5) (so_some (se_sx (sx_add (se_var 6) se_int))) so_none)))) (se_sx (sx_lst (sa_cons (se_var 8) sa_nil))))) (sa_cons (se_var 2) (sa_cons (se_var 4) sa_nil))))) sa_nil)))))
    (ss_one (s1_if (st_c cr_lt (se_bi bi_len rfl g_len boot_len (sa_cons (se_var 5) sa_nil)) se_int) (ss_one (s1_frz 8 (s1_app 7 (se_tup (sa_cons (se_var 2) (sa_cons (se_sx (sx_fn c__law_rows_of hg hr (by first | decide | omega) rfl ar__law_rows_of (sa_cons (se_sx (sx_add (se_var 5) (se_sx (sx_lst (sa_cons (se_var 8) sa_nil))))) (sa_cons (se_var 2) (sa_cons (se_var 4) sa_nil))))) sa_nil)))))) ss_nil))) ss_nil)
    (ss_cons (s1_app 7 (se_tup (sa_cons se_int (sa_cons (se_sx (sx_fn c__law_rows_of hg hr (by first | decide | omega) rfl ar__law_rows_of (sa_cons (se_sx (sx_fn c__law_drawn hg hr (by first | decide | omega) rfl ar__law_drawn (sa_cons (se_var 0) (sa_cons se_int (sa_cons (se_var 4) (sa_cons (se_sx (sx_add se_int (se_sx (sx_fn c__law_draw hg hr (by first | decide | omega) rfl ar__law_draw (sa_cons (se_var 0) (sa_cons se_int sa_nil)))))) sa_nil)))))) (sa_cons se_int (sa_cons (se_var 4) sa_nil))))) sa_nil))))
    (ss_cons (s1_if (st_c (cr_eq hr) (se_sx (sx_fn c__law_draw hg hr (by first | decide | omega) rfl ar__law_draw (sa_cons (se_var 0) (sa_cons se_int sa_nil)))) se_int) (ss_cons (s1_set 9 nd (sx_add se_int (se_sx (sx_fn c__law_draw hg hr (by first | decide | omega) rfl ar__law_draw (sa_cons (se_var 0) (sa_cons se_int sa_nil))))))
    (ss_one (s1_frz 9 (s1_app 7 (se_tup (sa_cons (se_var 9) (sa_cons (se_sx (sx_fn c__law_rows_of hg hr (by first | decide | omega) rfl ar__law_rows_of (sa_cons (se_sx (sx_fn c__law_drawn hg hr (by first | decide | omega) rfl ar__law_drawn (sa_cons (se_var 0) (sa_cons (se_var 9) (sa_cons se_int (sa_cons se_int sa_nil)))))) (sa_cons (se_var 9) (sa_cons se_int sa_nil))))) sa_nil))))))) ss_nil)
    (ss_one (s1_retV 7))))))))))

/-! _law_shaped -/
abbrev s__law_shaped : Stmt := top 31

abbrev N__law_shaped : List Str := ["bag", "many", "shape", "found", "code", "row", "ones", "x", "is_run", "is_step"]
abbrev p__law_shaped : List Str := ["bag", "many"]

def tm__law_shaped : Mn.Tm :=
  (tmSeq (tmPs (xCons (xCall fn__law_draw (aCons (eVar 0) (aCons (eC (.int 6)) aNil))) (xCons (xLst aNil) xNil)) (tgsCons (tgN 2) (tgsCons (tgN 3) tgsNil)))
  (tmSeq (tmFor (iRg (eRg1 (eF (xCall fn__law_power (aCons (eC (.int 2)) (aCons (eVar 1) aNil)))))) (tgN 4) (tmSeq (tmAs (xCall fn__law_row_of (aCons (eVar 4) (aCons (eC (.int 2)) (aCons (eVar 1) aNil)))) (tgN 5))
  (tmSeq (tmAs (xLc [7] (iRg (eRg1 (eVar 1))) (tgN 7) (toB (eOp2 dEq (eIx (eVar 5) (eVar 7)) (eC (.int 1)))) (eVar 7)) (tgN 6))
  (tmSeq (tmAs (xV (eOr (eOp2 dEq (eVar 6) (eF (xLst aNil))) (eOp2 dEq (eF (xOp2 dAdd (eOp2 dSub (eIx (eVar 6) (eUn dNeg (eC (.int 1)))) (eIx (eVar 6) (eC (.int 0)))) (eC (.int 1)))) (eFn gLen (aCons (eVar 6) aNil))))) (tgN 8))
  (tmSeq (tmAs (xV (eAnd (eVar 8) (eOr (eOp2 dEq (eVar 6) (eF (xLst aNil))) (eOp2 dEq (eIx (eVar 6) (eUn dNeg (eC (.int 1)))) (eOp2 dSub (eVar 1) (eC (.int 1))))))) (tgN 9))
  (tmIf (bTru (eIx (eF (xLst (aCons (eC (.bool true)) (aCons (eOp2 dEq (eOp2 dMod (eFn gLen (aCons (eVar 6) aNil)) (eC (.int 2))) (eC (.int 0))) (aCons (eOp2 dLt (eFn gLen (aCons (eVar 6) aNil)) (eC (.int 3))) (aCons (eOp2 dEq (eFn gLen (aCons (eVar 6) aNil)) (eC (.int 1))) (aCons (eVar 8) (aCons (eVar 9) aNil)))))))) (eVar 2))) (tmApp 3 (eVar 4)) tmNil))))))
  (tmRv 3)))

def fn__law_shaped : List Val → MH → Out Sl := fnM 2 10 tm__law_shaped

theorem ar__law_shaped : ArityN 2 fn__law_shaped := fnM_arity

theorem go__law_shaped {a0 a1 : Val} {M : MH} {Q : Sl → MH → Prop} (h : Rs (tm__law_shaped [some (.v a0), some (.v a1), none, none, none, none, none, none, none, none] M) Q) : Ok (fn__law_shaped [a0, a1] M) Q := Ok_fn (np := 2) (ns := 10) (f := tm__law_shaped) (vs := [a0, a1]) rfl h

theorem sc__law_shaped : FnScope N__law_shaped p__law_shaped (defScope s__law_shaped) := ⟨rfl, rfl, rfl, by decide +kernel, rfl, by decide +kernel, by decide +kernel⟩

theorem ok__law_shaped {P : Program} {w : World} {K : PySem.W.Frag} {mg : Str → Option Value} {base : Heap} {f : Addr} {fd : FuncData} (F : FunD K "_law_shaped" "_law_shaped" (defArgs s__law_shaped) (defBody s__law_shaped) (defScope s__law_shaped) [] [] f fd) (hm : mg "_law_shaped" = some (.ref f)) (c__law_draw : Cal P w K mg base 1 "_law_draw" p__law_draw fn__law_draw) (c__law_row_of : Cal P w K mg base 1 "_law_row_of" p__law_row_of fn__law_row_of) (c__law_power : Cal P w K mg base 1 "_law_power" p__law_power fn__law_power) (g_range : mg "range" = none) (g_len : mg "len" = none) : Cal P w K mg base 2 "_law_shaped" p__law_shaped fn__law_shaped := by
  refine cal_of F hm sc__law_shaped (FunD.bindsN F fun _ _ _ _ _ _ us hl => match us, hl with | [_, _], _ => rfl) (kbo_of F fun _ _ _ _ _ _ us hl => match us, hl with | [_, _], _ => rfl) fun cdv B out s H E hg hr => ?_
  have nd := (sc__law_shaped).nd
  unfold tm__law_shaped
  exact (ss_cons (by first | exact (s1_par 2 3 rfl nd (sl_cons (sx_fn c__law_draw hg hr (by first | decide | omega) rfl ar__law_draw (sa_cons (se_var 0) (sa_cons se_int sa_nil))) (sl_cons (sx_lst sa_nil) sl_nil)) rfl) | exact (s1_tt rfl (sl_cons (sx_fn c__law_draw hg hr (by first | decide | omega) rfl ar__law_draw (sa_cons (se_var 0) (sa_cons se_int sa_nil))) (sl_cons (sx_lst sa_nil) sl_nil)) (sgs_cons (sg_name 2 nd) (sgs_cons (sg_name 3 nd) sgs_nil)) (tgsCons_len (tgsCons_len tgsNil_len))))
    (ss_cons (s1_for PassesOwn.never rfl (si_rg1 rfl g_range (se_sx (sx_fn c__law_power hg hr (by first | decide | omega) rfl ar__law_power (sa_cons se_int (sa_cons (se_var 1) sa_nil))))) (sg_name 4 nd) (ss_cons (s1_set 5 nd (sx_fn c__law_row_of hg hr (by first | decide | omega) rfl ar__law_row_of (sa_cons (se_var 4) (sa_cons se_int (sa_cons (se_var 1) sa_nil)))))
    (ss_cons (by first | exact (s1_set 6 nd (sx_lc (own := [("x", 7)]) rfl nd (SI.x (si_rg1 rfl g_range (se_var 1))) (blkOk_by (N := N__law_shaped) (sc := (defScope s__law_shaped)) (by decide +kernel)) (fun _ _ _ _ _ => (sg_name 7 nd)) (fun _ _ _ _ _ => (sc_one (st_c (cr_eq hr) (se_ix (se_var 5) (se_var 7)) se_int))) (fun _ _ _ _ _ => (se_var 7)))) | exact (s1_setLc 6 (own := [("x", 7)]) rfl nd (SI.x (si_rg1 rfl g_range (se_var 1))) (blkOk_by (N := N__law_shaped) (sc := (defScope s__law_shaped)) (by decide +kernel)) (fun _ _ _ _ _ => (sg_name 7 nd)) (fun _ _ _ _ _ => (sc_one (st_c (cr_eq hr) (se_ix (se_var 5) (se_var 7)) se_int))) (fun _ _ _ _ _ => (se_var 7)) (sw_true rfl rfl rfl (by decide +kernel))))
    (ss_cons (s1_set 8 nd (sx_se (se_or (se_c (cr_eq hr) (se_var 6) (se_sx (sx_lst sa_nil))) (se_one (se_c (cr_eq hr) (se_sx (sx_add (se_sub (se_ix (se_var 6) (se_neg se_int)) (se_ix (se_var 6) se_int)) se_int)) (se_bi bi_len rfl g_len boot_len (sa_cons (se_var 6) sa_nil)))))))
    (ss_cons (s1_set 9 nd (sx_se (se_and (se_var 8) (se_one (se_or (se_c (cr_eq hr) (se_var 6) (se_sx (sx_lst sa_nil))) (se_one (se_c (cr_eq hr) (se_ix (se_var 6) (se_neg se_int)) (se_sub (se_var 1) se_int))))))))
    (ss_one (s1_if (st_truth (se_ix (se_sx (sx_lst (sa_cons se_bl (sa_cons (se_c (cr_eq hr) (se_mod (se_bi bi_len rfl g_len boot_len (sa_cons (se_var 6) sa_nil)) se_int) se_int) (sa_cons (se_c cr_lt (se_bi bi_len rfl g_len boot_len (sa_cons (se_var 6) sa_nil)) se_int) (sa_cons (se_c (cr_eq hr) (se_bi bi_len rfl g_len boot_len (sa_cons (se_var 6) sa_nil)) se_int) (sa_cons (se_var 8) (sa_cons (se_var 9) sa_nil)))))))) (se_var 2))) (ss_one (s1_app 3 (se_var 4))) ss_nil)))))))
    (ss_one (s1_retV 3))))

/-! _law_turning -/
abbrev s__law_turning : Stmt := top 33

abbrev N__law_turning : List Str := ["step", "many", "found", "a", "code", "x"]
abbrev p__law_turning : List Str := ["step", "many"]

def tm__law_turning : Mn.Tm :=
  (tmSeq (tmAs (xLst (aCons (eC (.int 0)) aNil)) (tgN 2))
  (tmSeq (tmFor (iRg (eRg1 (eC (.int 3)))) (tgN 3) (tmSeq (tmAs (xV (eC (.int 0))) (tgN 4))
  (tmSeq (tmFor (iRg (eRg1 (eVar 1))) (tgN 5) (tmAs (xOp2 dAdd (eF (xOp2 dMul (eVar 4) (eC (.int 3)))) (eOp2 dMod (eFn gInt (aCons (eF (xOp2 dAdd (eVar 3) (eF (xOp2 dMul (eVar 5) (eVar 0))))) aNil)) (eC (.int 3)))) (tgN 4)))
  (tmIf (toB (eOp2 dNotIn (eVar 4) (eVar 2))) (tmApp 2 (eVar 4)) tmNil))))
  (tmRv 2)))

def fn__law_turning : List Val → MH → Out Sl := fnM 2 6 tm__law_turning

theorem ar__law_turning : ArityN 2 fn__law_turning := fnM_arity

theorem go__law_turning {a0 a1 : Val} {M : MH} {Q : Sl → MH → Prop} (h : Rs (tm__law_turning [some (.v a0), some (.v a1), none, none, none, none] M) Q) : Ok (fn__law_turning [a0, a1] M) Q := Ok_fn (np := 2) (ns := 6) (f := tm__law_turning) (vs := [a0, a1]) rfl h

theorem sc__law_turning : FnScope N__law_turning p__law_turning (defScope s__law_turning) := ⟨rfl, rfl, rfl, by decide +kernel, rfl, by decide +kernel, by decide +kernel⟩

theorem ok__law_turning {P : Program} {w : World} {K : PySem.W.Frag} {mg : Str → Option Value} {base : Heap} {f : Addr} {fd : FuncData} (F : FunD K "_law_turning" "_law_turning" (defArgs s__law_turning) (defBody s__law_turning) (defScope s__law_turning) [] [] f fd) (hm : mg "_law_turning" = some (.ref f)) (g_int : mg "int" = none) (g_range : mg "range" = none) : Cal P w K mg base 1 "_law_turning" p__law_turning fn__law_turning := by
  refine cal_of F hm sc__law_turning (FunD.bindsN F fun _ _ _ _ _ _ us hl => match us, hl with | [_, _], _ => rfl) (kbo_of F fun _ _ _ _ _ _ us hl => match us, hl with | [_, _], _ => rfl) fun cdv B out s H E hg hr => ?_
  have nd := (sc__law_turning).nd
  unfold tm__law_turning
  exact (ss_cons (s1_set 2 nd (sx_lst (sa_cons se_int sa_nil)))
    (ss_cons (s1_for PassesOwn.never rfl (si_rg1 rfl g_range se_int) (sg_name 3 nd) (ss_cons (s1_set 4 nd (sx_se se_int))
    (ss_cons (s1_for PassesOwn.never rfl (si_rg1 rfl g_range (se_var 1)) (sg_name 5 nd) (ss_one (s1_set 4 nd (sx_add (se_sx (sx_mul (se_var 4) se_int)) (se_mod (se_ty ty_int rfl g_int boot_int (sa_cons (se_sx (sx_add (se_var 3) (se_sx (sx_mul (se_var 5) (se_var 0))))) sa_nil)) se_int)))))
    (ss_one (s1_if (st_c (cr_notIn hr) (se_var 4) (se_var 2)) (ss_one (s1_app 2 (se_var 4))) ss_nil)))))
    (ss_one (s1_retV 2))))

/-! _law_beside -/
abbrev s__law_beside : Stmt := top 32

abbrev N__law_beside : List Str := ["bag", "kinds", "many", "most", "first", "heads", "found", "tails", "head", "tail"]
abbrev p__law_beside : List Str := ["bag", "kinds", "many", "most"]

def tm__law_beside : Mn.Tm :=
  (tmSeq (tmAs (xOp2 dAdd (eC (.int 1)) (eF (xCall fn__law_draw (aCons (eVar 0) (aCons (eOp2 dSub (eVar 2) (eC (.int 1))) aNil))))) (tgN 4))
  (tmSeq (tmFrz 4 (tmPs (xCons (xCall fn__law_drawn (aCons (eVar 0) (aCons (eVar 1) (aCons (eVar 4) (aCons (eF (xOp2 dAdd (eC (.int 1)) (eF (xCall fn__law_draw (aCons (eVar 0) (aCons (eC (.int 4)) aNil)))))) aNil))))) (xCons (xLst aNil) xNil)) (tgsCons (tgN 5) (tgsCons (tgN 6) tgsNil))))
  (tmSeq (tmAs (xCall fn__law_drawn (aCons (eVar 0) (aCons (eVar 1) (aCons (eOp2 dSub (eVar 2) (eVar 4)) (aCons (eFn gMax2 (aCons (eC (.int 1)) (aCons (eOp2 dDiv (eVar 3) (eFn gLen (aCons (eVar 5) aNil))) aNil))) aNil))))) (tgN 7))
  (tmSeq (tmFrz 5 (tmForA FU (eVar 5) (tgN 8) (tmExt 6 (eF (xLcA FU [9] (eVar 7) (tgN 9) cYes (eF (xOp2 dAdd (eF (xOp2 dMul (eVar 8) (eF (xCall fn__law_power (aCons (eVar 1) (aCons (eOp2 dSub (eVar 2) (eVar 4)) aNil)))))) (eVar 9))))))))
  (tmRv 6)))))

def fn__law_beside : List Val → MH → Out Sl := fnM 4 10 tm__law_beside

theorem ar__law_beside : ArityN 4 fn__law_beside := fnM_arity

theorem go__law_beside {a0 a1 a2 a3 : Val} {M : MH} {Q : Sl → MH → Prop} (h : Rs (tm__law_beside [some (.v a0), some (.v a1), some (.v a2), some (.v a3), none, none, none, none, none, none] M) Q) : Ok (fn__law_beside [a0, a1, a2, a3] M) Q := Ok_fn (np := 4) (ns := 10) (f := tm__law_beside) (vs := [a0, a1, a2, a3]) rfl h

theorem sc__law_beside : FnScope N__law_beside p__law_beside (defScope s__law_beside) := ⟨rfl, rfl, rfl, by decide +kernel, rfl, by decide +kernel, by decide +kernel⟩

theorem ok__law_beside {P : Program} {w : World} {K : PySem.W.Frag} {mg : Str → Option Value} {base : Heap} {f : Addr} {fd : FuncData} (F : FunD K "_law_beside" "_law_beside" (defArgs s__law_beside) (defBody s__law_beside) (defScope s__law_beside) [] [] f fd) (hm : mg "_law_beside" = some (.ref f)) (c__law_draw : Cal P w K mg base 1 "_law_draw" p__law_draw fn__law_draw) (c__law_drawn : Cal P w K mg base 2 "_law_drawn" p__law_drawn fn__law_drawn) (c__law_power : Cal P w K mg base 1 "_law_power" p__law_power fn__law_power) (g_len : mg "len" = none) (g_max : mg "max" = none) : Cal P w K mg base 3 "_law_beside" p__law_beside fn__law_beside := by
  refine cal_of F hm sc__law_beside (FunD.bindsN F fun _ _ _ _ _ _ us hl => match us, hl with | [_, _, _, _], _ => rfl) (kbo_of F fun _ _ _ _ _ _ us hl => match us, hl with | [_, _, _, _], _ => rfl) fun cdv B out s H E hg hr => ?_
  have nd := (sc__law_beside).nd
  unfold tm__law_beside
  exact (ss_cons (s1_set 4 nd (sx_add se_int (se_sx (sx_fn c__law_draw hg hr (by first | decide | omega) rfl ar__law_draw (sa_cons (se_var 0) (sa_cons (se_sub (se_var 2) se_int) sa_nil))))))
    (ss_cons (s1_frz 4 (by first | exact (s1_par 5 6 rfl nd (sl_cons (sx_fn c__law_drawn hg hr (by first | decide | omega) rfl ar__law_drawn (sa_cons (se_var 0) (sa_cons (se_var 1) (sa_cons (se_var 4) (sa_cons (se_sx (sx_add se_int (se_sx (sx_fn c__law_draw hg hr (by first | decide | omega) rfl ar__law_draw (sa_cons (se_var 0) (sa_cons se_int sa_nil)))))) sa_nil))))) (sl_cons (sx_lst sa_nil) sl_nil)) rfl) | exact (s1_tt rfl (sl_cons (sx_fn c__law_drawn hg hr (by first | decide | omega) rfl ar__law_drawn (sa_cons (se_var 0) (sa_cons (se_var 1) (sa_cons (se_var 4) (sa_cons (se_sx (sx_add se_int (se_sx (sx_fn c__law_draw hg hr (by first | decide | omega) rfl ar__law_draw (sa_cons (se_var 0) (sa_cons se_int sa_nil)))))) sa_nil))))) (sl_cons (sx_lst sa_nil) sl_nil)) (sgs_cons (sg_name 5 nd) (sgs_cons (sg_name 6 nd) sgs_nil)) (tgsCons_len (tgsCons_len tgsNil_len)))))
    (ss_cons (s1_set 7 nd (sx_fn c__law_drawn hg hr (by first | decide | omega) rfl ar__law_drawn (sa_cons (se_var 0) (sa_cons (se_var 1) (sa_cons (se_sub (se_var 2) (se_var 4)) (sa_cons (se_bi (bi_max2 rfl) rfl g_max boot_max (sa_cons se_int (sa_cons (se_div (se_var 3) (se_bi bi_len rfl g_len boot_len (sa_cons (se_var 5) sa_nil))) sa_nil))) sa_nil))))))
    (ss_cons (s1_frz 5 (s1_forA FU PassesOwn.never rfl (se_var 5) (sg_name 8 nd) (ss_one (s1_ext 6 (se_sx (sx_lcA FU (own := [("tail", 9)]) rfl nd (se_var 7) (blkOk_by (N := N__law_beside) (sc := (defScope s__law_beside)) (by decide +kernel)) (fun _ _ _ _ _ => (sg_name 9 nd)) (fun _ _ _ _ _ => sc_nil) (fun _ _ _ _ _ => (se_sx (sx_add (se_sx (sx_mul (se_var 8) (se_sx (sx_fn c__law_power hg hr (by first | decide | omega) rfl ar__law_power (sa_cons (se_var 1) (sa_cons (se_sub (se_var 2) (se_var 4)) sa_nil)))))) (se_var 9))))))))))
    (ss_one (s1_retV 6))))))

/-! _law_shelf -/
abbrev s__law_shelf : Stmt := top 34

abbrev N__law_shelf : List Str := ["bag", "kinds", "many", "most", "way", "codes", "turn", "more"]
abbrev p__law_shelf : List Str := ["bag", "kinds", "many", "most"]

def tm__law_shelf : Mn.Tm :=
  (tmSeq (tmAs (xCall fn__law_draw (aCons (eVar 0) (aCons (eC (.int 4)) aNil))) (tgN 4))
  (tmSeq (tmIf (toB (eOp2 dEq (eVar 4) (eC (.int 0)))) (tmAs (xV (eLoc (eIf (toB (eOp2 dEq (eVar 1) (eC (.int 2)))) (xCall fn__law_shaped (aCons (eVar 0) (aCons (eVar 2) aNil))) (xCall fn__law_turning (aCons (eF (xOp2 dAdd (eC (.int 1)) (eF (xCall fn__law_draw (aCons (eVar 0) (aCons (eC (.int 3)) aNil)))))) (aCons (eVar 2) aNil)))))) (tgN 5)) (tmIf (bAnd (toB (eOp2 dEq (eVar 4) (eC (.int 1)))) (toB (eOp2 dGt (eVar 2) (eC (.int 1))))) (tmAs (xV (eLoc (xCall fn__law_beside (aCons (eVar 0) (aCons (eVar 1) (aCons (eVar 2) (aCons (eVar 3) aNil))))))) (tgN 5)) (tmAs (xV (eLoc (xCall fn__law_drawn (aCons (eVar 0) (aCons (eVar 1) (aCons (eVar 2) (aCons (eVar 3) aNil))))))) (tgN 5))))
  (tmSeq (tmFor (iRg (eRg1 (eOp2 dSub (eFn gLen (aCons (eVar 5) aNil)) (eVar 3)))) (tgN 6) (tmDo (eLPopAt (eVar 5) (eF (xCall fn__law_draw (aCons (eVar 0) (aCons (eFn gLen (aCons (eVar 5) aNil)) aNil)))))))
  (tmSeq (tmAs (xCall fn__law_draw (aCons (eVar 0) (aCons (eF (xCall fn__law_power (aCons (eVar 1) (aCons (eVar 2) aNil)))) aNil))) (tgN 7))
  (tmSeq (tmIf (bAnd (toB (eOp2 dEq (eF (xCall fn__law_draw (aCons (eVar 0) (aCons (eC (.int 3)) aNil)))) (eC (.int 0)))) (bAnd (toB (eOp2 dNotIn (eVar 7) (eVar 5))) (toB (eOp2 dLt (eFn gLen (aCons (eVar 5) aNil)) (eVar 3))))) (tmFrz 7 (tmDo (eLAp (eVar 5) (eVar 7)))) (tmIf (bAnd (toB (eOp2 dGt (eFn gLen (aCons (eVar 5) aNil)) (eC (.int 1)))) (toB (eOp2 dEq (eF (xCall fn__law_draw (aCons (eVar 0) (aCons (eC (.int 4)) aNil)))) (eC (.int 0))))) (tmDo (eLPopAt (eVar 5) (eF (xCall fn__law_draw (aCons (eVar 0) (aCons (eFn gLen (aCons (eVar 5) aNil)) aNil)))))) tmNil))
  (tmRt (xV (eTup (aCons (eVar 1) (aCons (eF (xCall fn__law_rows_of (aCons (eVar 5) (aCons (eVar 1) (aCons (eVar 2) aNil))))) aNil))))))))))

def fn__law_shelf : List Val → MH → Out Sl := fnM 4 8 tm__law_shelf

theorem ar__law_shelf : ArityN 4 fn__law_shelf := fnM_arity

theorem go__law_shelf {a0 a1 a2 a3 : Val} {M : MH} {Q : Sl → MH → Prop} (h : Rs (tm__law_shelf [some (.v a0), some (.v a1), some (.v a2), some (.v a3), none, none, none, none] M) Q) : Ok (fn__law_shelf [a0, a1, a2, a3] M) Q := Ok_fn (np := 4) (ns := 8) (f := tm__law_shelf) (vs := [a0, a1, a2, a3]) rfl h

theorem sc__law_shelf : FnScope N__law_shelf p__law_shelf (defScope s__law_shelf) := ⟨rfl, rfl, rfl, by decide +kernel, rfl, by decide +kernel, by decide +kernel⟩

theorem ok__law_shelf {P : Program} {w : World} {K : PySem.W.Frag} {mg : Str → Option Value} {base : Heap} {f : Addr} {fd : FuncData} (F : FunD K "_law_shelf" "_law_shelf" (defArgs s__law_shelf) (defBody s__law_shelf) (defScope s__law_shelf) [] [] f fd) (hm : mg "_law_shelf" = some (.ref f)) (c__law_draw : Cal P w K mg base 1 "_law_draw" p__law_draw fn__law_draw) (c__law_shaped : Cal P w K mg base 2 "_law_shaped" p__law_shaped fn__law_shaped) (c__law_turning : Cal P w K mg base 1 "_law_turning" p__law_turning fn__law_turning) (c__law_beside : Cal P w K mg base 3 "_law_beside" p__law_beside fn__law_beside) (c__law_drawn : Cal P w K mg base 2 "_law_drawn" p__law_drawn fn__law_drawn) (c__law_power : Cal P w K mg base 1 "_law_power" p__law_power fn__law_power) (c__law_rows_of : Cal P w K mg base 2 "_law_rows_of" p__law_rows_of fn__law_rows_of) (g_len : mg "len" = none) (g_range : mg "range" = none) : Cal P w K mg base 4 "_law_shelf" p__law_shelf fn__law_shelf := by
  refine cal_of F hm sc__law_shelf (FunD.bindsN F fun _ _ _ _ _ _ us hl => match us, hl with | [_, _, _, _], _ => rfl) (kbo_of F fun _ _ _ _ _ _ us hl => match us, hl with | [_, _, _, _], _ => rfl) fun cdv B out s H E hg hr => ?_
  have nd := (sc__law_shelf).nd
  unfold tm__law_shelf
  exact (ss_cons (s1_set 4 nd (sx_fn c__law_draw hg hr (by first | decide | omega) rfl ar__law_draw (sa_cons (se_var 0) (sa_cons se_int sa_nil))))
    (ss_cons (s1_if (st_c (cr_eq hr) (se_var 4) se_int) (ss_one (s1_set 5 nd (sx_se (se_loc (sx_if (st_c (cr_eq hr) (se_var 1) se_int) (sx_fn c__law_shaped hg hr (by first | decide | omega) rfl ar__law_shaped (sa_cons (se_var 0) (sa_cons (se_var 2) sa_nil))) (sx_fn c__law_turning hg hr (by first | decide | omega) rfl ar__law_turning (sa_cons (se_sx (sx_add se_int (se_sx (sx_fn c__law_draw hg hr (by first | decide | omega) rfl ar__law_draw (sa_cons (se_var 0) (sa_cons se_int sa_nil)))))) (sa_cons (se_var 2) sa_nil)))))))) (ss_one (s1_if (st_sw (sw_and (st_c (cr_eq hr) (se_var 4) se_int) (sw_and1 (st_c cr_gt (se_var 2) se_int)))) (ss_one (s1_set 5 nd (sx_se (se_loc (sx_fn c__law_beside hg hr (by first | decide | omega) rfl ar__law_beside (sa_cons (se_var 0) (sa_cons (se_var 1) (sa_cons (se_var 2) (sa_cons (se_var 3) sa_nil))))))))) (ss_one (s1_set 5 nd (sx_se (se_loc (sx_fn c__law_drawn hg hr (by first | decide | omega) rfl ar__law_drawn (sa_cons (se_var 0) (sa_cons (se_var 1) (sa_cons (se_var 2) (sa_cons (se_var 3) sa_nil))))))))))))
    (ss_cons (s1_for PassesOwn.never rfl (si_rg1 rfl g_range (se_sub (se_bi bi_len rfl g_len boot_len (sa_cons (se_var 5) sa_nil)) (se_var 3))) (sg_name 6 nd) (ss_one (s1_do (se_lpopAt (se_var 5) (se_sx (sx_fn c__law_draw hg hr (by first | decide | omega) rfl ar__law_draw (sa_cons (se_var 0) (sa_cons (se_bi bi_len rfl g_len boot_len (sa_cons (se_var 5) sa_nil)) sa_nil))))))))
    (ss_cons (s1_set 7 nd (sx_fn c__law_draw hg hr (by first | decide | omega) rfl ar__law_draw (sa_cons (se_var 0) (sa_cons (se_sx (sx_fn c__law_power hg hr (by first | decide | omega) rfl ar__law_power (sa_cons (se_var 1) (sa_cons (se_var 2) sa_nil)))) sa_nil))))
    (ss_cons (s1_if (st_sw (sw_and (st_c (cr_eq hr) (se_sx (sx_fn c__law_draw hg hr (by first | decide | omega) rfl ar__law_draw (sa_cons (se_var 0) (sa_cons se_int sa_nil)))) se_int) (sw_and (st_c (cr_notIn hr) (se_var 7) (se_var 5)) (sw_and1 (st_c cr_lt (se_bi bi_len rfl g_len boot_len (sa_cons (se_var 5) sa_nil)) (se_var 3)))))) (ss_one (s1_frz 7 (s1_do (se_lapp (se_var 5) (se_var 7))))) (ss_one (s1_if (st_sw (sw_and (st_c cr_gt (se_bi bi_len rfl g_len boot_len (sa_cons (se_var 5) sa_nil)) se_int) (sw_and1 (st_c (cr_eq hr) (se_sx (sx_fn c__law_draw hg hr (by first | decide | omega) rfl ar__law_draw (sa_cons (se_var 0) (sa_cons se_int sa_nil)))) se_int)))) (ss_one (s1_do (se_lpopAt (se_var 5) (se_sx (sx_fn c__law_draw hg hr (by first | decide | omega) rfl ar__law_draw (sa_cons (se_var 0) (sa_cons (se_bi bi_len rfl g_len boot_len (sa_cons (se_var 5) sa_nil)) sa_nil))))))) ss_nil)))
    (ss_one (s1_ret (sx_se (se_tup (sa_cons (se_var 1) (sa_cons (se_sx (sx_fn c__law_rows_of hg hr (by first | decide | omega) rfl ar__law_rows_of (sa_cons (se_var 5) (sa_cons (se_var 1) (sa_cons (se_var 2) sa_nil))))) sa_nil)))))))))))

/-! _law_near_samples -/
abbrev s__law_near_samples : Stmt := top 40

abbrev N__law_near_samples : List Str := ["bag", "size", "many", "kinds", "sample", "turn", "found", "odd", "at", "point", "label", "pair"]
abbrev p__law_near_samples : List Str := ["bag"]

def tm__law_near_samples : Mn.Tm :=
  (tmSeq (tmAs (xCall fn__law_pick (aCons (eVar 0) (aCons (eF (xLst (aCons (eC (.int 0)) (aCons (eC (.int 1)) (aCons (eC (.int 2)) (aCons (eC (.int 3)) (aCons (eC (.int 4)) (aCons (eC (.int 5)) (aCons (eC (.int 8)) (aCons (eC (.int 12)) (aCons (eC (.int 31)) (aCons (eC (.int 59)) (aCons (eC (.int 60)) aNil))))))))))))) aNil))) (tgN 1))
  (tmSeq (tmPs (xCons (xOp2 dAdd (eC (.int 1)) (eF (xCall fn__law_draw (aCons (eVar 0) (aCons (eC (.int 6)) aNil))))) (xCons (xOp2 dAdd (eC (.int 2)) (eF (xCall fn__law_draw (aCons (eVar 0) (aCons (eC (.int 2)) aNil))))) xNil)) (tgsCons (tgN 2) (tgsCons (tgN 3) tgsNil)))
  (tmSeq (tmFrz 3 (tmFrz 2 (tmAs (xV (eFn gTuple (aCons (eF (xLc [5] (iRg (eRg1 (eVar 1))) (tgN 5) cYes (eTup (aCons (eF (xCall fn__law_draw (aCons (eVar 0) (aCons (eVar 2) aNil)))) (aCons (eF (xCall fn__law_draw (aCons (eVar 0) (aCons (eVar 3) aNil)))) aNil))))) aNil))) (tgN 4))))
  (tmSeq (tmPs (xCons (xLst (aCons (eVar 4) (aCons (eTup aNil) (aCons (eF (xSl (eVar 4) (oSome (eC (.int 1))) oNone)) (aCons (eF (xSl (eVar 4) oNone (oSome (eUn dNeg (eC (.int 1)))))) (aCons (eFn gRevT (aCons (eVar 4) aNil)) (aCons (eF (xOp2 dMulE (eF (xSl (eVar 4) oNone (oSome (eC (.int 30))))) (eC (.int 2)))) aNil))))))) (xCons (xV (eTup (aCons (eC (.int 5)) (aCons (eC (.int 2)) aNil)))) xNil)) (tgsCons (tgN 6) (tgsCons (tgN 7) tgsNil)))
  (tmSeq (tmIf (toB (eOp2 dGt (eVar 1) (eC (.int 0)))) (tmSeq (tmFrz 1 (tmAs (xCall fn__law_draw (aCons (eVar 0) (aCons (eVar 1) aNil))) (tgN 8)))
  (tmSeq (tmAs (xV (eIx (eVar 4) (eVar 8))) (tgT 2 (tgsCons (tgN 9) (tgsCons (tgN 10) tgsNil))))
  (tmSeq (tmForA FU (eF (xLst (aCons (eTup (aCons (eVar 9) (aCons (eOp2 dMod (eFn gInt (aCons (eF (xOp2 dAdd (eVar 10) (eC (.int 1)))) aNil)) (eC (.int 3))) aNil))) (aCons (eTup (aCons (eOp2 dMod (eFn gInt (aCons (eF (xOp2 dAdd (eVar 9) (eC (.int 1)))) aNil)) (eC (.int 6))) (aCons (eVar 10) aNil))) (aCons (eVar 7) (aCons (eTup (aCons (eVar 10) (aCons (eVar 10) aNil))) aNil)))))) (tgN 11) (tmApp 6 (eF (xOp2 dAdd (eF (xOp2 dAdd (eF (xSl (eVar 4) oNone (oSome (eVar 8)))) (eTup (aCons (eVar 11) aNil)))) (eF (xSl (eVar 4) (oSome (eF (xOp2 dAdd (eVar 8) (eC (.int 1))))) oNone))))))
  (tmSeq (tmApp 6 (eF (xSl (eF (xOp2 dAdd (eVar 4) (eF (xSl (eVar 4) (oSome (eVar 8)) (oSome (eF (xOp2 dAdd (eVar 8) (eC (.int 1))))))))) (oSome (eUn dNeg (eC (.int 60)))) oNone)))
  (tmApp 6 (eF (xSl (eF (xOp2 dMulE (eVar 4) (eC (.int 60)))) oNone (oSome (eC (.int 60)))))))))) tmNil)
  (tmRt (xOp2 dAdd (eVar 6) (eF (xLst (aCons (eF (xOp2 dMulE (eTup (aCons (eVar 7) aNil)) (eF (xOp2 dAdd (eC (.int 1)) (eF (xCall fn__law_draw (aCons (eVar 0) (aCons (eC (.int 60)) aNil)))))))) (aCons (eTup (aCons (eTup (aCons (eC (.int 0)) (aCons (eC (.int 0)) aNil))) aNil)) (aCons (eTup (aCons (eTup (aCons (eC (.int 0)) (aCons (eC (.int 0)) aNil))) (aCons (eTup (aCons (eC (.int 0)) (aCons (eC (.int 1)) aNil))) aNil))) (aCons (eTup (aCons (eTup (aCons (eC (.int 0)) (aCons (eC (.int 1)) aNil))) (aCons (eTup (aCons (eC (.int 0)) (aCons (eC (.int 0)) aNil))) aNil))) aNil)))))))))))))

def fn__law_near_samples : List Val → MH → Out Sl := fnM 1 12 tm__law_near_samples

theorem ar__law_near_samples : ArityN 1 fn__law_near_samples := fnM_arity

theorem go__law_near_samples {a0 : Val} {M : MH} {Q : Sl → MH → Prop} (h : Rs (tm__law_near_samples [some (.v a0), none, none, none, none, none, none, none, none, none, none, none] M) Q) : Ok (fn__law_near_samples [a0] M) Q := Ok_fn (np := 1) (ns := 12) (f := tm__law_near_samples) (vs := [a0]) rfl h

theorem sc__law_near_samples : FnScope N__law_near_samples p__law_near_samples (defScope s__law_near_samples) := ⟨rfl, rfl, rfl, by decide +kernel, rfl, by decide +kernel, by decide +kernel⟩

theorem ok__law_near_samples {P : Program} {w : World} {K : PySem.W.Frag} {mg : Str → Option Value} {base : Heap} {f : Addr} {fd : FuncData} (F : FunD K "_law_near_samples" "_law_near_samples" (defArgs s__law_near_samples) (defBody s__law_near_samples) (defScope s__law_near_samples) [] [] f fd) (hm : mg "_law_near_samples" = some (.ref f)) (c__law_pick : Cal P w K mg base 2 "_law_pick" p__law_pick fn__law_pick) (c__law_draw : Cal P w K mg base 1 "_law_draw" p__law_draw fn__law_draw) (g_range : mg "range" = none) (g_tuple : mg "tuple" = none) (g_reversed : mg "reversed" = none) (g_int : mg "int" = none) : Cal P w K mg base 3 "_law_near_samples" p__law_near_samples fn__law_near_samples := by
  refine cal_of F hm sc__law_near_samples (FunD.bindsN F fun _ _ _ _ _ _ us hl => match us, hl with | [_], _ => rfl) (kbo_of F fun _ _ _ _ _ _ us hl => match us, hl with | [_], _ => rfl) fun cdv B out s H E hg hr => ?_
  have nd := (sc__law_near_samples).nd
  unfold tm__law_near_samples
  exact (ss_cons (s1_set 1 nd (sx_fn c__law_pick hg hr (by first | decide | omega) rfl ar__law_pick (sa_cons (se_var 0) (sa_cons (se_sx (sx_lst (sa_cons se_int (sa_cons se_int (sa_cons se_int (sa_cons se_int (sa_cons se_int (sa_cons se_int (sa_cons se_int (sa_cons se_int (sa_cons se_int (sa_cons se_int (sa_cons se_int sa_nil))))))))))))) sa_nil))))
    (ss_cons (by first | exact (s1_par 2 3 rfl nd (sl_cons (sx_add se_int (se_sx (sx_fn c__law_draw hg hr (by first | decide | omega) rfl ar__law_draw (sa_cons (se_var 0) (sa_cons se_int sa_nil))))) (sl_cons (sx_add se_int (se_sx (sx_fn c__law_draw hg hr (by first | decide | omega) rfl ar__law_draw (sa_cons (se_var 0) (sa_cons se_int sa_nil))))) sl_nil)) rfl) | exact (s1_tt rfl (sl_cons (sx_add se_int (se_sx (sx_fn c__law_draw hg hr (by first | decide | omega) rfl ar__law_draw (sa_cons (se_var 0) (sa_cons se_int sa_nil))))) (sl_cons (sx_add se_int (se_sx (sx_fn c__law_draw hg hr (by first | decide | omega) rfl ar__law_draw (sa_cons (se_var 0) (sa_cons se_int sa_nil))))) sl_nil)) (sgs_cons (sg_name 2 nd) (sgs_cons (sg_name 3 nd) sgs_nil)) (tgsCons_len (tgsCons_len tgsNil_len))))
    (ss_cons (s1_frz 3 (s1_frz 2 (s1_set 4 nd (sx_se (se_ty ty_tuple rfl g_tuple boot_tuple (sa_cons (se_sx (sx_lc (own := [("turn", 5)]) rfl nd (SI.x (si_rg1 rfl g_range (se_var 1))) (blkOk_by (N := N__law_near_samples) (sc := (defScope s__law_near_samples)) (by decide +kernel)) (fun _ _ _ _ _ => (sg_name 5 nd)) (fun _ _ _ _ _ => sc_nil) (fun _ _ _ _ _ => (se_tup (sa_cons (se_sx (sx_fn c__law_draw hg hr (by first | decide | omega) rfl ar__law_draw (sa_cons (se_var 0) (sa_cons (se_var 2) sa_nil)))) (sa_cons (se_sx (sx_fn c__law_draw hg hr (by first | decide | omega) rfl ar__law_draw (sa_cons (se_var 0) (sa_cons (se_var 3) sa_nil)))) sa_nil)))))) sa_nil))))))
    (ss_cons (by first | exact (s1_par 6 7 rfl nd (sl_cons (sx_lst (sa_cons (se_var 4) (sa_cons (se_tup sa_nil) (sa_cons (se_sx (sx_sl (se_var 4) (so_some se_int) so_none)) (sa_cons (se_sx (sx_sl (se_var 4) so_none (so_some (se_neg se_int)))) (sa_cons (se_tupRev rfl rfl g_tuple rfl g_reversed (se_var 4)) (sa_cons (se_sx (sx_mulE (se_sx (sx_sl (se_var 4) so_none (so_some se_int))) se_int)) sa_nil))))))) (sl_cons (sx_se (se_tup (sa_cons se_int (sa_cons se_int sa_nil)))) sl_nil)) rfl) | exact (s1_tt rfl (sl_cons (sx_lst (sa_cons (se_var 4) (sa_cons (se_tup sa_nil) (sa_cons (se_sx (sx_sl (se_var 4) (so_some se_int) so_none)) (sa_cons (se_sx (sx_sl (se_var 4) so_none (so_some (se_neg se_int)))) (sa_cons (se_tupRev rfl rfl g_tuple rfl g_reversed (se_var 4)) (sa_cons (se_sx (sx_mulE (se_sx (sx_sl (se_var 4) so_none (so_some se_int))) se_int)) sa_nil))))))) (sl_cons (sx_se (se_tup (sa_cons se_int (sa_cons se_int sa_nil)))) sl_nil)) (sgs_cons (sg_name 6 nd) (sgs_cons (sg_name 7 nd) sgs_nil)) (tgsCons_len (tgsCons_len tgsNil_len))))
    (ss_cons (s1_if (st_c cr_gt (se_var 1) se_int) (ss_cons (s1_frz 1 (s1_set 8 nd (sx_fn c__law_draw hg hr (by first | decide | omega) rfl ar__law_draw (sa_cons (se_var 0) (sa_cons (se_var 1) sa_nil)))))
    (ss_cons (s1_asg (sx_se (se_ix (se_var 4) (se_var 8))) (sg_tup rfl (sgs_cons (sg_name 9 nd) (sgs_cons (sg_name 10 nd) sgs_nil))))
    (ss_cons (s1_forA FU PassesOwn.never rfl (se_sx (sx_lst (sa_cons (se_tup (sa_cons (se_var 9) (sa_cons (se_mod (se_ty ty_int rfl g_int boot_int (sa_cons (se_sx (sx_add (se_var 10) se_int)) sa_nil)) se_int) sa_nil))) (sa_cons (se_tup (sa_cons (se_mod (se_ty ty_int rfl g_int boot_int (sa_cons (se_sx (sx_add (se_var 9) se_int)) sa_nil)) se_int) (sa_cons (se_var 10) sa_nil))) (sa_cons (se_var 7) (sa_cons (se_tup (sa_cons (se_var 10) (sa_cons (se_var 10) sa_nil))) sa_nil)))))) (sg_name 11 nd) (ss_one (s1_app 6 (se_sx (sx_add (se_sx (sx_add (se_sx (sx_sl (se_var 4) so_none (so_some (se_var 8)))) (se_tup (sa_cons (se_var 11) sa_nil)))) (se_sx (sx_sl (se_var 4) (so_some (se_sx (sx_add (se_var 8) se_int))) so_none)))))))
    (ss_cons (s1_app 6 (se_sx (sx_sl (se_sx (sx_add (se_var 4) (se_sx (sx_sl (se_var 4) (so_some (se_var 8)) (so_some (se_sx (sx_add (se_var 8) se_int))))))) (so_some (se_neg se_int)) so_none)))
    (ss_one (s1_app 6 (se_sx (sx_sl (se_sx (sx_mulE (se_var 4) se_int)) so_none (so_some se_int))))))))) ss_nil)
    (ss_one (s1_ret (sx_add (se_var 6) (se_sx (sx_lst (sa_cons (se_sx (sx_mulE (se_tup (sa_cons (se_var 7) sa_nil)) (se_sx (sx_add se_int (se_sx (sx_fn c__law_draw hg hr (by first | decide | omega) rfl ar__law_draw (sa_cons (se_var 0) (sa_cons se_int sa_nil)))))))) (sa_cons (se_tup (sa_cons (se_tup (sa_cons se_int (sa_cons se_int sa_nil))) sa_nil)) (sa_cons (se_tup (sa_cons (se_tup (sa_cons se_int (sa_cons se_int sa_nil))) (sa_cons (se_tup (sa_cons se_int (sa_cons se_int sa_nil))) sa_nil))) (sa_cons (se_tup (sa_cons (se_tup (sa_cons se_int (sa_cons se_int sa_nil))) (sa_cons (se_tup (sa_cons se_int (sa_cons se_int sa_nil))) sa_nil))) sa_nil))))))))))))))

/-! _law_shelf_line -/
abbrev s__law_shelf_line : Stmt := top 36

abbrev N__law_shelf_line : List Str := ["shelf", "line", "row", "label"]
abbrev p__law_shelf_line : List Str := ["shelf"]

def tm__law_shelf_line : Mn.Tm :=
  (tmSeq (tmAs (xV (eFn gStr (aCons (eIx (eVar 0) (eC (.int 0))) aNil))) (tgN 1))
  (tmSeq (tmForA FU (eIx (eVar 0) (eC (.int 1))) (tgN 2) (tmAs (xOp2 dAdd (eF (xOp2 dAdd (eVar 1) (eC (.str (PySem.Str.ofString " "))))) (eM1 gJoin (eC (.str (PySem.Str.ofString ""))) (eF (xLcA FU [3] (eVar 2) (tgN 3) cYes (eFn gStr (aCons (eVar 3) aNil)))))) (tgN 1)))
  (tmRv 1)))

def fn__law_shelf_line : List Val → MH → Out Sl := fnM 1 4 tm__law_shelf_line

theorem ar__law_shelf_line : ArityN 1 fn__law_shelf_line := fnM_arity

theorem go__law_shelf_line {a0 : Val} {M : MH} {Q : Sl → MH → Prop} (h : Rs (tm__law_shelf_line [some (.v a0), none, none, none] M) Q) : Ok (fn__law_shelf_line [a0] M) Q := Ok_fn (np := 1) (ns := 4) (f := tm__law_shelf_line) (vs := [a0]) rfl h

theorem sc__law_shelf_line : FnScope N__law_shelf_line p__law_shelf_line (defScope s__law_shelf_line) := ⟨rfl, rfl, rfl, by decide +kernel, rfl, by decide +kernel, by decide +kernel⟩

theorem ok__law_shelf_line {P : Program} {w : World} {K : PySem.W.Frag} {mg : Str → Option Value} {base : Heap} {f : Addr} {fd : FuncData} (F : FunD K "_law_shelf_line" "_law_shelf_line" (defArgs s__law_shelf_line) (defBody s__law_shelf_line) (defScope s__law_shelf_line) [] [] f fd) (hm : mg "_law_shelf_line" = some (.ref f)) (g_str : mg "str" = none) : Cal P w K mg base 1 "_law_shelf_line" p__law_shelf_line fn__law_shelf_line := by
  refine cal_of F hm sc__law_shelf_line (FunD.bindsN F fun _ _ _ _ _ _ us hl => match us, hl with | [_], _ => rfl) (kbo_of F fun _ _ _ _ _ _ us hl => match us, hl with | [_], _ => rfl) fun cdv B out s H E hg hr => ?_
  have nd := (sc__law_shelf_line).nd
  unfold tm__law_shelf_line
  exact (ss_cons (s1_set 1 nd (sx_se (se_ty ty_str rfl g_str boot_str (sa_cons (se_ix (se_var 0) se_int) sa_nil))))
    (ss_cons (s1_forA FU PassesOwn.never rfl (se_ix (se_var 0) se_int) (sg_name 2 nd) (ss_one (s1_set 1 nd (sx_add (se_sx (sx_add (se_var 1) se_str)) (se_join se_str (se_sx (sx_lcA FU (own := [("label", 3)]) rfl nd (se_var 2) (blkOk_by (N := N__law_shelf_line) (sc := (defScope s__law_shelf_line)) (by decide +kernel)) (fun _ _ _ _ _ => (sg_name 3 nd)) (fun _ _ _ _ _ => sc_nil) (fun _ _ _ _ _ => (se_ty ty_str rfl g_str boot_str (sa_cons (se_var 3) sa_nil))))))))))
    (ss_one (s1_retV 1))))

/-! _law_sample_line -/
abbrev s__law_sample_line : Stmt := top 37

abbrev N__law_sample_line : List Str := ["sample", "point", "label"]
abbrev p__law_sample_line : List Str := ["sample"]

def tm__law_sample_line : Mn.Tm :=
  (tmRt (xV (eM1 gJoin (eC (.str (PySem.Str.ofString " "))) (eF (xLcA FU [1, 2] (eVar 0) (tgT 2 (tgsCons (tgN 1) (tgsCons (tgN 2) tgsNil))) cYes (eF (xOp2 dAdd (eF (xOp2 dAdd (eFn gStr (aCons (eVar 1) aNil)) (eC (.str (PySem.Str.ofString "="))))) (eFn gStr (aCons (eVar 2) aNil)))))))))

def fn__law_sample_line : List Val → MH → Out Sl := fnM 1 3 tm__law_sample_line

theorem ar__law_sample_line : ArityN 1 fn__law_sample_line := fnM_arity

theorem go__law_sample_line {a0 : Val} {M : MH} {Q : Sl → MH → Prop} (h : Rs (tm__law_sample_line [some (.v a0), none, none] M) Q) : Ok (fn__law_sample_line [a0] M) Q := Ok_fn (np := 1) (ns := 3) (f := tm__law_sample_line) (vs := [a0]) rfl h

theorem sc__law_sample_line : FnScope N__law_sample_line p__law_sample_line (defScope s__law_sample_line) := ⟨rfl, rfl, rfl, by decide +kernel, rfl, by decide +kernel, by decide +kernel⟩

theorem ok__law_sample_line {P : Program} {w : World} {K : PySem.W.Frag} {mg : Str → Option Value} {base : Heap} {f : Addr} {fd : FuncData} (F : FunD K "_law_sample_line" "_law_sample_line" (defArgs s__law_sample_line) (defBody s__law_sample_line) (defScope s__law_sample_line) [] [] f fd) (hm : mg "_law_sample_line" = some (.ref f)) (g_str : mg "str" = none) : Cal P w K mg base 1 "_law_sample_line" p__law_sample_line fn__law_sample_line := by
  refine cal_of F hm sc__law_sample_line (FunD.bindsN F fun _ _ _ _ _ _ us hl => match us, hl with | [_], _ => rfl) (kbo_of F fun _ _ _ _ _ _ us hl => match us, hl with | [_], _ => rfl) fun cdv B out s H E hg hr => ?_
  have nd := (sc__law_sample_line).nd
  unfold tm__law_sample_line
  exact (ss_one (s1_ret (sx_se (se_join se_str (se_sx (sx_lcA FU (own := [("point", 1), ("label", 2)]) rfl nd (se_var 0) (blkOk_by (N := N__law_sample_line) (sc := (defScope s__law_sample_line)) (by decide +kernel)) (fun _ _ _ _ _ => (sg_tup rfl (sgs_cons (sg_name 1 nd) (sgs_cons (sg_name 2 nd) sgs_nil)))) (fun _ _ _ _ _ => sc_nil) (fun _ _ _ _ _ => (se_sx (sx_add (se_sx (sx_add (se_ty ty_str rfl g_str boot_str (sa_cons (se_var 1) sa_nil)) se_str)) (se_ty ty_str rfl g_str boot_str (sa_cons (se_var 2) sa_nil)))))))))))

/-! _law_are_unlike -/
abbrev s__law_are_unlike : Stmt := top 43

abbrev N__law_are_unlike : List Str := ["some", "texts", "k", "one", "i"]
abbrev p__law_are_unlike : List Str := ["some", "texts"]

def tm__law_are_unlike : Mn.Tm :=
  (tmSeq (tmFor (iEn vD (eVar 0)) (tgT 2 (tgsCons (tgN 2) (tgsCons (tgN 3) tgsNil))) (tmFor (iRg (eRg1 (eVar 2))) (tgN 4) (tmIf (toB (eOp2 dNe (eOp2 dEq (eIx (eVar 0) (eVar 4)) (eVar 3)) (eOp2 dEq (eIx (eVar 1) (eVar 4)) (eIx (eVar 1) (eVar 2))))) (tmRt (xV (eC (.bool false)))) tmNil)))
  (tmRt (xV (eC (.bool true)))))

def fn__law_are_unlike : List Val → MH → Out Sl := fnM 2 5 tm__law_are_unlike

theorem ar__law_are_unlike : ArityN 2 fn__law_are_unlike := fnM_arity

theorem go__law_are_unlike {a0 a1 : Val} {M : MH} {Q : Sl → MH → Prop} (h : Rs (tm__law_are_unlike [some (.v a0), some (.v a1), none, none, none] M) Q) : Ok (fn__law_are_unlike [a0, a1] M) Q := Ok_fn (np := 2) (ns := 5) (f := tm__law_are_unlike) (vs := [a0, a1]) rfl h

theorem sc__law_are_unlike : FnScope N__law_are_unlike p__law_are_unlike (defScope s__law_are_unlike) := ⟨rfl, rfl, rfl, by decide +kernel, rfl, by decide +kernel, by decide +kernel⟩

theorem ok__law_are_unlike {P : Program} {w : World} {K : PySem.W.Frag} {mg : Str → Option Value} {base : Heap} {f : Addr} {fd : FuncData} (F : FunD K "_law_are_unlike" "_law_are_unlike" (defArgs s__law_are_unlike) (defBody s__law_are_unlike) (defScope s__law_are_unlike) [] [] f fd) (hm : mg "_law_are_unlike" = some (.ref f)) (g_range : mg "range" = none) (g_enumerate : mg "enumerate" = none) : Cal P w K mg base 1 "_law_are_unlike" p__law_are_unlike fn__law_are_unlike := by
  refine cal_of F hm sc__law_are_unlike (FunD.bindsN F fun _ _ _ _ _ _ us hl => match us, hl with | [_, _], _ => rfl) (kbo_of F fun _ _ _ _ _ _ us hl => match us, hl with | [_, _], _ => rfl) fun cdv B out s H E hg hr => ?_
  have nd := (sc__law_are_unlike).nd
  unfold tm__law_are_unlike
  exact (ss_cons (s1_for PassesOwn.never rfl (si_enum rfl g_enumerate (se_var 0)) (sg_tup rfl (sgs_cons (sg_name 2 nd) (sgs_cons (sg_name 3 nd) sgs_nil))) (ss_one (s1_for PassesOwn.never rfl (si_rg1 rfl g_range (se_var 2)) (sg_name 4 nd) (ss_one (s1_if (st_c (cr_ne hr) (se_c (cr_eq hr) (se_ix (se_var 0) (se_var 4)) (se_var 3)) (se_c (cr_eq hr) (se_ix (se_var 1) (se_var 4)) (se_ix (se_var 1) (se_var 2)))) (ss_one (s1_ret (sx_se se_bl))) ss_nil)))))
    (ss_one (s1_ret (sx_se se_bl))))

/-! _law_is_same -/
abbrev s__law_is_same : Stmt := top 26

abbrev N__law_is_same : List Str := ["due", "told", "is_row", "one", "other"]
abbrev p__law_is_same : List Str := ["due", "told"]

def tm__law_is_same (fn__law_is_same : Nat → List Val → MH → Out Sl) (n : Nat) : Mn.Tm :=
  (tmSeq (tmIf (bTru (eIsI .tuple (eVar 0))) (tmSeq (tmAs (xV (eAnd (eIsI .tuple (eVar 1)) (eOp2 dEq (eFn gLen (aCons (eVar 1) aNil)) (eFn gLen (aCons (eVar 0) aNil))))) (tgN 2))
  (tmRt (xV (eAnd (eVar 2) (eFn gAll (aCons (eF (xLc [3, 4] (iZp vO (eVar 0) (eVar 1)) (tgT 2 (tgsCons (tgN 3) (tgsCons (tgN 4) tgsNil))) cYes (eF (xCall (fn__law_is_same n) (aCons (eVar 3) (aCons (eVar 4) aNil)))))) aNil)))))) tmNil)
  (tmSeq (tmIf (toB (eOp2 dIsN (eVar 0) (eC .none))) (tmRt (xV (eOp2 dIsN (eVar 1) (eC .none)))) tmNil)
  (tmSeq (tmIf (bTru (eIsI .bool (eVar 0))) (tmRt (xV (eAnd (eIsI .bool (eVar 1)) (eOp2 dEq (eVar 1) (eVar 0))))) tmNil)
  (tmSeq (tmIf (bTru (eIsI .str (eVar 0))) (tmRt (xV (eAnd (eIsI .str (eVar 1)) (eOp2 dEq (eVar 1) (eVar 0))))) tmNil)
  (tmRt (xV (eAnd (eIsI .int (eVar 1)) (eAnd (eNot (eIsI .bool (eVar 1))) (eOp2 dEq (eVar 1) (eVar 0))))))))))

def fn__law_is_same : Nat → List Val → MH → Out Sl
  | 0 => fun _ _ => .err
  | n + 1 => fnM 2 5 (tm__law_is_same (fun _ => fn__law_is_same n) n)

theorem ar__law_is_same : ∀ n, ArityN 2 (fn__law_is_same n)
  | 0 => fun _ _ _ => rfl
  | n + 1 => fnM_arity

theorem go__law_is_same {n : Nat} {a0 a1 : Val} {M : MH} {Q : Sl → MH → Prop} (h : Rs (tm__law_is_same (fun _ => fn__law_is_same n) n [some (.v a0), some (.v a1), none, none, none] M) Q) : Ok (fn__law_is_same (n + 1) [a0, a1] M) Q := Ok_fn (np := 2) (ns := 5) (f := tm__law_is_same (fun _ => fn__law_is_same n) n) (vs := [a0, a1]) rfl h

theorem sc__law_is_same : FnScope N__law_is_same p__law_is_same (defScope s__law_is_same) := ⟨rfl, rfl, rfl, by decide +kernel, rfl, by decide +kernel, by decide +kernel⟩

theorem ok__law_is_same {P : Program} {w : World} {K : PySem.W.Frag} {mg : Str → Option Value} {base : Heap} {f : Addr} {fd : FuncData} (F : FunD K "_law_is_same" "_law_is_same" (defArgs s__law_is_same) (defBody s__law_is_same) (defScope s__law_is_same) [] [] f fd) (hm : mg "_law_is_same" = some (.ref f)) (g_isinstance : mg "isinstance" = none) (g_tuple : mg "tuple" = none) (g_len : mg "len" = none) (g_zip : mg "zip" = none) (g_all : mg "all" = none) (g_bool : mg "bool" = none) (g_str : mg "str" = none) (g_int : mg "int" = none) : ∀ n, Cal P w K mg base (1 + n) "_law_is_same" p__law_is_same (fn__law_is_same n)
  | 0 => cal_zero F hm (FunD.bindsN F fun _ _ _ _ _ _ us hl => match us, hl with | [_, _], _ => rfl) (kbo_of F fun _ _ _ _ _ _ us hl => match us, hl with | [_, _], _ => rfl)
  | n + 1 => by
    have c__law_is_same : Cal P w K mg base (1 + n) "_law_is_same" p__law_is_same (fn__law_is_same n) := ok__law_is_same F hm g_isinstance g_tuple g_len g_zip g_all g_bool g_str g_int n
    refine cal_of F hm sc__law_is_same (FunD.bindsN F fun _ _ _ _ _ _ us hl => match us, hl with | [_, _], _ => rfl) (kbo_of F fun _ _ _ _ _ _ us hl => match us, hl with | [_, _], _ => rfl) fun cdv B out s H E hg hr => ?_
    have nd := (sc__law_is_same).nd
    have hr : Room (1 + n) _ := hr
    unfold tm__law_is_same
    exact (ss_cons (s1_if (st_truth (se_isi .tuple (se_var 0) rfl g_isinstance rfl g_tuple boot_tuple)) (ss_cons (s1_set 2 nd (sx_se (se_and (se_isi .tuple (se_var 1) rfl g_isinstance rfl g_tuple boot_tuple) (se_one (se_c (cr_eq hr) (se_bi bi_len rfl g_len boot_len (sa_cons (se_var 1) sa_nil)) (se_bi bi_len rfl g_len boot_len (sa_cons (se_var 0) sa_nil)))))))
    (ss_one (s1_ret (sx_se (se_and (se_var 2) (se_one (se_bi (bi_all rfl) rfl g_all boot_all (sa_cons (se_sx (sx_lc (own := [("one", 3), ("other", 4)]) rfl nd (six_zip rfl g_zip (se_var 0) (se_var 1)) (blkOk_by (N := N__law_is_same) (sc := (defScope s__law_is_same)) (by decide +kernel)) (fun _ _ _ _ _ => (sg_tup rfl (sgs_cons (sg_name 3 nd) (sgs_cons (sg_name 4 nd) sgs_nil)))) (fun _ _ _ _ _ => sc_nil) (fun _ _ _ _ _ => (se_sx (sx_fn c__law_is_same hg hr (by omega) rfl (ar__law_is_same _) (sa_cons (se_var 3) (sa_cons (se_var 4) sa_nil))))))) sa_nil)))))))) ss_nil)
    (ss_cons (s1_if (st_c cr_is (se_var 0) se_non) (ss_one (s1_ret (sx_se (se_c cr_is (se_var 1) se_non)))) ss_nil)
    (ss_cons (s1_if (st_truth (se_isi .bool (se_var 0) rfl g_isinstance rfl g_bool boot_bool)) (ss_one (s1_ret (sx_se (se_and (se_isi .bool (se_var 1) rfl g_isinstance rfl g_bool boot_bool) (se_one (se_c (cr_eq hr) (se_var 1) (se_var 0))))))) ss_nil)
    (ss_cons (s1_if (st_truth (se_isi .str (se_var 0) rfl g_isinstance rfl g_str boot_str)) (ss_one (s1_ret (sx_se (se_and (se_isi .str (se_var 1) rfl g_isinstance rfl g_str boot_str) (se_one (se_c (cr_eq hr) (se_var 1) (se_var 0))))))) ss_nil)
    (ss_one (s1_ret (sx_se (se_and (se_isi .int (se_var 1) rfl g_isinstance rfl g_int boot_int) (se_and (se_not (se_isi .bool (se_var 1) rfl g_isinstance rfl g_bool boot_bool)) (se_one (se_c (cr_eq hr) (se_var 1) (se_var 0))))))))))))

/-! is_tuple -/
abbrev s_is_tuple : Stmt := top 10

abbrev N_is_tuple : List Str := ["value", "size"]
abbrev p_is_tuple : List Str := ["value", "size"]

def tm_is_tuple : Mn.Tm :=
  (tmRt (xV (eAnd (eIsI .tuple (eVar 0)) (eOp2 dEq (eFn gLen (aCons (eVar 0) aNil)) (eVar 1)))))

def fn_is_tuple : List Val → MH → Out Sl := fnM 2 2 tm_is_tuple

theorem ar_is_tuple : ArityN 2 fn_is_tuple := fnM_arity

theorem go_is_tuple {a0 a1 : Val} {M : MH} {Q : Sl → MH → Prop} (h : Rs (tm_is_tuple [some (.v a0), some (.v a1)] M) Q) : Ok (fn_is_tuple [a0, a1] M) Q := Ok_fn (np := 2) (ns := 2) (f := tm_is_tuple) (vs := [a0, a1]) rfl h

theorem sc_is_tuple : FnScope N_is_tuple p_is_tuple (defScope s_is_tuple) := ⟨rfl, rfl, rfl, by decide +kernel, rfl, by decide +kernel, by decide +kernel⟩

theorem ok_is_tuple {P : Program} {w : World} {K : PySem.W.Frag} {mg : Str → Option Value} {base : Heap} {f : Addr} {fd : FuncData} (F : FunD K "is_tuple" "is_tuple" (defArgs s_is_tuple) (defBody s_is_tuple) (defScope s_is_tuple) [] [] f fd) (hm : mg "is_tuple" = some (.ref f)) (g_isinstance : mg "isinstance" = none) (g_tuple : mg "tuple" = none) (g_len : mg "len" = none) : Cal P w K mg base 1 "is_tuple" p_is_tuple fn_is_tuple := by
  refine cal_of F hm sc_is_tuple (FunD.bindsN F fun _ _ _ _ _ _ us hl => match us, hl with | [_, _], _ => rfl) (kbo_of F fun _ _ _ _ _ _ us hl => match us, hl with | [_, _], _ => rfl) fun cdv B out s H E hg hr => ?_
  have nd := (sc_is_tuple).nd
  unfold tm_is_tuple
  exact (ss_one (s1_ret (sx_se (se_and (se_isi .tuple (se_var 0) rfl g_isinstance rfl g_tuple boot_tuple) (se_one (se_c (cr_eq hr) (se_bi bi_len rfl g_len boot_len (sa_cons (se_var 0) sa_nil)) (se_var 1)))))))

/-! is_integer -/
abbrev s_is_integer : Stmt := top 9

abbrev N_is_integer : List Str := ["value"]
abbrev p_is_integer : List Str := ["value"]

def tm_is_integer : Mn.Tm :=
  (tmRt (xV (eAnd (eIsI .int (eVar 0)) (eNot (eIsI .bool (eVar 0))))))

def fn_is_integer : List Val → MH → Out Sl := fnM 1 1 tm_is_integer

theorem ar_is_integer : ArityN 1 fn_is_integer := fnM_arity

theorem go_is_integer {a0 : Val} {M : MH} {Q : Sl → MH → Prop} (h : Rs (tm_is_integer [some (.v a0)] M) Q) : Ok (fn_is_integer [a0] M) Q := Ok_fn (np := 1) (ns := 1) (f := tm_is_integer) (vs := [a0]) rfl h

theorem sc_is_integer : FnScope N_is_integer p_is_integer (defScope s_is_integer) := ⟨rfl, rfl, rfl, by decide +kernel, rfl, by decide +kernel, by decide +kernel⟩

theorem ok_is_integer {P : Program} {w : World} {K : PySem.W.Frag} {mg : Str → Option Value} {base : Heap} {f : Addr} {fd : FuncData} (F : FunD K "is_integer" "is_integer" (defArgs s_is_integer) (defBody s_is_integer) (defScope s_is_integer) [] [] f fd) (hm : mg "is_integer" = some (.ref f)) (g_isinstance : mg "isinstance" = none) (g_int : mg "int" = none) (g_bool : mg "bool" = none) : Cal P w K mg base 1 "is_integer" p_is_integer fn_is_integer := by
  refine cal_of F hm sc_is_integer (FunD.bindsN F fun _ _ _ _ _ _ us hl => match us, hl with | [_], _ => rfl) (kbo_of F fun _ _ _ _ _ _ us hl => match us, hl with | [_], _ => rfl) fun cdv B out s H E hg hr => ?_
  have nd := (sc_is_integer).nd
  unfold tm_is_integer
  exact (ss_one (s1_ret (sx_se (se_and (se_isi .int (se_var 0) rfl g_isinstance rfl g_int boot_int) (se_one (se_not (se_isi .bool (se_var 0) rfl g_isinstance rfl g_bool boot_bool)))))))

/-! is_whole -/
abbrev s_is_whole : Stmt := top 8

abbrev N_is_whole : List Str := ["value", "low", "high"]
abbrev p_is_whole : List Str := ["value", "low", "high"]

def tm_is_whole : Mn.Tm :=
  (tmRt (xV (eAnd (eF (xCall fn_is_integer (aCons (eVar 0) aNil))) (eAnd (eOp2 dLe (eVar 1) (eVar 0)) (eOr (eOp2 dIsN (eVar 2) (eC .none)) (eOp2 dLe (eVar 0) (eVar 2)))))))

def fn_is_whole : List Val → MH → Out Sl := fnM 3 3 tm_is_whole

theorem ar_is_whole : ArityN 3 fn_is_whole := fnM_arity

theorem go_is_whole {a0 a1 a2 : Val} {M : MH} {Q : Sl → MH → Prop} (h : Rs (tm_is_whole [some (.v a0), some (.v a1), some (.v a2)] M) Q) : Ok (fn_is_whole [a0, a1, a2] M) Q := Ok_fn (np := 3) (ns := 3) (f := tm_is_whole) (vs := [a0, a1, a2]) rfl h

theorem sc_is_whole : FnScope N_is_whole p_is_whole (defScope s_is_whole) := ⟨rfl, rfl, rfl, by decide +kernel, rfl, by decide +kernel, by decide +kernel⟩

theorem ok_is_whole {P : Program} {w : World} {K : PySem.W.Frag} {mg : Str → Option Value} {base : Heap} {f : Addr} {fd : FuncData} (F : FunD K "is_whole" "is_whole" (defArgs s_is_whole) (defBody s_is_whole) (defScope s_is_whole) [] [] f fd) (hm : mg "is_whole" = some (.ref f)) (c_is_integer : Cal P w K mg base 1 "is_integer" p_is_integer fn_is_integer) : Cal P w K mg base 2 "is_whole" p_is_whole fn_is_whole := by
  refine cal_of F hm sc_is_whole (FunD.bindsN F fun _ _ _ _ _ _ us hl => match us, hl with | [_, _, _], _ => rfl) (kbo_of F fun _ _ _ _ _ _ us hl => match us, hl with | [_, _, _], _ => rfl) fun cdv B out s H E hg hr => ?_
  have nd := (sc_is_whole).nd
  unfold tm_is_whole
  exact (ss_one (s1_ret (sx_se (se_and (se_sx (sx_fn c_is_integer hg hr (by first | decide | omega) rfl ar_is_integer (sa_cons (se_var 0) sa_nil))) (se_and (se_c cr_le (se_var 1) (se_var 0)) (se_one (se_or (se_c cr_is (se_var 2) se_non) (se_one (se_c cr_le (se_var 0) (se_var 2))))))))))

/-! is_row_of -/
abbrev s_is_row_of : Stmt := top 12

abbrev N_is_row_of : List Str := ["kinds", "size", "value", "label"]
abbrev p_is_row_of : List Str := ["kinds", "size", "value"]

def tm_is_row_of : Mn.Tm :=
  (tmRt (xV (eAnd (eF (xCall fn_is_tuple (aCons (eVar 2) (aCons (eVar 1) aNil)))) (eFn gAll (aCons (eF (xLcA FU [3] (eVar 2) (tgN 3) cYes (eF (xCall fn_is_whole (aCons (eVar 3) (aCons (eC (.int 0)) (aCons (eOp2 dSub (eVar 0) (eC (.int 1))) aNil))))))) aNil)))))

def fn_is_row_of : List Val → MH → Out Sl := fnM 3 4 tm_is_row_of

theorem ar_is_row_of : ArityN 3 fn_is_row_of := fnM_arity

theorem go_is_row_of {a0 a1 a2 : Val} {M : MH} {Q : Sl → MH → Prop} (h : Rs (tm_is_row_of [some (.v a0), some (.v a1), some (.v a2), none] M) Q) : Ok (fn_is_row_of [a0, a1, a2] M) Q := Ok_fn (np := 3) (ns := 4) (f := tm_is_row_of) (vs := [a0, a1, a2]) rfl h

theorem sc_is_row_of : FnScope N_is_row_of p_is_row_of (defScope s_is_row_of) := ⟨rfl, rfl, rfl, by decide +kernel, rfl, by decide +kernel, by decide +kernel⟩

theorem ok_is_row_of {P : Program} {w : World} {K : PySem.W.Frag} {mg : Str → Option Value} {base : Heap} {f : Addr} {fd : FuncData} (F : FunD K "is_row_of" "is_row_of" (defArgs s_is_row_of) (defBody s_is_row_of) (defScope s_is_row_of) [] [] f fd) (hm : mg "is_row_of" = some (.ref f)) (c_is_tuple : Cal P w K mg base 1 "is_tuple" p_is_tuple fn_is_tuple) (c_is_whole : Cal P w K mg base 2 "is_whole" p_is_whole fn_is_whole) (g_all : mg "all" = none) : Cal P w K mg base 3 "is_row_of" p_is_row_of fn_is_row_of := by
  refine cal_of F hm sc_is_row_of (FunD.bindsN F fun _ _ _ _ _ _ us hl => match us, hl with | [_, _, _], _ => rfl) (kbo_of F fun _ _ _ _ _ _ us hl => match us, hl with | [_, _, _], _ => rfl) fun cdv B out s H E hg hr => ?_
  have nd := (sc_is_row_of).nd
  unfold tm_is_row_of
  exact (ss_one (s1_ret (sx_se (se_and (se_sx (sx_fn c_is_tuple hg hr (by first | decide | omega) rfl ar_is_tuple (sa_cons (se_var 2) (sa_cons (se_var 1) sa_nil)))) (se_one (se_bi (bi_all rfl) rfl g_all boot_all (sa_cons (se_sx (sx_lcA FU (own := [("label", 3)]) rfl nd (se_var 2) (blkOk_by (N := N_is_row_of) (sc := (defScope s_is_row_of)) (by decide +kernel)) (fun _ _ _ _ _ => (sg_name 3 nd)) (fun _ _ _ _ _ => sc_nil) (fun _ _ _ _ _ => (se_sx (sx_fn c_is_whole hg hr (by first | decide | omega) rfl ar_is_whole (sa_cons (se_var 3) (sa_cons se_int (sa_cons (se_sub (se_var 0) se_int) sa_nil)))))))) sa_nil)))))))

/-! shelf_error -/
abbrev s_shelf_error : Stmt := top 13

abbrev N_shelf_error : List Str := ["value", "kinds", "rows", "size", "place", "row"]
abbrev p_shelf_error : List Str := ["value"]

def tm_shelf_error : Mn.Tm :=
  (tmSeq (tmIf (bOr (bNot (bTru (eF (xCall fn_is_tuple (aCons (eVar 0) (aCons (eC (.int 2)) aNil)))))) (bOr (bNot (bTru (eF (xCall fn_is_whole (aCons (eIx (eVar 0) (eC (.int 0))) (aCons (eC (.int 2)) (aCons (eC (.int 3)) aNil))))))) (bNot (bTru (eIsI .tuple (eIx (eVar 0) (eC (.int 1)))))))) (tmRt (xV (eC (.str (PySem.Str.ofString "form"))))) tmNil)
  (tmSeq (tmAs (xV (eVar 0)) (tgT 2 (tgsCons (tgN 1) (tgsCons (tgN 2) tgsNil))))
  (tmSeq (tmIf (bNot (toB (eChain dLe dLe (eC (.int 1)) (eFn gLen (aCons (eVar 2) aNil)) (eC (.int 32))))) (tmRt (xV (eC (.str (PySem.Str.ofString "rows"))))) tmNil)
  (tmSeq (tmAs (xV (eIf (bTru (eIsI .tuple (eIx (eVar 2) (eC (.int 0))))) (eFn gLen (aCons (eIx (eVar 2) (eC (.int 0))) aNil)) (eC (.int 0)))) (tgN 3))
  (tmSeq (tmFor (iEn vD (eVar 2)) (tgT 2 (tgsCons (tgN 4) (tgsCons (tgN 5) tgsNil))) (tmIf (bOr (bNot (toB (eChain dLe dLe (eC (.int 1)) (eVar 3) (eC (.int 6))))) (bNot (bTru (eF (xCall fn_is_row_of (aCons (eVar 1) (aCons (eVar 3) (aCons (eVar 5) aNil)))))))) (tmRt (xV (eTup (aCons (eC (.str (PySem.Str.ofString "row"))) (aCons (eVar 4) aNil))))) tmNil))
  (tmSeq (tmFor (iRg (eRg2 (eC (.int 1)) (eFn gLen (aCons (eVar 2) aNil)))) (tgN 4) (tmIf (toB (eOp2 dLeT (eIx (eVar 2) (eVar 4)) (eIx (eVar 2) (eOp2 dSub (eVar 4) (eC (.int 1)))))) (tmRt (xV (eTup (aCons (eC (.str (PySem.Str.ofString "order"))) (aCons (eVar 4) aNil))))) tmNil))
  (tmRt (xV (eC .none)))))))))

def fn_shelf_error : List Val → MH → Out Sl := fnM 1 6 tm_shelf_error

theorem ar_shelf_error : ArityN 1 fn_shelf_error := fnM_arity

theorem go_shelf_error {a0 : Val} {M : MH} {Q : Sl → MH → Prop} (h : Rs (tm_shelf_error [some (.v a0), none, none, none, none, none] M) Q) : Ok (fn_shelf_error [a0] M) Q := Ok_fn (np := 1) (ns := 6) (f := tm_shelf_error) (vs := [a0]) rfl h

theorem sc_shelf_error : FnScope N_shelf_error p_shelf_error (defScope s_shelf_error) := ⟨rfl, rfl, rfl, by decide +kernel, rfl, by decide +kernel, by decide +kernel⟩

theorem ok_shelf_error {P : Program} {w : World} {K : PySem.W.Frag} {mg : Str → Option Value} {base : Heap} {f : Addr} {fd : FuncData} (F : FunD K "shelf_error" "shelf_error" (defArgs s_shelf_error) (defBody s_shelf_error) (defScope s_shelf_error) [] [] f fd) (hm : mg "shelf_error" = some (.ref f)) (c_is_tuple : Cal P w K mg base 1 "is_tuple" p_is_tuple fn_is_tuple) (c_is_whole : Cal P w K mg base 2 "is_whole" p_is_whole fn_is_whole) (c_is_row_of : Cal P w K mg base 3 "is_row_of" p_is_row_of fn_is_row_of) {t_MAX_ROWS : Tok} (i_MAX_ROWS : mg "MAX_ROWS" = some (.int 32 t_MAX_ROWS)) {t_MAX_POINTS : Tok} (i_MAX_POINTS : mg "MAX_POINTS" = some (.int 6 t_MAX_POINTS)) (g_isinstance : mg "isinstance" = none) (g_tuple : mg "tuple" = none) (g_len : mg "len" = none) (g_enumerate : mg "enumerate" = none) (g_range : mg "range" = none) : Cal P w K mg base 4 "shelf_error" p_shelf_error fn_shelf_error := by
  refine cal_of F hm sc_shelf_error (FunD.bindsN F fun _ _ _ _ _ _ us hl => match us, hl with | [_], _ => rfl) (kbo_of F fun _ _ _ _ _ _ us hl => match us, hl with | [_], _ => rfl) fun cdv B out s H E hg hr => ?_
  have nd := (sc_shelf_error).nd
  unfold tm_shelf_error
  exact (ss_cons (s1_if (st_sw (sw_or (st_not (st_truth (se_sx (sx_fn c_is_tuple hg hr (by first | decide | omega) rfl ar_is_tuple (sa_cons (se_var 0) (sa_cons se_int sa_nil)))))) (sw_or (st_not (st_truth (se_sx (sx_fn c_is_whole hg hr (by first | decide | omega) rfl ar_is_whole (sa_cons (se_ix (se_var 0) se_int) (sa_cons se_int (sa_cons se_int sa_nil))))))) (sw_or1 (st_not (st_truth (se_isi .tuple (se_ix (se_var 0) se_int) rfl g_isinstance rfl g_tuple boot_tuple))))))) (ss_one (s1_ret (sx_se se_str))) ss_nil)
    (ss_cons (s1_asg (sx_se (se_var 0)) (sg_tup rfl (sgs_cons (sg_name 1 nd) (sgs_cons (sg_name 2 nd) sgs_nil))))
    (ss_cons (s1_if (st_not (st_cc cr_le cr_le se_int (se_bi bi_len rfl g_len boot_len (sa_cons (se_var 2) sa_nil)) (se_globI rfl i_MAX_ROWS))) (ss_one (s1_ret (sx_se se_str))) ss_nil)
    (ss_cons (s1_set 3 nd (sx_se (se_if (st_truth (se_isi .tuple (se_ix (se_var 2) se_int) rfl g_isinstance rfl g_tuple boot_tuple)) (se_bi bi_len rfl g_len boot_len (sa_cons (se_ix (se_var 2) se_int) sa_nil)) se_int)))
    (ss_cons (s1_for PassesOwn.never rfl (si_enum rfl g_enumerate (se_var 2)) (sg_tup rfl (sgs_cons (sg_name 4 nd) (sgs_cons (sg_name 5 nd) sgs_nil))) (ss_one (s1_if (st_sw (sw_or (st_not (st_cc cr_le cr_le se_int (se_var 3) (se_globI rfl i_MAX_POINTS))) (sw_or1 (st_not (st_truth (se_sx (sx_fn c_is_row_of hg hr (by first | decide | omega) rfl ar_is_row_of (sa_cons (se_var 1) (sa_cons (se_var 3) (sa_cons (se_var 5) sa_nil)))))))))) (ss_one (s1_ret (sx_se (se_tup (sa_cons se_str (sa_cons (se_var 4) sa_nil)))))) ss_nil)))
    (ss_cons (s1_for PassesOwn.never rfl (si_rg2 rfl g_range se_int (se_bi bi_len rfl g_len boot_len (sa_cons (se_var 2) sa_nil))) (sg_name 4 nd) (ss_one (s1_if (st_c (cr_leT hr) (se_ix (se_var 2) (se_var 4)) (se_ix (se_var 2) (se_sub (se_var 4) se_int))) (ss_one (s1_ret (sx_se (se_tup (sa_cons se_str (sa_cons (se_var 4) sa_nil)))))) ss_nil)))
    (ss_one (s1_ret (sx_se se_non)))))))))

/-! is_line_of -/
abbrev s_is_line_of : Stmt := top 17

abbrev N_is_line_of : List Str := ["piece", "kinds", "sign"]
abbrev p_is_line_of : List Str := ["piece", "kinds"]

def tm_is_line_of : Mn.Tm :=
  (tmRt (xV (eAnd (eChain dLe dLe (eC (.int 1)) (eFn gLen (aCons (eVar 0) aNil)) (eC (.int 6))) (eFn gAll (aCons (eF (xLc [2] (iCh (eVar 0)) (tgN 2) cYes (eOp2 dIn (eVar 2) (eF (xSl (eC (.str (PySem.Str.ofString "012345"))) oNone (oSome (eVar 1))))))) aNil)))))

def fn_is_line_of : List Val → MH → Out Sl := fnM 2 3 tm_is_line_of

theorem ar_is_line_of : ArityN 2 fn_is_line_of := fnM_arity

theorem go_is_line_of {a0 a1 : Val} {M : MH} {Q : Sl → MH → Prop} (h : Rs (tm_is_line_of [some (.v a0), some (.v a1), none] M) Q) : Ok (fn_is_line_of [a0, a1] M) Q := Ok_fn (np := 2) (ns := 3) (f := tm_is_line_of) (vs := [a0, a1]) rfl h

theorem sc_is_line_of : FnScope N_is_line_of p_is_line_of (defScope s_is_line_of) := ⟨rfl, rfl, rfl, by decide +kernel, rfl, by decide +kernel, by decide +kernel⟩

theorem ok_is_line_of {P : Program} {w : World} {K : PySem.W.Frag} {mg : Str → Option Value} {base : Heap} {f : Addr} {fd : FuncData} (F : FunD K "is_line_of" "is_line_of" (defArgs s_is_line_of) (defBody s_is_line_of) (defScope s_is_line_of) [] [] f fd) (hm : mg "is_line_of" = some (.ref f)) {t_MAX_POINTS : Tok} (i_MAX_POINTS : mg "MAX_POINTS" = some (.int 6 t_MAX_POINTS)) {t_FIGURES : Tok} (i_FIGURES : mg "FIGURES" = some (.str (PySem.Str.ofString "012345") t_FIGURES)) (g_len : mg "len" = none) (g_all : mg "all" = none) : Cal P w K mg base 1 "is_line_of" p_is_line_of fn_is_line_of := by
  refine cal_of F hm sc_is_line_of (FunD.bindsN F fun _ _ _ _ _ _ us hl => match us, hl with | [_, _], _ => rfl) (kbo_of F fun _ _ _ _ _ _ us hl => match us, hl with | [_, _], _ => rfl) fun cdv B out s H E hg hr => ?_
  have nd := (sc_is_line_of).nd
  unfold tm_is_line_of
  exact (ss_one (s1_ret (sx_se (se_and (se_cc cr_le cr_le se_int (se_bi bi_len rfl g_len boot_len (sa_cons (se_var 0) sa_nil)) (se_globI rfl i_MAX_POINTS)) (se_one (se_bi (bi_all rfl) rfl g_all boot_all (sa_cons (se_sx (sx_lc (own := [("sign", 2)]) rfl nd (SI.x (si_str (se_var 0))) (blkOk_by (N := N_is_line_of) (sc := (defScope s_is_line_of)) (by decide +kernel)) (fun _ _ _ _ _ => (sg_name 2 nd)) (fun _ _ _ _ _ => sc_nil) (fun _ _ _ _ _ => (se_c (cr_in hr) (se_var 2) (se_sx (sx_sl (se_globS rfl i_FIGURES) so_none (so_some (se_var 1)))))))) sa_nil)))))))

/-! read_shelf -/
abbrev s_read_shelf : Stmt := top 18

abbrev N_read_shelf : List Str := ["value", "pieces", "kinds", "rows", "place", "piece", "sign", "shelf", "error"]
abbrev p_read_shelf : List Str := ["value"]

def tm_read_shelf : Mn.Tm :=
  (tmSeq (tmAs (eIf (bTru (eIsI .str (eVar 0))) (xSplit (eVar 0) (eC (.str (PySem.Str.ofString " ")))) (xLst (aCons (eC (.str (PySem.Str.ofString ""))) aNil))) (tgN 1))
  (tmSeq (tmIf (toB (eOp2 dNotIn (eIx (eVar 1) (eC (.int 0))) (eTup (aCons (eC (.str (PySem.Str.ofString "2"))) (aCons (eC (.str (PySem.Str.ofString "3"))) aNil))))) tmNo tmNil)
  (tmSeq (tmIf (toB (eOp2 dEq (eFn gLen (aCons (eVar 1) aNil)) (eC (.int 1)))) tmNo tmNil)
  (tmSeq (tmPs (xCons (xV (eFn gIntS (aCons (eIx (eVar 1) (eC (.int 0))) aNil))) (xCons (xLst aNil) xNil)) (tgsCons (tgN 2) (tgsCons (tgN 3) tgsNil)))
  (tmSeq (tmFor (iEn vD (eF (xSl (eVar 1) (oSome (eC (.int 1))) oNone))) (tgT 2 (tgsCons (tgN 4) (tgsCons (tgN 5) tgsNil))) (tmSeq (tmIf (bOr (toB (eOp2 dEq (eVar 4) (eC (.int 32)))) (bNot (bTru (eF (xCall fn_is_line_of (aCons (eVar 5) (aCons (eVar 2) aNil))))))) tmNo tmNil)
  (tmApp 3 (eFn gTuple (aCons (eF (xLc [6] (iCh (eVar 5)) (tgN 6) cYes (eFn gIntS (aCons (eVar 6) aNil)))) aNil)))))
  (tmSeq (tmAs (xV (eTup (aCons (eVar 2) (aCons (eFn gTuple (aCons (eVar 3) aNil)) aNil)))) (tgN 7))
  (tmSeq (tmAs (xCall fn_shelf_error (aCons (eVar 7) aNil)) (tgN 8))
  (tmSeq (tmIf (toB (eOp2 dNotN (eVar 8) (eC .none))) tmNo tmNil)
  (tmRv 7)))))))))

def fn_read_shelf : List Val → MH → Out Sl := fnM 1 9 tm_read_shelf

theorem ar_read_shelf : ArityN 1 fn_read_shelf := fnM_arity

theorem go_read_shelf {a0 : Val} {M : MH} {Q : Sl → MH → Prop} (h : Rs (tm_read_shelf [some (.v a0), none, none, none, none, none, none, none, none] M) Q) : Ok (fn_read_shelf [a0] M) Q := Ok_fn (np := 1) (ns := 9) (f := tm_read_shelf) (vs := [a0]) rfl h

theorem sc_read_shelf : FnScope N_read_shelf p_read_shelf (defScope s_read_shelf) := ⟨rfl, rfl, rfl, by decide +kernel, rfl, by decide +kernel, by decide +kernel⟩

theorem ok_read_shelf {P : Program} {w : World} {K : PySem.W.Frag} {mg : Str → Option Value} {base : Heap} {f : Addr} {fd : FuncData} (F : FunD K "read_shelf" "read_shelf" (defArgs s_read_shelf) (defBody s_read_shelf) (defScope s_read_shelf) [] [] f fd) (hm : mg "read_shelf" = some (.ref f)) (c_is_line_of : Cal P w K mg base 1 "is_line_of" p_is_line_of fn_is_line_of) (c_shelf_error : Cal P w K mg base 4 "shelf_error" p_shelf_error fn_shelf_error) {t_MAX_ROWS : Tok} (i_MAX_ROWS : mg "MAX_ROWS" = some (.int 32 t_MAX_ROWS)) (g_isinstance : mg "isinstance" = none) (g_str : mg "str" = none) (g_len : mg "len" = none) (g_int : mg "int" = none) (g_tuple : mg "tuple" = none) (g_enumerate : mg "enumerate" = none) : Cal P w K mg base 5 "read_shelf" p_read_shelf fn_read_shelf := by
  refine cal_of F hm sc_read_shelf (FunD.bindsN F fun _ _ _ _ _ _ us hl => match us, hl with | [_], _ => rfl) (kbo_of F fun _ _ _ _ _ _ us hl => match us, hl with | [_], _ => rfl) fun cdv B out s H E hg hr => ?_
  have nd := (sc_read_shelf).nd
  unfold tm_read_shelf
  exact (ss_cons (s1_set 1 nd (sx_if (st_truth (se_isi .str (se_var 0) rfl g_isinstance rfl g_str boot_str)) (sx_split (se_var 0) se_str) (sx_lst (sa_cons se_str sa_nil))))
    (ss_cons (s1_if (st_c (cr_notIn hr) (se_ix (se_var 1) se_int) (se_tup (sa_cons se_str (sa_cons se_str sa_nil)))) (ss_one s1_no) ss_nil)
    (ss_cons (s1_if (st_c (cr_eq hr) (se_bi bi_len rfl g_len boot_len (sa_cons (se_var 1) sa_nil)) se_int) (ss_one s1_no) ss_nil)
    (ss_cons (by first | exact (s1_par 2 3 rfl nd (sl_cons (sx_se (se_ty ty_intS rfl g_int boot_int (sa_cons (se_ix (se_var 1) se_int) sa_nil))) (sl_cons (sx_lst sa_nil) sl_nil)) rfl) | exact (s1_tt rfl (sl_cons (sx_se (se_ty ty_intS rfl g_int boot_int (sa_cons (se_ix (se_var 1) se_int) sa_nil))) (sl_cons (sx_lst sa_nil) sl_nil)) (sgs_cons (sg_name 2 nd) (sgs_cons (sg_name 3 nd) sgs_nil)) (tgsCons_len (tgsCons_len tgsNil_len))))
    (ss_cons (s1_for PassesOwn.never rfl (si_enum rfl g_enumerate (se_sx (sx_sl (se_var 1) (so_some se_int) so_none))) (sg_tup rfl (sgs_cons (sg_name 4 nd) (sgs_cons (sg_name 5 nd) sgs_nil))) (ss_cons (s1_if (st_sw (sw_or (st_c (cr_eq hr) (se_var 4) (se_globI rfl i_MAX_ROWS)) (sw_or1 (st_not (st_truth (se_sx (sx_fn c_is_line_of hg hr (by first | decide | omega) rfl ar_is_line_of (sa_cons (se_var 5) (sa_cons (se_var 2) sa_nil))))))))) (ss_one s1_no) ss_nil)
    (ss_one (s1_app 3 (se_ty ty_tuple rfl g_tuple boot_tuple (sa_cons (se_sx (sx_lc (own := [("sign", 6)]) rfl nd (SI.x (si_str (se_var 5))) (blkOk_by (N := N_read_shelf) (sc := (defScope s_read_shelf)) (by decide +kernel)) (fun _ _ _ _ _ => (sg_name 6 nd)) (fun _ _ _ _ _ => sc_nil) (fun _ _ _ _ _ => (se_ty ty_intS rfl g_int boot_int (sa_cons (se_var 6) sa_nil))))) sa_nil))))))
    (ss_cons (s1_set 7 nd (sx_se (se_tup (sa_cons (se_var 2) (sa_cons (se_ty ty_tuple rfl g_tuple boot_tuple (sa_cons (se_var 3) sa_nil)) sa_nil)))))
    (ss_cons (s1_set 8 nd (sx_fn c_shelf_error hg hr (by first | decide | omega) rfl ar_shelf_error (sa_cons (se_var 7) sa_nil)))
    (ss_cons (s1_if (st_c cr_isnot (se_var 8) se_non) (ss_one s1_no) ss_nil)
    (ss_one (s1_retV 7))))))))))

/-! shelf_text -/
abbrev s_shelf_text : Stmt := top 16

abbrev N_shelf_text : List Str := ["shelf", "label", "row"]
abbrev p_shelf_text : List Str := ["shelf"]

def tm_shelf_text : Mn.Tm :=
  (tmRt (xV (eM1 gJoin (eC (.str (PySem.Str.ofString " "))) (eF (xOp2 dAdd (eF (xLst (aCons (eFn gStr (aCons (eIx (eVar 0) (eC (.int 0))) aNil)) aNil))) (eF (xLcA FU [2] (eIx (eVar 0) (eC (.int 1))) (tgN 2) cYes (eM1 gJoin (eC (.str (PySem.Str.ofString ""))) (eF (xLcA FU [1] (eVar 2) (tgN 1) cYes (eFn gStr (aCons (eVar 1) aNil))))))))))))

def fn_shelf_text : List Val → MH → Out Sl := fnM 1 3 tm_shelf_text

theorem ar_shelf_text : ArityN 1 fn_shelf_text := fnM_arity

theorem go_shelf_text {a0 : Val} {M : MH} {Q : Sl → MH → Prop} (h : Rs (tm_shelf_text [some (.v a0), none, none] M) Q) : Ok (fn_shelf_text [a0] M) Q := Ok_fn (np := 1) (ns := 3) (f := tm_shelf_text) (vs := [a0]) rfl h

theorem sc_shelf_text : FnScope N_shelf_text p_shelf_text (defScope s_shelf_text) := ⟨rfl, rfl, rfl, by decide +kernel, rfl, by decide +kernel, by decide +kernel⟩

theorem ok_shelf_text {P : Program} {w : World} {K : PySem.W.Frag} {mg : Str → Option Value} {base : Heap} {f : Addr} {fd : FuncData} (F : FunD K "shelf_text" "shelf_text" (defArgs s_shelf_text) (defBody s_shelf_text) (defScope s_shelf_text) [] [] f fd) (hm : mg "shelf_text" = some (.ref f)) (g_str : mg "str" = none) : Cal P w K mg base 1 "shelf_text" p_shelf_text fn_shelf_text := by
  refine cal_of F hm sc_shelf_text (FunD.bindsN F fun _ _ _ _ _ _ us hl => match us, hl with | [_], _ => rfl) (kbo_of F fun _ _ _ _ _ _ us hl => match us, hl with | [_], _ => rfl) fun cdv B out s H E hg hr => ?_
  have nd := (sc_shelf_text).nd
  unfold tm_shelf_text
  exact (ss_one (s1_ret (sx_se (se_join se_str (se_sx (sx_add (se_sx (sx_lst (sa_cons (se_ty ty_str rfl g_str boot_str (sa_cons (se_ix (se_var 0) se_int) sa_nil)) sa_nil))) (se_sx (sx_lcA FU (own := [("row", 2)]) rfl nd (se_ix (se_var 0) se_int) (blkOk_by (N := N_shelf_text) (sc := (defScope s_shelf_text)) (by decide +kernel)) (fun _ _ _ _ _ => (sg_name 2 nd)) (fun _ _ _ _ _ => sc_nil) (fun _ _ _ _ _ => (se_join se_str (se_sx (sx_lcA FU (own := [("label", 1)]) rfl nd (se_var 2) (blkOk_by (N := N_shelf_text) (sc := (relS _ (defScope s_shelf_text))) (by decide +kernel)) (fun _ _ _ _ _ => (sg_name 1 nd)) (fun _ _ _ _ _ => sc_nil) (fun _ _ _ _ _ => (se_ty ty_str rfl g_str boot_str (sa_cons (se_var 1) sa_nil)))))))))))))))

/-! _law_is_shelf_told -/
abbrev s__law_is_shelf_told : Stmt := top 41

abbrev N__law_is_shelf_told : List Str := ["shelf", "line", "is_named", "told", "text"]
abbrev p__law_is_shelf_told : List Str := ["shelf", "line", "is_named"]

def tm__law_is_shelf_told : Mn.Tm :=
  (tmSeq (tmAs (eIf (bTru (eVar 2)) (xCall fn_read_shelf (aCons (eVar 1) aNil)) (xCall fn_read_shelf (aCons (eVar 1) aNil))) (tgN 3))
  (tmSeq (tmAs (eIf (bTru (eVar 2)) (xCall fn_shelf_text (aCons (eVar 0) aNil)) (xCall fn_shelf_text (aCons (eVar 0) aNil))) (tgN 4))
  (tmSeq (tmFrz 4 (tmFrz 3 (tmIf (bOr (bNot (bTru (eF (xCall (fn__law_is_same RD) (aCons (eVar 0) (aCons (eVar 3) aNil)))))) (bNot (bTru (eF (xCall (fn__law_is_same RD) (aCons (eVar 1) (aCons (eVar 4) aNil))))))) (tmRt (xV (eC (.bool false)))) tmNil)))
  (tmFrz 4 (tmRt (xCall (fn__law_is_same RD) (aCons (eVar 0) (aCons (eF (xCall fn_read_shelf (aCons (eVar 4) aNil))) aNil))))))))

def fn__law_is_shelf_told : List Val → MH → Out Sl := fnM 3 5 tm__law_is_shelf_told

theorem ar__law_is_shelf_told : ArityN 3 fn__law_is_shelf_told := fnM_arity

theorem go__law_is_shelf_told {a0 a1 a2 : Val} {M : MH} {Q : Sl → MH → Prop} (h : Rs (tm__law_is_shelf_told [some (.v a0), some (.v a1), some (.v a2), none, none] M) Q) : Ok (fn__law_is_shelf_told [a0, a1, a2] M) Q := Ok_fn (np := 3) (ns := 5) (f := tm__law_is_shelf_told) (vs := [a0, a1, a2]) rfl h

theorem sc__law_is_shelf_told : FnScope N__law_is_shelf_told p__law_is_shelf_told (defScope s__law_is_shelf_told) := ⟨rfl, rfl, rfl, by decide +kernel, rfl, by decide +kernel, by decide +kernel⟩

theorem ok__law_is_shelf_told {P : Program} {w : World} {K : PySem.W.Frag} {mg : Str → Option Value} {base : Heap} {f : Addr} {fd : FuncData} (F : FunD K "_law_is_shelf_told" "_law_is_shelf_told" (defArgs s__law_is_shelf_told) (defBody s__law_is_shelf_told) (defScope s__law_is_shelf_told) [] [] f fd) (hm : mg "_law_is_shelf_told" = some (.ref f)) (c_read_shelf : Cal P w K mg base 5 "read_shelf" p_read_shelf fn_read_shelf) (c_shelf_text : Cal P w K mg base 1 "shelf_text" p_shelf_text fn_shelf_text) (c__law_is_same : Cal P w K mg base 13 "_law_is_same" p__law_is_same (fn__law_is_same RD)) : Cal P w K mg base 14 "_law_is_shelf_told" p__law_is_shelf_told fn__law_is_shelf_told := by
  refine cal_of F hm sc__law_is_shelf_told (FunD.bindsN F fun _ _ _ _ _ _ us hl => match us, hl with | [_, _, _], _ => rfl) (kbo_of F fun _ _ _ _ _ _ us hl => match us, hl with | [_, _, _], _ => rfl) fun cdv B out s H E hg hr => ?_
  have nd := (sc__law_is_shelf_told).nd
  unfold tm__law_is_shelf_told
  exact (ss_cons (s1_set 3 nd (sx_if (st_truth (se_var 2)) (sx_fnK c_read_shelf hg hr (by first | decide | omega) rfl ar_read_shelf (sk_cons (se_var 1) sk_nil)) (sx_fn c_read_shelf hg hr (by first | decide | omega) rfl ar_read_shelf (sa_cons (se_var 1) sa_nil))))
    (ss_cons (s1_set 4 nd (sx_if (st_truth (se_var 2)) (sx_fnK c_shelf_text hg hr (by first | decide | omega) rfl ar_shelf_text (sk_cons (se_var 0) sk_nil)) (sx_fn c_shelf_text hg hr (by first | decide | omega) rfl ar_shelf_text (sa_cons (se_var 0) sa_nil))))
    (ss_cons (s1_frz 4 (s1_frz 3 (s1_if (st_sw (sw_or (st_not (st_truth (se_sx (sx_fn c__law_is_same hg hr (by first | decide | omega) rfl (ar__law_is_same RD) (sa_cons (se_var 0) (sa_cons (se_var 3) sa_nil)))))) (sw_or1 (st_not (st_truth (se_sx (sx_fn c__law_is_same hg hr (by first | decide | omega) rfl (ar__law_is_same RD) (sa_cons (se_var 1) (sa_cons (se_var 4) sa_nil))))))))) (ss_one (s1_ret (sx_se se_bl))) ss_nil)))
    (ss_one (s1_frz 4 (s1_ret (sx_fn c__law_is_same hg hr (by first | decide | omega) rfl (ar__law_is_same RD) (sa_cons (se_var 0) (sa_cons (se_sx (sx_fn c_read_shelf hg hr (by first | decide | omega) rfl ar_read_shelf (sa_cons (se_var 4) sa_nil))) sa_nil)))))))))

/-! is_pair_of -/
abbrev s_is_pair_of : Stmt := top 20

abbrev N_is_pair_of : List Str := ["piece"]
abbrev p_is_pair_of : List Str := ["piece"]

def tm_is_pair_of : Mn.Tm :=
  (tmRt (xV (eAnd (eOp2 dEq (eFn gLen (aCons (eVar 0) aNil)) (eC (.int 3))) (eAnd (eOp2 dEq (eIx (eVar 0) (eC (.int 1))) (eC (.str (PySem.Str.ofString "=")))) (eAnd (eOp2 dIn (eIx (eVar 0) (eC (.int 0))) (eC (.str (PySem.Str.ofString "012345")))) (eOp2 dIn (eIx (eVar 0) (eC (.int 2))) (eF (xSl (eC (.str (PySem.Str.ofString "012345"))) oNone (oSome (eC (.int 3)))))))))))

def fn_is_pair_of : List Val → MH → Out Sl := fnM 1 1 tm_is_pair_of

theorem ar_is_pair_of : ArityN 1 fn_is_pair_of := fnM_arity

theorem go_is_pair_of {a0 : Val} {M : MH} {Q : Sl → MH → Prop} (h : Rs (tm_is_pair_of [some (.v a0)] M) Q) : Ok (fn_is_pair_of [a0] M) Q := Ok_fn (np := 1) (ns := 1) (f := tm_is_pair_of) (vs := [a0]) rfl h

theorem sc_is_pair_of : FnScope N_is_pair_of p_is_pair_of (defScope s_is_pair_of) := ⟨rfl, rfl, rfl, by decide +kernel, rfl, by decide +kernel, by decide +kernel⟩

theorem ok_is_pair_of {P : Program} {w : World} {K : PySem.W.Frag} {mg : Str → Option Value} {base : Heap} {f : Addr} {fd : FuncData} (F : FunD K "is_pair_of" "is_pair_of" (defArgs s_is_pair_of) (defBody s_is_pair_of) (defScope s_is_pair_of) [] [] f fd) (hm : mg "is_pair_of" = some (.ref f)) {t_FIGURES : Tok} (i_FIGURES : mg "FIGURES" = some (.str (PySem.Str.ofString "012345") t_FIGURES)) (g_len : mg "len" = none) : Cal P w K mg base 1 "is_pair_of" p_is_pair_of fn_is_pair_of := by
  refine cal_of F hm sc_is_pair_of (FunD.bindsN F fun _ _ _ _ _ _ us hl => match us, hl with | [_], _ => rfl) (kbo_of F fun _ _ _ _ _ _ us hl => match us, hl with | [_], _ => rfl) fun cdv B out s H E hg hr => ?_
  have nd := (sc_is_pair_of).nd
  unfold tm_is_pair_of
  exact (ss_one (s1_ret (sx_se (se_and (se_c (cr_eq hr) (se_bi bi_len rfl g_len boot_len (sa_cons (se_var 0) sa_nil)) se_int) (se_and (se_c (cr_eq hr) (se_ix (se_var 0) se_int) se_str) (se_and (se_c (cr_in hr) (se_ix (se_var 0) se_int) (se_globS rfl i_FIGURES)) (se_one (se_c (cr_in hr) (se_ix (se_var 0) se_int) (se_sx (sx_sl (se_globS rfl i_FIGURES) so_none (so_some se_int)))))))))))

/-! read_sample -/
abbrev s_read_sample : Stmt := top 21

abbrev N_read_sample : List Str := ["value", "found", "place", "piece"]
abbrev p_read_sample : List Str := ["value"]

def tm_read_sample : Mn.Tm :=
  (tmSeq (tmIf (bNot (bTru (eIsI .str (eVar 0)))) tmNo tmNil)
  (tmSeq (tmAs (xLst aNil) (tgN 1))
  (tmSeq (tmFor (iEn vD (eF (eIf (toB (eOp2 dNe (eVar 0) (eC (.str (PySem.Str.ofString ""))))) (xSplit (eVar 0) (eC (.str (PySem.Str.ofString " ")))) (xLst aNil)))) (tgT 2 (tgsCons (tgN 2) (tgsCons (tgN 3) tgsNil))) (tmSeq (tmIf (bOr (toB (eOp2 dEq (eVar 2) (eC (.int 60)))) (bNot (bTru (eF (xCall fn_is_pair_of (aCons (eVar 3) aNil)))))) tmNo tmNil)
  (tmApp 1 (eTup (aCons (eFn gIntS (aCons (eIx (eVar 3) (eC (.int 0))) aNil)) (aCons (eFn gIntS (aCons (eIx (eVar 3) (eC (.int 2))) aNil)) aNil))))))
  (tmRt (xV (eFn gTuple (aCons (eVar 1) aNil)))))))

def fn_read_sample : List Val → MH → Out Sl := fnM 1 4 tm_read_sample

theorem ar_read_sample : ArityN 1 fn_read_sample := fnM_arity

theorem go_read_sample {a0 : Val} {M : MH} {Q : Sl → MH → Prop} (h : Rs (tm_read_sample [some (.v a0), none, none, none] M) Q) : Ok (fn_read_sample [a0] M) Q := Ok_fn (np := 1) (ns := 4) (f := tm_read_sample) (vs := [a0]) rfl h

theorem sc_read_sample : FnScope N_read_sample p_read_sample (defScope s_read_sample) := ⟨rfl, rfl, rfl, by decide +kernel, rfl, by decide +kernel, by decide +kernel⟩

theorem ok_read_sample {P : Program} {w : World} {K : PySem.W.Frag} {mg : Str → Option Value} {base : Heap} {f : Addr} {fd : FuncData} (F : FunD K "read_sample" "read_sample" (defArgs s_read_sample) (defBody s_read_sample) (defScope s_read_sample) [] [] f fd) (hm : mg "read_sample" = some (.ref f)) (c_is_pair_of : Cal P w K mg base 1 "is_pair_of" p_is_pair_of fn_is_pair_of) {t_MAX_SEEN : Tok} (i_MAX_SEEN : mg "MAX_SEEN" = some (.int 60 t_MAX_SEEN)) (g_isinstance : mg "isinstance" = none) (g_str : mg "str" = none) (g_int : mg "int" = none) (g_enumerate : mg "enumerate" = none) (g_tuple : mg "tuple" = none) : Cal P w K mg base 2 "read_sample" p_read_sample fn_read_sample := by
  refine cal_of F hm sc_read_sample (FunD.bindsN F fun _ _ _ _ _ _ us hl => match us, hl with | [_], _ => rfl) (kbo_of F fun _ _ _ _ _ _ us hl => match us, hl with | [_], _ => rfl) fun cdv B out s H E hg hr => ?_
  have nd := (sc_read_sample).nd
  unfold tm_read_sample
  exact (ss_cons (s1_if (st_not (st_truth (se_isi .str (se_var 0) rfl g_isinstance rfl g_str boot_str))) (ss_one s1_no) ss_nil)
    (ss_cons (s1_set 1 nd (sx_lst sa_nil))
    (ss_cons (s1_for PassesOwn.never rfl (si_enum rfl g_enumerate (se_sx (sx_if (st_c (cr_ne hr) (se_var 0) se_str) (sx_split (se_var 0) se_str) (sx_lst sa_nil)))) (sg_tup rfl (sgs_cons (sg_name 2 nd) (sgs_cons (sg_name 3 nd) sgs_nil))) (ss_cons (s1_if (st_sw (sw_or (st_c (cr_eq hr) (se_var 2) (se_globI rfl i_MAX_SEEN)) (sw_or1 (st_not (st_truth (se_sx (sx_fn c_is_pair_of hg hr (by first | decide | omega) rfl ar_is_pair_of (sa_cons (se_var 3) sa_nil)))))))) (ss_one s1_no) ss_nil)
    (ss_one (s1_app 1 (se_tup (sa_cons (se_ty ty_intS rfl g_int boot_int (sa_cons (se_ix (se_var 3) se_int) sa_nil)) (sa_cons (se_ty ty_intS rfl g_int boot_int (sa_cons (se_ix (se_var 3) se_int) sa_nil)) sa_nil)))))))
    (ss_one (s1_ret (sx_se (se_ty ty_tuple rfl g_tuple boot_tuple (sa_cons (se_var 1) sa_nil))))))))

/-! sample_text -/
abbrev s_sample_text : Stmt := top 19

abbrev N_sample_text : List Str := ["sample", "point", "label"]
abbrev p_sample_text : List Str := ["sample"]

def tm_sample_text : Mn.Tm :=
  (tmRt (xV (eM1 gJoin (eC (.str (PySem.Str.ofString " "))) (eF (xLcA FU [1, 2] (eVar 0) (tgT 2 (tgsCons (tgN 1) (tgsCons (tgN 2) tgsNil))) cYes (eF (xOp2 dAdd (eF (xOp2 dAdd (eFn gStr (aCons (eVar 1) aNil)) (eC (.str (PySem.Str.ofString "="))))) (eFn gStr (aCons (eVar 2) aNil)))))))))

def fn_sample_text : List Val → MH → Out Sl := fnM 1 3 tm_sample_text

theorem ar_sample_text : ArityN 1 fn_sample_text := fnM_arity

theorem go_sample_text {a0 : Val} {M : MH} {Q : Sl → MH → Prop} (h : Rs (tm_sample_text [some (.v a0), none, none] M) Q) : Ok (fn_sample_text [a0] M) Q := Ok_fn (np := 1) (ns := 3) (f := tm_sample_text) (vs := [a0]) rfl h

theorem sc_sample_text : FnScope N_sample_text p_sample_text (defScope s_sample_text) := ⟨rfl, rfl, rfl, by decide +kernel, rfl, by decide +kernel, by decide +kernel⟩

theorem ok_sample_text {P : Program} {w : World} {K : PySem.W.Frag} {mg : Str → Option Value} {base : Heap} {f : Addr} {fd : FuncData} (F : FunD K "sample_text" "sample_text" (defArgs s_sample_text) (defBody s_sample_text) (defScope s_sample_text) [] [] f fd) (hm : mg "sample_text" = some (.ref f)) (g_str : mg "str" = none) : Cal P w K mg base 1 "sample_text" p_sample_text fn_sample_text := by
  refine cal_of F hm sc_sample_text (FunD.bindsN F fun _ _ _ _ _ _ us hl => match us, hl with | [_], _ => rfl) (kbo_of F fun _ _ _ _ _ _ us hl => match us, hl with | [_], _ => rfl) fun cdv B out s H E hg hr => ?_
  have nd := (sc_sample_text).nd
  unfold tm_sample_text
  exact (ss_one (s1_ret (sx_se (se_join se_str (se_sx (sx_lcA FU (own := [("point", 1), ("label", 2)]) rfl nd (se_var 0) (blkOk_by (N := N_sample_text) (sc := (defScope s_sample_text)) (by decide +kernel)) (fun _ _ _ _ _ => (sg_tup rfl (sgs_cons (sg_name 1 nd) (sgs_cons (sg_name 2 nd) sgs_nil)))) (fun _ _ _ _ _ => sc_nil) (fun _ _ _ _ _ => (se_sx (sx_add (se_sx (sx_add (se_ty ty_str rfl g_str boot_str (sa_cons (se_var 1) sa_nil)) se_str)) (se_ty ty_str rfl g_str boot_str (sa_cons (se_var 2) sa_nil)))))))))))

/-! _law_is_sample_told -/
abbrev s__law_is_sample_told : Stmt := top 42

abbrev N__law_is_sample_told : List Str := ["sample", "line", "is_named", "told", "text"]
abbrev p__law_is_sample_told : List Str := ["sample", "line", "is_named"]

def tm__law_is_sample_told : Mn.Tm :=
  (tmSeq (tmAs (eIf (bTru (eVar 2)) (xCall fn_read_sample (aCons (eVar 1) aNil)) (xCall fn_read_sample (aCons (eVar 1) aNil))) (tgN 3))
  (tmSeq (tmAs (eIf (bTru (eVar 2)) (xCall fn_sample_text (aCons (eVar 0) aNil)) (xCall fn_sample_text (aCons (eVar 0) aNil))) (tgN 4))
  (tmSeq (tmFrz 4 (tmFrz 3 (tmIf (bOr (bNot (bTru (eF (xCall (fn__law_is_same RD) (aCons (eVar 0) (aCons (eVar 3) aNil)))))) (bNot (bTru (eF (xCall (fn__law_is_same RD) (aCons (eVar 1) (aCons (eVar 4) aNil))))))) (tmRt (xV (eC (.bool false)))) tmNil)))
  (tmFrz 4 (tmRt (xCall (fn__law_is_same RD) (aCons (eVar 0) (aCons (eF (xCall fn_read_sample (aCons (eVar 4) aNil))) aNil))))))))

def fn__law_is_sample_told : List Val → MH → Out Sl := fnM 3 5 tm__law_is_sample_told

theorem ar__law_is_sample_told : ArityN 3 fn__law_is_sample_told := fnM_arity

theorem go__law_is_sample_told {a0 a1 a2 : Val} {M : MH} {Q : Sl → MH → Prop} (h : Rs (tm__law_is_sample_told [some (.v a0), some (.v a1), some (.v a2), none, none] M) Q) : Ok (fn__law_is_sample_told [a0, a1, a2] M) Q := Ok_fn (np := 3) (ns := 5) (f := tm__law_is_sample_told) (vs := [a0, a1, a2]) rfl h

theorem sc__law_is_sample_told : FnScope N__law_is_sample_told p__law_is_sample_told (defScope s__law_is_sample_told) := ⟨rfl, rfl, rfl, by decide +kernel, rfl, by decide +kernel, by decide +kernel⟩

theorem ok__law_is_sample_told {P : Program} {w : World} {K : PySem.W.Frag} {mg : Str → Option Value} {base : Heap} {f : Addr} {fd : FuncData} (F : FunD K "_law_is_sample_told" "_law_is_sample_told" (defArgs s__law_is_sample_told) (defBody s__law_is_sample_told) (defScope s__law_is_sample_told) [] [] f fd) (hm : mg "_law_is_sample_told" = some (.ref f)) (c_read_sample : Cal P w K mg base 2 "read_sample" p_read_sample fn_read_sample) (c_sample_text : Cal P w K mg base 1 "sample_text" p_sample_text fn_sample_text) (c__law_is_same : Cal P w K mg base 13 "_law_is_same" p__law_is_same (fn__law_is_same RD)) : Cal P w K mg base 14 "_law_is_sample_told" p__law_is_sample_told fn__law_is_sample_told := by
  refine cal_of F hm sc__law_is_sample_told (FunD.bindsN F fun _ _ _ _ _ _ us hl => match us, hl with | [_, _, _], _ => rfl) (kbo_of F fun _ _ _ _ _ _ us hl => match us, hl with | [_, _, _], _ => rfl) fun cdv B out s H E hg hr => ?_
  have nd := (sc__law_is_sample_told).nd
  unfold tm__law_is_sample_told
  exact (ss_cons (s1_set 3 nd (sx_if (st_truth (se_var 2)) (sx_fnK c_read_sample hg hr (by first | decide | omega) rfl ar_read_sample (sk_cons (se_var 1) sk_nil)) (sx_fn c_read_sample hg hr (by first | decide | omega) rfl ar_read_sample (sa_cons (se_var 1) sa_nil))))
    (ss_cons (s1_set 4 nd (sx_if (st_truth (se_var 2)) (sx_fnK c_sample_text hg hr (by first | decide | omega) rfl ar_sample_text (sk_cons (se_var 0) sk_nil)) (sx_fn c_sample_text hg hr (by first | decide | omega) rfl ar_sample_text (sa_cons (se_var 0) sa_nil))))
    (ss_cons (s1_frz 4 (s1_frz 3 (s1_if (st_sw (sw_or (st_not (st_truth (se_sx (sx_fn c__law_is_same hg hr (by first | decide | omega) rfl (ar__law_is_same RD) (sa_cons (se_var 0) (sa_cons (se_var 3) sa_nil)))))) (sw_or1 (st_not (st_truth (se_sx (sx_fn c__law_is_same hg hr (by first | decide | omega) rfl (ar__law_is_same RD) (sa_cons (se_var 1) (sa_cons (se_var 4) sa_nil))))))))) (ss_one (s1_ret (sx_se se_bl))) ss_nil)))
    (ss_one (s1_frz 4 (s1_ret (sx_fn c__law_is_same hg hr (by first | decide | omega) rfl (ar__law_is_same RD) (sa_cons (se_var 0) (sa_cons (se_sx (sx_fn c_read_sample hg hr (by first | decide | omega) rfl ar_read_sample (sa_cons (se_var 4) sa_nil))) sa_nil)))))))))

/-! law -/
abbrev s_law : Stmt := top 44

abbrev N_law : List Str := ["script", "bag", "kinds", "many", "most", "shelves", "samples", "kept", "lines", "shelf", "marks", "sample", "k", "line", "mark"]
abbrev p_law : List Str := ["script"]

def tm_law : Mn.Tm :=
  (tmSeq (tmAs (xCall fn__law_own_bag (aCons (eVar 0) aNil)) (tgN 1))
  (tmSeq (tmFrz 1 (tmAs (xCall fn__law_sizes (aCons (eVar 1) aNil)) (tgT 3 (tgsCons (tgN 2) (tgsCons (tgN 3) (tgsCons (tgN 4) tgsNil))))))
  (tmSeq (tmFrz 1 (tmAs (xCall fn__law_near_shelves (aCons (eVar 1) (aCons (eF (xCall fn__law_shelf (aCons (eVar 1) (aCons (eVar 2) (aCons (eVar 3) (aCons (eVar 4) aNil)))))) aNil))) (tgN 5)))
  (tmSeq (tmFrz 1 (tmPs (xCons (xCall fn__law_near_samples (aCons (eVar 1) aNil)) (xCons (xV (eFn gReprA (aCons (eVar 5) aNil))) xNil)) (tgsCons (tgN 6) (tgsCons (tgN 7) tgsNil))))
  (tmSeq (tmAs (xLcA FU [9] (eVar 5) (tgN 9) cYes (eF (xCall fn__law_shelf_line (aCons (eVar 9) aNil)))) (tgN 8))
  (tmSeq (tmAs (xLcA FU [11] (eVar 6) (tgN 11) cYes (eF (xCall fn__law_sample_line (aCons (eVar 11) aNil)))) (tgN 10))
  (tmSeq (tmFrz 5 (tmFor (iEn vD (eVar 5)) (tgT 2 (tgsCons (tgN 12) (tgsCons (tgN 9) tgsNil))) (tmIf (bNot (bTru (eF (xCall fn__law_is_shelf_told (aCons (eVar 9) (aCons (eIx (eVar 8) (eVar 12)) (aCons (eOp2 dEq (eVar 12) (eC (.int 1))) aNil))))))) (tmRt (xV (eC (.bool false)))) tmNil)))
  (tmSeq (tmFrz 6 (tmFor (iEn vD (eVar 6)) (tgT 2 (tgsCons (tgN 12) (tgsCons (tgN 11) tgsNil))) (tmIf (bNot (bTru (eF (xCall fn__law_is_sample_told (aCons (eVar 11) (aCons (eIx (eVar 10) (eVar 12)) (aCons (eOp2 dEq (eVar 12) (eC (.int 1))) aNil))))))) (tmRt (xV (eC (.bool false)))) tmNil)))
  (tmSeq (tmFrz 5 (tmIf (bNot (bTru (eF (xCall fn__law_are_unlike (aCons (eVar 5) (aCons (eF (xLcA FU [9] (eVar 5) (tgN 9) cYes (eF (xCall fn_shelf_text (aCons (eVar 9) aNil))))) aNil)))))) (tmRt (xV (eC (.bool false)))) tmNil))
  (tmSeq (tmFrz 6 (tmIf (bNot (bTru (eF (xCall fn__law_are_unlike (aCons (eVar 6) (aCons (eF (xLcA FU [11] (eVar 6) (tgN 11) cYes (eF (xCall fn_sample_text (aCons (eVar 11) aNil))))) aNil)))))) (tmRt (xV (eC (.bool false)))) tmNil))
  (tmSeq (tmFor (iZp vD (eF (xFn gRevL0 (aCons (eVar 5) aNil))) (eF (xFn gRevL0 (aCons (eVar 8) aNil)))) (tgT 2 (tgsCons (tgN 9) (tgsCons (tgN 13) tgsNil))) (tmIf (bOr (bNot (bTru (eF (xCall (fn__law_is_same RD) (aCons (eVar 9) (aCons (eF (xCall fn_read_shelf (aCons (eVar 13) aNil))) aNil)))))) (bNot (bTru (eF (xCall (fn__law_is_same RD) (aCons (eVar 13) (aCons (eF (xCall fn_shelf_text (aCons (eVar 9) aNil))) aNil))))))) (tmRt (xV (eC (.bool false)))) tmNil))
  (tmSeq (tmFor (iZp vD (eF (xFn gRevL0 (aCons (eVar 6) aNil))) (eF (xFn gRevL0 (aCons (eVar 10) aNil)))) (tgT 2 (tgsCons (tgN 11) (tgsCons (tgN 14) tgsNil))) (tmIf (bOr (bNot (bTru (eF (xCall (fn__law_is_same RD) (aCons (eVar 11) (aCons (eF (xCall fn_read_sample (aCons (eVar 14) aNil))) aNil)))))) (bNot (bTru (eF (xCall (fn__law_is_same RD) (aCons (eVar 14) (aCons (eF (xCall fn_sample_text (aCons (eVar 11) aNil))) aNil))))))) (tmRt (xV (eC (.bool false)))) tmNil))
  (tmRt (xV (eOp2 dEq (eFn gReprA (aCons (eVar 5) aNil)) (eVar 7))))))))))))))))

def fn_law : List Val → MH → Out Sl := fnM 1 15 tm_law

theorem ar_law : ArityN 1 fn_law := fnM_arity

theorem go_law {a0 : Val} {M : MH} {Q : Sl → MH → Prop} (h : Rs (tm_law [some (.v a0), none, none, none, none, none, none, none, none, none, none, none, none, none, none] M) Q) : Ok (fn_law [a0] M) Q := Ok_fn (np := 1) (ns := 15) (f := tm_law) (vs := [a0]) rfl h

theorem sc_law : FnScope N_law p_law (defScope s_law) := ⟨rfl, rfl, rfl, by decide +kernel, rfl, by decide +kernel, by decide +kernel⟩

theorem ok_law {P : Program} {w : World} {K : PySem.W.Frag} {mg : Str → Option Value} {base : Heap} {f : Addr} {fd : FuncData} (F : FunD K "law" "law" (defArgs s_law) (defBody s_law) (defScope s_law) [] [] f fd) (hm : mg "law" = some (.ref f)) (c__law_own_bag : Cal P w K mg base 1 "_law_own_bag" p__law_own_bag fn__law_own_bag) (c__law_sizes : Cal P w K mg base 3 "_law_sizes" p__law_sizes fn__law_sizes) (c__law_near_shelves : Cal P w K mg base 3 "_law_near_shelves" p__law_near_shelves fn__law_near_shelves) (c__law_shelf : Cal P w K mg base 4 "_law_shelf" p__law_shelf fn__law_shelf) (c__law_near_samples : Cal P w K mg base 3 "_law_near_samples" p__law_near_samples fn__law_near_samples) (c__law_shelf_line : Cal P w K mg base 1 "_law_shelf_line" p__law_shelf_line fn__law_shelf_line) (c__law_sample_line : Cal P w K mg base 1 "_law_sample_line" p__law_sample_line fn__law_sample_line) (c__law_is_shelf_told : Cal P w K mg base 14 "_law_is_shelf_told" p__law_is_shelf_told fn__law_is_shelf_told) (c__law_is_sample_told : Cal P w K mg base 14 "_law_is_sample_told" p__law_is_sample_told fn__law_is_sample_told) (c__law_are_unlike : Cal P w K mg base 1 "_law_are_unlike" p__law_are_unlike fn__law_are_unlike) (c_shelf_text : Cal P w K mg base 1 "shelf_text" p_shelf_text fn_shelf_text) (c_sample_text : Cal P w K mg base 1 "sample_text" p_sample_text fn_sample_text) (c__law_is_same : Cal P w K mg base 13 "_law_is_same" p__law_is_same (fn__law_is_same RD)) (c_read_shelf : Cal P w K mg base 5 "read_shelf" p_read_shelf fn_read_shelf) (c_read_sample : Cal P w K mg base 2 "read_sample" p_read_sample fn_read_sample) (g_repr : mg "repr" = none) (g_enumerate : mg "enumerate" = none) (g_reversed : mg "reversed" = none) (g_list : mg "list" = none) (g_zip : mg "zip" = none) : FnG P w K mg base (L2.CX P w) 15 f fd p_law (spM K Pm0.ER 1 fn_law) := by
  refine calG_of F sc_law fun cdv B out s H E hg hr => ?_
  have nd := sc_law.nd
  unfold tm_law
  exact (ss_cons (s1_set 1 nd (sx_fn c__law_own_bag hg hr (by first | decide | omega) rfl ar__law_own_bag (sa_cons (se_var 0) sa_nil)))
    (ss_cons (s1_frz 1 (s1_asg (sx_fn c__law_sizes hg hr (by first | decide | omega) rfl ar__law_sizes (sa_cons (se_var 1) sa_nil)) (sg_tup rfl (sgs_cons (sg_name 2 nd) (sgs_cons (sg_name 3 nd) (sgs_cons (sg_name 4 nd) sgs_nil))))))
    (ss_cons (s1_frz 1 (s1_set 5 nd (sx_fn c__law_near_shelves hg hr (by first | decide | omega) rfl ar__law_near_shelves (sa_cons (se_var 1) (sa_cons (se_sx (sx_fn c__law_shelf hg hr (by first | decide | omega) rfl ar__law_shelf (sa_cons (se_var 1) (sa_cons (se_var 2) (sa_cons (se_var 3) (sa_cons (se_var 4) sa_nil)))))) sa_nil)))))
    (ss_cons (s1_frz 1 (by first | exact (s1_par 6 7 rfl nd (sl_cons (sx_fn c__law_near_samples hg hr (by first | decide | omega) rfl ar__law_near_samples (sa_cons (se_var 1) sa_nil)) (sl_cons (sx_se (se_bi (bi_reprA hg hr) rfl g_repr boot_repr (sa_cons (se_var 5) sa_nil))) sl_nil)) rfl) | exact (s1_tt rfl (sl_cons (sx_fn c__law_near_samples hg hr (by first | decide | omega) rfl ar__law_near_samples (sa_cons (se_var 1) sa_nil)) (sl_cons (sx_se (se_bi (bi_reprA hg hr) rfl g_repr boot_repr (sa_cons (se_var 5) sa_nil))) sl_nil)) (sgs_cons (sg_name 6 nd) (sgs_cons (sg_name 7 nd) sgs_nil)) (tgsCons_len (tgsCons_len tgsNil_len)))))
    (ss_cons (by first | exact (s1_set 8 nd (sx_lcA FU (own := [("shelf", 9)]) rfl nd (se_var 5) (blkOk_by (N := N_law) (sc := (defScope s_law)) (by decide +kernel)) (fun _ _ _ _ _ => (sg_name 9 nd)) (fun _ _ _ _ _ => sc_nil) (fun _ _ _ _ _ => (se_sx (sx_fn c__law_shelf_line hg hr (by first | decide | omega) rfl ar__law_shelf_line (sa_cons (se_var 9) sa_nil)))))) | exact (s1_setLcA FU 8 (own := [("shelf", 9)]) rfl nd (se_var 5) (blkOk_by (N := N_law) (sc := (defScope s_law)) (by decide +kernel)) (fun _ _ _ _ _ => (sg_name 9 nd)) (fun _ _ _ _ _ => sc_nil) (fun _ _ _ _ _ => (se_sx (sx_fn c__law_shelf_line hg hr (by first | decide | omega) rfl ar__law_shelf_line (sa_cons (se_var 9) sa_nil)))) (sw_true rfl rfl rfl (by decide +kernel))))
    (ss_cons (by first | exact (s1_set 10 nd (sx_lcA FU (own := [("sample", 11)]) rfl nd (se_var 6) (blkOk_by (N := N_law) (sc := (defScope s_law)) (by decide +kernel)) (fun _ _ _ _ _ => (sg_name 11 nd)) (fun _ _ _ _ _ => sc_nil) (fun _ _ _ _ _ => (se_sx (sx_fn c__law_sample_line hg hr (by first | decide | omega) rfl ar__law_sample_line (sa_cons (se_var 11) sa_nil)))))) | exact (s1_setLcA FU 10 (own := [("sample", 11)]) rfl nd (se_var 6) (blkOk_by (N := N_law) (sc := (defScope s_law)) (by decide +kernel)) (fun _ _ _ _ _ => (sg_name 11 nd)) (fun _ _ _ _ _ => sc_nil) (fun _ _ _ _ _ => (se_sx (sx_fn c__law_sample_line hg hr (by first | decide | omega) rfl ar__law_sample_line (sa_cons (se_var 11) sa_nil)))) (sw_true rfl rfl rfl (by decide +kernel))))
    (ss_cons (s1_frz 5 (s1_for PassesOwn.never rfl (si_enum rfl g_enumerate (se_var 5)) (sg_tup rfl (sgs_cons (sg_name 12 nd) (sgs_cons (sg_name 9 nd) sgs_nil))) (ss_one (s1_if (st_not (st_truth (se_sx (sx_fn c__law_is_shelf_told hg hr (by first | decide | omega) rfl ar__law_is_shelf_told (sa_cons (se_var 9) (sa_cons (se_ix (se_var 8) (se_var 12)) (sa_cons (se_c (cr_eq hr) (se_var 12) se_int) sa_nil))))))) (ss_one (s1_ret (sx_se se_bl))) ss_nil))))
    (ss_cons (s1_frz 6 (s1_for PassesOwn.never rfl (si_enum rfl g_enumerate (se_var 6)) (sg_tup rfl (sgs_cons (sg_name 12 nd) (sgs_cons (sg_name 11 nd) sgs_nil))) (ss_one (s1_if (st_not (st_truth (se_sx (sx_fn c__law_is_sample_told hg hr (by first | decide | omega) rfl ar__law_is_sample_told (sa_cons (se_var 11) (sa_cons (se_ix (se_var 10) (se_var 12)) (sa_cons (se_c (cr_eq hr) (se_var 12) se_int) sa_nil))))))) (ss_one (s1_ret (sx_se se_bl))) ss_nil))))
    (ss_cons (s1_frz 5 (s1_if (st_not (st_truth (se_sx (sx_fn c__law_are_unlike hg hr (by first | decide | omega) rfl ar__law_are_unlike (sa_cons (se_var 5) (sa_cons (se_sx (sx_lcA FU (own := [("shelf", 9)]) rfl nd (se_var 5) (blkOk_by (N := N_law) (sc := (defScope s_law)) (by decide +kernel)) (fun _ _ _ _ _ => (sg_name 9 nd)) (fun _ _ _ _ _ => sc_nil) (fun _ _ _ _ _ => (se_sx (sx_fn c_shelf_text hg hr (by first | decide | omega) rfl ar_shelf_text (sa_cons (se_var 9) sa_nil)))))) sa_nil)))))) (ss_one (s1_ret (sx_se se_bl))) ss_nil))
    (ss_cons (s1_frz 6 (s1_if (st_not (st_truth (se_sx (sx_fn c__law_are_unlike hg hr (by first | decide | omega) rfl ar__law_are_unlike (sa_cons (se_var 6) (sa_cons (se_sx (sx_lcA FU (own := [("sample", 11)]) rfl nd (se_var 6) (blkOk_by (N := N_law) (sc := (defScope s_law)) (by decide +kernel)) (fun _ _ _ _ _ => (sg_name 11 nd)) (fun _ _ _ _ _ => sc_nil) (fun _ _ _ _ _ => (se_sx (sx_fn c_sample_text hg hr (by first | decide | omega) rfl ar_sample_text (sa_cons (se_var 11) sa_nil)))))) sa_nil)))))) (ss_one (s1_ret (sx_se se_bl))) ss_nil))
    (ss_cons (s1_for PassesOwn.never rfl (si_zip rfl g_zip (se_sx (sx_listRev rfl rfl g_list rfl g_reversed (se_var 5))) (se_sx (sx_listRev rfl rfl g_list rfl g_reversed (se_var 8)))) (sg_tup rfl (sgs_cons (sg_name 9 nd) (sgs_cons (sg_name 13 nd) sgs_nil))) (ss_one (s1_if (st_sw (sw_or (st_not (st_truth (se_sx (sx_fn c__law_is_same hg hr (by first | decide | omega) rfl (ar__law_is_same RD) (sa_cons (se_var 9) (sa_cons (se_sx (sx_fnK c_read_shelf hg hr (by first | decide | omega) rfl ar_read_shelf (sk_cons (se_var 13) sk_nil))) sa_nil)))))) (sw_or1 (st_not (st_truth (se_sx (sx_fn c__law_is_same hg hr (by first | decide | omega) rfl (ar__law_is_same RD) (sa_cons (se_var 13) (sa_cons (se_sx (sx_fnK c_shelf_text hg hr (by first | decide | omega) rfl ar_shelf_text (sk_cons (se_var 9) sk_nil))) sa_nil))))))))) (ss_one (s1_ret (sx_se se_bl))) ss_nil)))
    (ss_cons (s1_for PassesOwn.never rfl (si_zip rfl g_zip (se_sx (sx_listRev rfl rfl g_list rfl g_reversed (se_var 6))) (se_sx (sx_listRev rfl rfl g_list rfl g_reversed (se_var 10)))) (sg_tup rfl (sgs_cons (sg_name 11 nd) (sgs_cons (sg_name 14 nd) sgs_nil))) (ss_one (s1_if (st_sw (sw_or (st_not (st_truth (se_sx (sx_fn c__law_is_same hg hr (by first | decide | omega) rfl (ar__law_is_same RD) (sa_cons (se_var 11) (sa_cons (se_sx (sx_fnK c_read_sample hg hr (by first | decide | omega) rfl ar_read_sample (sk_cons (se_var 14) sk_nil))) sa_nil)))))) (sw_or1 (st_not (st_truth (se_sx (sx_fn c__law_is_same hg hr (by first | decide | omega) rfl (ar__law_is_same RD) (sa_cons (se_var 14) (sa_cons (se_sx (sx_fnK c_sample_text hg hr (by first | decide | omega) rfl ar_sample_text (sk_cons (se_var 11) sk_nil))) sa_nil))))))))) (ss_one (s1_ret (sx_se se_bl))) ss_nil)))
    (ss_one (s1_ret (sx_se (se_c (cr_eq hr) (se_bi (bi_reprA hg hr) rfl g_repr boot_repr (sa_cons (se_var 5) sa_nil)) (se_var 7)))))))))))))))))

end K06


set_option Elab.async false
set_option linter.all false
set_option maxRecDepth 100000
set_option maxHeartbeats 0
namespace K06
open PySem PySem.Spec PyProof.Rows L2 Mn

def d__law_own_bag : He.DefD := ⟨("_law_own_bag", none), "_law_own_bag", "_law_own_bag", defArgs s__law_own_bag, defBody s__law_own_bag, defScope s__law_own_bag, [], []⟩
def d__law_draw : He.DefD := ⟨("_law_draw", none), "_law_draw", "_law_draw", defArgs s__law_draw, defBody s__law_draw, defScope s__law_draw, [], []⟩
def d__law_pick : He.DefD := ⟨("_law_pick", none), "_law_pick", "_law_pick", defArgs s__law_pick, defBody s__law_pick, defScope s__law_pick, [], []⟩
def d__law_sizes : He.DefD := ⟨("_law_sizes", none), "_law_sizes", "_law_sizes", defArgs s__law_sizes, defBody s__law_sizes, defScope s__law_sizes, [], []⟩
def d__law_numbers : He.DefD := ⟨("_law_numbers", none), "_law_numbers", "_law_numbers", defArgs s__law_numbers, defBody s__law_numbers, defScope s__law_numbers, [], []⟩
def d__law_power : He.DefD := ⟨("_law_power", none), "_law_power", "_law_power", defArgs s__law_power, defBody s__law_power, defScope s__law_power, [], []⟩
def d__law_row_of : He.DefD := ⟨("_law_row_of", none), "_law_row_of", "_law_row_of", defArgs s__law_row_of, defBody s__law_row_of, defScope s__law_row_of, [], []⟩
def d__law_rows_of : He.DefD := ⟨("_law_rows_of", none), "_law_rows_of", "_law_rows_of", defArgs s__law_rows_of, defBody s__law_rows_of, defScope s__law_rows_of, [], []⟩
def d__law_drawn : He.DefD := ⟨("_law_drawn", none), "_law_drawn", "_law_drawn", defArgs s__law_drawn, defBody s__law_drawn, defScope s__law_drawn, [], []⟩
def d__law_near_shelves : He.DefD := ⟨("_law_near_shelves", none), "_law_near_shelves", "_law_near_shelves", defArgs s__law_near_shelves, defBody s__law_near_shelves, defScope s__law_near_shelves, [], []⟩
def d__law_shaped : He.DefD := ⟨("_law_shaped", none), "_law_shaped", "_law_shaped", defArgs s__law_shaped, defBody s__law_shaped, defScope s__law_shaped, [], []⟩
def d__law_turning : He.DefD := ⟨("_law_turning", none), "_law_turning", "_law_turning", defArgs s__law_turning, defBody s__law_turning, defScope s__law_turning, [], []⟩
def d__law_beside : He.DefD := ⟨("_law_beside", none), "_law_beside", "_law_beside", defArgs s__law_beside, defBody s__law_beside, defScope s__law_beside, [], []⟩
def d__law_shelf : He.DefD := ⟨("_law_shelf", none), "_law_shelf", "_law_shelf", defArgs s__law_shelf, defBody s__law_shelf, defScope s__law_shelf, [], []⟩
def d__law_near_samples : He.DefD := ⟨("_law_near_samples", none), "_law_near_samples", "_law_near_samples", defArgs s__law_near_samples, defBody s__law_near_samples, defScope s__law_near_samples, [], []⟩
def d__law_shelf_line : He.DefD := ⟨("_law_shelf_line", none), "_law_shelf_line", "_law_shelf_line", defArgs s__law_shelf_line, defBody s__law_shelf_line, defScope s__law_shelf_line, [], []⟩
def d__law_sample_line : He.DefD := ⟨("_law_sample_line", none), "_law_sample_line", "_law_sample_line", defArgs s__law_sample_line, defBody s__law_sample_line, defScope s__law_sample_line, [], []⟩
def d__law_are_unlike : He.DefD := ⟨("_law_are_unlike", none), "_law_are_unlike", "_law_are_unlike", defArgs s__law_are_unlike, defBody s__law_are_unlike, defScope s__law_are_unlike, [], []⟩
def d__law_is_same : He.DefD := ⟨("_law_is_same", none), "_law_is_same", "_law_is_same", defArgs s__law_is_same, defBody s__law_is_same, defScope s__law_is_same, [], []⟩
def d_is_tuple : He.DefD := ⟨("is_tuple", none), "is_tuple", "is_tuple", defArgs s_is_tuple, defBody s_is_tuple, defScope s_is_tuple, [], []⟩
def d_is_integer : He.DefD := ⟨("is_integer", none), "is_integer", "is_integer", defArgs s_is_integer, defBody s_is_integer, defScope s_is_integer, [], []⟩
def d_is_whole : He.DefD := ⟨("is_whole", none), "is_whole", "is_whole", defArgs s_is_whole, defBody s_is_whole, defScope s_is_whole, [], []⟩
def d_is_row_of : He.DefD := ⟨("is_row_of", none), "is_row_of", "is_row_of", defArgs s_is_row_of, defBody s_is_row_of, defScope s_is_row_of, [], []⟩
def d_shelf_error : He.DefD := ⟨("shelf_error", none), "shelf_error", "shelf_error", defArgs s_shelf_error, defBody s_shelf_error, defScope s_shelf_error, [], []⟩
def d_is_line_of : He.DefD := ⟨("is_line_of", none), "is_line_of", "is_line_of", defArgs s_is_line_of, defBody s_is_line_of, defScope s_is_line_of, [], []⟩
def d_read_shelf : He.DefD := ⟨("read_shelf", none), "read_shelf", "read_shelf", defArgs s_read_shelf, defBody s_read_shelf, defScope s_read_shelf, [], []⟩
def d_shelf_text : He.DefD := ⟨("shelf_text", none), "shelf_text", "shelf_text", defArgs s_shelf_text, defBody s_shelf_text, defScope s_shelf_text, [], []⟩
def d__law_is_shelf_told : He.DefD := ⟨("_law_is_shelf_told", none), "_law_is_shelf_told", "_law_is_shelf_told", defArgs s__law_is_shelf_told, defBody s__law_is_shelf_told, defScope s__law_is_shelf_told, [], []⟩
def d_is_pair_of : He.DefD := ⟨("is_pair_of", none), "is_pair_of", "is_pair_of", defArgs s_is_pair_of, defBody s_is_pair_of, defScope s_is_pair_of, [], []⟩
def d_read_sample : He.DefD := ⟨("read_sample", none), "read_sample", "read_sample", defArgs s_read_sample, defBody s_read_sample, defScope s_read_sample, [], []⟩
def d_sample_text : He.DefD := ⟨("sample_text", none), "sample_text", "sample_text", defArgs s_sample_text, defBody s_sample_text, defScope s_sample_text, [], []⟩
def d__law_is_sample_told : He.DefD := ⟨("_law_is_sample_told", none), "_law_is_sample_told", "_law_is_sample_told", defArgs s__law_is_sample_told, defBody s__law_is_sample_told, defScope s__law_is_sample_told, [], []⟩
def d_law : He.DefD := ⟨("law", none), "law", "law", defArgs s_law, defBody s_law, defScope s_law, [], []⟩
def fns : List He.DefD := [d__law_own_bag, d__law_draw, d__law_pick, d__law_sizes, d__law_numbers, d__law_power, d__law_row_of, d__law_rows_of, d__law_drawn, d__law_near_shelves, d__law_shaped, d__law_turning, d__law_beside, d__law_shelf, d__law_near_samples, d__law_shelf_line, d__law_sample_line, d__law_are_unlike, d__law_is_same, d_is_tuple, d_is_integer, d_is_whole, d_is_row_of, d_shelf_error, d_is_line_of, d_read_shelf, d_shelf_text, d__law_is_shelf_told, d_is_pair_of, d_read_sample, d_sample_text, d__law_is_sample_told, d_law]
def fas : List He.Fa := [.glo "_law_own_bag", .glo "_law_draw", .glo "_law_pick", .glo "_law_sizes", .glo "_law_numbers", .glo "_law_power", .glo "_law_row_of", .glo "_law_rows_of", .glo "_law_drawn", .glo "_law_near_shelves", .glo "_law_shaped", .glo "_law_turning", .glo "_law_beside", .glo "_law_shelf", .glo "_law_near_samples", .glo "_law_shelf_line", .glo "_law_sample_line", .glo "_law_are_unlike", .glo "_law_is_same", .glo "is_tuple", .glo "is_integer", .glo "is_whole", .glo "is_row_of", .glo "shelf_error", .glo "is_line_of", .glo "read_shelf", .glo "shelf_text", .glo "_law_is_shelf_told", .glo "is_pair_of", .glo "read_sample", .glo "sample_text", .glo "_law_is_sample_told", .glo "law", .free "int", .free "abs", .free "len", .free "reversed", .free "list", .free "range", .free "tuple", .free "sorted", .free "min", .free "max", .free "str", .free "enumerate", .free "isinstance", .free "zip", .free "all", .free "bool", .free "repr", .int "MAX_ROWS" 32, .int "MAX_POINTS" 6, .str "FIGURES" (PySem.Str.ofString "012345"), .int "MAX_SEEN" 60]
abbrev rowO : PySem.W.OpenRow := PySem.W.OpenLaw.row PySem.Challenge.rw_truerows_k06_whole_lines_read_back
abbrev hkD : PySem.W.Hook := He.hookD 4 fas fns
def obsD (s : PySem.W.SharedT) : He.AlD := He.obsDG 4 fas fns (HandSHeadRun.getT s)
theorem obs_ok (s : PySem.W.SharedT) : obsD s = hkD.obs s.abs := He.obsDG_eq (HandSHeadRun.getT_eq s)
def lz : List Str := (["MAX_POINTS", "MAX_ROWS", "MAX_SEEN", "GuessError", "BadShelf", "BadText", "is_whole", "is_integer", "is_tuple", "is_row_of", "shelf_error", "FIGURES", "shelf_text", "is_line_of", "read_shelf", "sample_text", "is_pair_of", "read_sample", "_law_own_bag", "_law_draw", "_law_pick", "_law_is_same", "_law_power", "_law_row_of", "_law_rows_of"] : List Str) ++ (["_law_drawn", "_law_shaped", "_law_beside", "_law_turning", "_law_shelf", "_law_sizes", "_law_shelf_line", "_law_sample_line", "_law_numbers", "_law_near_shelves", "_law_near_samples", "_law_is_shelf_told", "_law_is_sample_told", "_law_are_unlike"] : List Str)
theorem runs (w : World) : HandSHeadRun.RunEq rowO (PySem.W.view rowO.prog [44]) hkD obsD 4000 lz w := by
  intro os
  kernel_rfl
theorem told {P : Program} {w : World} {K : PySem.W.Frag} {h : Heap} {mg : Str → Option Value} {f : Addr} (X : K.In h) (G : h.Ns mainGlobals mg) (hfa : mg ("law" : Str) = some (.ref f)) (c : He.SaysD fas fns K) :
    ∃ fd : FuncData, K.In h ∧ (∀ (s : Shared) (v : Value), BindsTo s fd ⟨[v], []⟩ [(("script" : Str), v)]) ∧ ∀ base : Heap, K.In base → base.Ns mainGlobals mg → FnG P w K mg base (L2.CX P w) 15 f fd ["script"] (spM K Pm0.ER 1 fn_law) := by
  obtain ⟨fd__law_own_bag, F__law_own_bag⟩ := c.def_ 0 (d := d__law_own_bag) rfl
  have m__law_own_bag : mg "_law_own_bag" = _ := He.glo_ok X G (c.fact 0 (f := .glo "_law_own_bag") rfl)
  obtain ⟨fd__law_draw, F__law_draw⟩ := c.def_ 1 (d := d__law_draw) rfl
  have m__law_draw : mg "_law_draw" = _ := He.glo_ok X G (c.fact 1 (f := .glo "_law_draw") rfl)
  obtain ⟨fd__law_pick, F__law_pick⟩ := c.def_ 2 (d := d__law_pick) rfl
  have m__law_pick : mg "_law_pick" = _ := He.glo_ok X G (c.fact 2 (f := .glo "_law_pick") rfl)
  obtain ⟨fd__law_sizes, F__law_sizes⟩ := c.def_ 3 (d := d__law_sizes) rfl
  have m__law_sizes : mg "_law_sizes" = _ := He.glo_ok X G (c.fact 3 (f := .glo "_law_sizes") rfl)
  obtain ⟨fd__law_numbers, F__law_numbers⟩ := c.def_ 4 (d := d__law_numbers) rfl
  have m__law_numbers : mg "_law_numbers" = _ := He.glo_ok X G (c.fact 4 (f := .glo "_law_numbers") rfl)
  obtain ⟨fd__law_power, F__law_power⟩ := c.def_ 5 (d := d__law_power) rfl
  have m__law_power : mg "_law_power" = _ := He.glo_ok X G (c.fact 5 (f := .glo "_law_power") rfl)
  obtain ⟨fd__law_row_of, F__law_row_of⟩ := c.def_ 6 (d := d__law_row_of) rfl
  have m__law_row_of : mg "_law_row_of" = _ := He.glo_ok X G (c.fact 6 (f := .glo "_law_row_of") rfl)
  obtain ⟨fd__law_rows_of, F__law_rows_of⟩ := c.def_ 7 (d := d__law_rows_of) rfl
  have m__law_rows_of : mg "_law_rows_of" = _ := He.glo_ok X G (c.fact 7 (f := .glo "_law_rows_of") rfl)
  obtain ⟨fd__law_drawn, F__law_drawn⟩ := c.def_ 8 (d := d__law_drawn) rfl
  have m__law_drawn : mg "_law_drawn" = _ := He.glo_ok X G (c.fact 8 (f := .glo "_law_drawn") rfl)
  obtain ⟨fd__law_near_shelves, F__law_near_shelves⟩ := c.def_ 9 (d := d__law_near_shelves) rfl
  have m__law_near_shelves : mg "_law_near_shelves" = _ := He.glo_ok X G (c.fact 9 (f := .glo "_law_near_shelves") rfl)
  obtain ⟨fd__law_shaped, F__law_shaped⟩ := c.def_ 10 (d := d__law_shaped) rfl
  have m__law_shaped : mg "_law_shaped" = _ := He.glo_ok X G (c.fact 10 (f := .glo "_law_shaped") rfl)
  obtain ⟨fd__law_turning, F__law_turning⟩ := c.def_ 11 (d := d__law_turning) rfl
  have m__law_turning : mg "_law_turning" = _ := He.glo_ok X G (c.fact 11 (f := .glo "_law_turning") rfl)
  obtain ⟨fd__law_beside, F__law_beside⟩ := c.def_ 12 (d := d__law_beside) rfl
  have m__law_beside : mg "_law_beside" = _ := He.glo_ok X G (c.fact 12 (f := .glo "_law_beside") rfl)
  obtain ⟨fd__law_shelf, F__law_shelf⟩ := c.def_ 13 (d := d__law_shelf) rfl
  have m__law_shelf : mg "_law_shelf" = _ := He.glo_ok X G (c.fact 13 (f := .glo "_law_shelf") rfl)
  obtain ⟨fd__law_near_samples, F__law_near_samples⟩ := c.def_ 14 (d := d__law_near_samples) rfl
  have m__law_near_samples : mg "_law_near_samples" = _ := He.glo_ok X G (c.fact 14 (f := .glo "_law_near_samples") rfl)
  obtain ⟨fd__law_shelf_line, F__law_shelf_line⟩ := c.def_ 15 (d := d__law_shelf_line) rfl
  have m__law_shelf_line : mg "_law_shelf_line" = _ := He.glo_ok X G (c.fact 15 (f := .glo "_law_shelf_line") rfl)
  obtain ⟨fd__law_sample_line, F__law_sample_line⟩ := c.def_ 16 (d := d__law_sample_line) rfl
  have m__law_sample_line : mg "_law_sample_line" = _ := He.glo_ok X G (c.fact 16 (f := .glo "_law_sample_line") rfl)
  obtain ⟨fd__law_are_unlike, F__law_are_unlike⟩ := c.def_ 17 (d := d__law_are_unlike) rfl
  have m__law_are_unlike : mg "_law_are_unlike" = _ := He.glo_ok X G (c.fact 17 (f := .glo "_law_are_unlike") rfl)
  obtain ⟨fd__law_is_same, F__law_is_same⟩ := c.def_ 18 (d := d__law_is_same) rfl
  have m__law_is_same : mg "_law_is_same" = _ := He.glo_ok X G (c.fact 18 (f := .glo "_law_is_same") rfl)
  obtain ⟨fd_is_tuple, F_is_tuple⟩ := c.def_ 19 (d := d_is_tuple) rfl
  have m_is_tuple : mg "is_tuple" = _ := He.glo_ok X G (c.fact 19 (f := .glo "is_tuple") rfl)
  obtain ⟨fd_is_integer, F_is_integer⟩ := c.def_ 20 (d := d_is_integer) rfl
  have m_is_integer : mg "is_integer" = _ := He.glo_ok X G (c.fact 20 (f := .glo "is_integer") rfl)
  obtain ⟨fd_is_whole, F_is_whole⟩ := c.def_ 21 (d := d_is_whole) rfl
  have m_is_whole : mg "is_whole" = _ := He.glo_ok X G (c.fact 21 (f := .glo "is_whole") rfl)
  obtain ⟨fd_is_row_of, F_is_row_of⟩ := c.def_ 22 (d := d_is_row_of) rfl
  have m_is_row_of : mg "is_row_of" = _ := He.glo_ok X G (c.fact 22 (f := .glo "is_row_of") rfl)
  obtain ⟨fd_shelf_error, F_shelf_error⟩ := c.def_ 23 (d := d_shelf_error) rfl
  have m_shelf_error : mg "shelf_error" = _ := He.glo_ok X G (c.fact 23 (f := .glo "shelf_error") rfl)
  obtain ⟨fd_is_line_of, F_is_line_of⟩ := c.def_ 24 (d := d_is_line_of) rfl
  have m_is_line_of : mg "is_line_of" = _ := He.glo_ok X G (c.fact 24 (f := .glo "is_line_of") rfl)
  obtain ⟨fd_read_shelf, F_read_shelf⟩ := c.def_ 25 (d := d_read_shelf) rfl
  have m_read_shelf : mg "read_shelf" = _ := He.glo_ok X G (c.fact 25 (f := .glo "read_shelf") rfl)
  obtain ⟨fd_shelf_text, F_shelf_text⟩ := c.def_ 26 (d := d_shelf_text) rfl
  have m_shelf_text : mg "shelf_text" = _ := He.glo_ok X G (c.fact 26 (f := .glo "shelf_text") rfl)
  obtain ⟨fd__law_is_shelf_told, F__law_is_shelf_told⟩ := c.def_ 27 (d := d__law_is_shelf_told) rfl
  have m__law_is_shelf_told : mg "_law_is_shelf_told" = _ := He.glo_ok X G (c.fact 27 (f := .glo "_law_is_shelf_told") rfl)
  obtain ⟨fd_is_pair_of, F_is_pair_of⟩ := c.def_ 28 (d := d_is_pair_of) rfl
  have m_is_pair_of : mg "is_pair_of" = _ := He.glo_ok X G (c.fact 28 (f := .glo "is_pair_of") rfl)
  obtain ⟨fd_read_sample, F_read_sample⟩ := c.def_ 29 (d := d_read_sample) rfl
  have m_read_sample : mg "read_sample" = _ := He.glo_ok X G (c.fact 29 (f := .glo "read_sample") rfl)
  obtain ⟨fd_sample_text, F_sample_text⟩ := c.def_ 30 (d := d_sample_text) rfl
  have m_sample_text : mg "sample_text" = _ := He.glo_ok X G (c.fact 30 (f := .glo "sample_text") rfl)
  obtain ⟨fd__law_is_sample_told, F__law_is_sample_told⟩ := c.def_ 31 (d := d__law_is_sample_told) rfl
  have m__law_is_sample_told : mg "_law_is_sample_told" = _ := He.glo_ok X G (c.fact 31 (f := .glo "_law_is_sample_told") rfl)
  obtain ⟨fd_law, F_law⟩ := c.def_ 32 (d := d_law) rfl
  have m_law : mg "law" = _ := He.glo_ok X G (c.fact 32 (f := .glo "law") rfl)
  have g_int : mg "int" = none := He.free_ok X G (c.fact 33 (f := .free "int") rfl)
  have g_abs : mg "abs" = none := He.free_ok X G (c.fact 34 (f := .free "abs") rfl)
  have g_len : mg "len" = none := He.free_ok X G (c.fact 35 (f := .free "len") rfl)
  have g_reversed : mg "reversed" = none := He.free_ok X G (c.fact 36 (f := .free "reversed") rfl)
  have g_list : mg "list" = none := He.free_ok X G (c.fact 37 (f := .free "list") rfl)
  have g_range : mg "range" = none := He.free_ok X G (c.fact 38 (f := .free "range") rfl)
  have g_tuple : mg "tuple" = none := He.free_ok X G (c.fact 39 (f := .free "tuple") rfl)
  have g_sorted : mg "sorted" = none := He.free_ok X G (c.fact 40 (f := .free "sorted") rfl)
  have g_min : mg "min" = none := He.free_ok X G (c.fact 41 (f := .free "min") rfl)
  have g_max : mg "max" = none := He.free_ok X G (c.fact 42 (f := .free "max") rfl)
  have g_str : mg "str" = none := He.free_ok X G (c.fact 43 (f := .free "str") rfl)
  have g_enumerate : mg "enumerate" = none := He.free_ok X G (c.fact 44 (f := .free "enumerate") rfl)
  have g_isinstance : mg "isinstance" = none := He.free_ok X G (c.fact 45 (f := .free "isinstance") rfl)
  have g_zip : mg "zip" = none := He.free_ok X G (c.fact 46 (f := .free "zip") rfl)
  have g_all : mg "all" = none := He.free_ok X G (c.fact 47 (f := .free "all") rfl)
  have g_bool : mg "bool" = none := He.free_ok X G (c.fact 48 (f := .free "bool") rfl)
  have g_repr : mg "repr" = none := He.free_ok X G (c.fact 49 (f := .free "repr") rfl)
  obtain ⟨t_MAX_ROWS, i_MAX_ROWS⟩ := He.int_ok X G (c.fact 50 (f := .int "MAX_ROWS" 32) rfl)
  obtain ⟨t_MAX_POINTS, i_MAX_POINTS⟩ := He.int_ok X G (c.fact 51 (f := .int "MAX_POINTS" 6) rfl)
  obtain ⟨t_FIGURES, i_FIGURES⟩ := He.str_ok X G (c.fact 52 (f := .str "FIGURES" (PySem.Str.ofString "012345")) rfl)
  obtain ⟨t_MAX_SEEN, i_MAX_SEEN⟩ := He.int_ok X G (c.fact 53 (f := .int "MAX_SEEN" 60) rfl)
  have e := hfa.symm.trans m_law
  cases e
  have b := FunD.bindsA (ps := ["script"]) F_law fun _ _ _ _ _ _ us hl => match us, hl with | [_], _ => rfl
  refine ⟨fd_law, X, fun s v => b s [v] rfl, fun base _ _ => ?_⟩
  have c__law_own_bag := ok__law_own_bag (P := P) (w := w) (base := base) F__law_own_bag m__law_own_bag g_int g_abs g_len g_reversed g_list
  have c__law_draw := ok__law_draw (P := P) (w := w) (base := base) F__law_draw m__law_draw g_int
  have c__law_pick := ok__law_pick (P := P) (w := w) (base := base) F__law_pick m__law_pick c__law_draw g_len
  have c__law_sizes := ok__law_sizes (P := P) (w := w) (base := base) F__law_sizes m__law_sizes c__law_draw c__law_pick
  have c__law_numbers := ok__law_numbers (P := P) (w := w) (base := base) F__law_numbers m__law_numbers
  have c__law_power := ok__law_power (P := P) (w := w) (base := base) F__law_power m__law_power g_range
  have c__law_row_of := ok__law_row_of (P := P) (w := w) (base := base) F__law_row_of m__law_row_of g_int g_range g_reversed g_tuple
  have c__law_rows_of := ok__law_rows_of (P := P) (w := w) (base := base) F__law_rows_of m__law_rows_of c__law_row_of g_int g_sorted g_tuple
  have c__law_drawn := ok__law_drawn (P := P) (w := w) (base := base) F__law_drawn m__law_drawn c__law_power c__law_draw g_range g_list g_len g_min
  have c__law_near_shelves := ok__law_near_shelves (P := P) (w := w) (base := base) F__law_near_shelves m__law_near_shelves c__law_numbers c__law_draw c__law_power c__law_rows_of c__law_drawn g_len
  have c__law_shaped := ok__law_shaped (P := P) (w := w) (base := base) F__law_shaped m__law_shaped c__law_draw c__law_row_of c__law_power g_range g_len
  have c__law_turning := ok__law_turning (P := P) (w := w) (base := base) F__law_turning m__law_turning g_int g_range
  have c__law_beside := ok__law_beside (P := P) (w := w) (base := base) F__law_beside m__law_beside c__law_draw c__law_drawn c__law_power g_len g_max
  have c__law_shelf := ok__law_shelf (P := P) (w := w) (base := base) F__law_shelf m__law_shelf c__law_draw c__law_shaped c__law_turning c__law_beside c__law_drawn c__law_power c__law_rows_of g_len g_range
  have c__law_near_samples := ok__law_near_samples (P := P) (w := w) (base := base) F__law_near_samples m__law_near_samples c__law_pick c__law_draw g_range g_tuple g_reversed g_int
  have c__law_shelf_line := ok__law_shelf_line (P := P) (w := w) (base := base) F__law_shelf_line m__law_shelf_line g_str
  have c__law_sample_line := ok__law_sample_line (P := P) (w := w) (base := base) F__law_sample_line m__law_sample_line g_str
  have c__law_are_unlike := ok__law_are_unlike (P := P) (w := w) (base := base) F__law_are_unlike m__law_are_unlike g_range g_enumerate
  have c__law_is_same := ok__law_is_same (P := P) (w := w) (base := base) F__law_is_same m__law_is_same g_isinstance g_tuple g_len g_zip g_all g_bool g_str g_int RD
  have c_is_tuple := ok_is_tuple (P := P) (w := w) (base := base) F_is_tuple m_is_tuple g_isinstance g_tuple g_len
  have c_is_integer := ok_is_integer (P := P) (w := w) (base := base) F_is_integer m_is_integer g_isinstance g_int g_bool
  have c_is_whole := ok_is_whole (P := P) (w := w) (base := base) F_is_whole m_is_whole c_is_integer
  have c_is_row_of := ok_is_row_of (P := P) (w := w) (base := base) F_is_row_of m_is_row_of c_is_tuple c_is_whole g_all
  have c_shelf_error := ok_shelf_error (P := P) (w := w) (base := base) F_shelf_error m_shelf_error c_is_tuple c_is_whole c_is_row_of i_MAX_ROWS i_MAX_POINTS g_isinstance g_tuple g_len g_enumerate g_range
  have c_is_line_of := ok_is_line_of (P := P) (w := w) (base := base) F_is_line_of m_is_line_of i_MAX_POINTS i_FIGURES g_len g_all
  have c_read_shelf := ok_read_shelf (P := P) (w := w) (base := base) F_read_shelf m_read_shelf c_is_line_of c_shelf_error i_MAX_ROWS g_isinstance g_str g_len g_int g_tuple g_enumerate
  have c_shelf_text := ok_shelf_text (P := P) (w := w) (base := base) F_shelf_text m_shelf_text g_str
  have c__law_is_shelf_told := ok__law_is_shelf_told (P := P) (w := w) (base := base) F__law_is_shelf_told m__law_is_shelf_told c_read_shelf c_shelf_text c__law_is_same
  have c_is_pair_of := ok_is_pair_of (P := P) (w := w) (base := base) F_is_pair_of m_is_pair_of i_FIGURES g_len
  have c_read_sample := ok_read_sample (P := P) (w := w) (base := base) F_read_sample m_read_sample c_is_pair_of i_MAX_SEEN g_isinstance g_str g_int g_enumerate g_tuple
  have c_sample_text := ok_sample_text (P := P) (w := w) (base := base) F_sample_text m_sample_text g_str
  have c__law_is_sample_told := ok__law_is_sample_told (P := P) (w := w) (base := base) F__law_is_sample_told m__law_is_sample_told c_read_sample c_sample_text c__law_is_same
  exact ok_law F_law m_law c__law_own_bag c__law_sizes c__law_near_shelves c__law_shelf c__law_near_samples c__law_shelf_line c__law_sample_line c__law_is_shelf_told c__law_is_sample_told c__law_are_unlike c_shelf_text c_sample_text c__law_is_same c_read_shelf c_read_sample g_repr g_enumerate g_reversed g_list g_zip
end K06
open PySem PySem.W PySem.Calls PyProof.Rows in
theorem K06.ends (plain : ∀ ns : List Int, ns.length ≤ 63 → ∃ M, K06.fn_law [.ro (ns.map .int)] [] = .ok (.v (.dat (.bool true))) M) : PySem.Challenge.rw_truerows_k06_whole_lines_read_back.Holds := by
  w_on; o_law
  refine HandSHeadRun.head_any (r := K06.rowO) (q := view K06.rowO.prog [44]) (H := K06.hkD) (ob := K06.obsD) (M := 4000) (loose := K06.lz) (d := HandSHeadRun.topDef K06.rowO.prog 44) (kwd := []) K06.obs_ok
    (by kernel_rfl) (fun s => by kernel_rfl) K06.runs (by kernel_rfl) (by kernel_rfl) (by kernel_rfl) (by rfl) (by first | assumption | decide +kernel) (by decide +kernel) ⟨rfl, rfl, rfl, rfl, rfl, by decide +kernel⟩ ?hw ?hc
  case hw => w_witness2
  case hc =>
    refine Mn.walkM (l := PySem.Challenge.rw_truerows_k06_whole_lines_read_back) (k := 15) (g := K06.fn_law) rfl (by kernel_rfl) ⟨rfl, by decide, by decide⟩ plain ?_
    intro w mg fa h Y G hmg0
    obtain ⟨K, KX, c⟩ := Y
    have hmg : mg ("law" : PySem.Str) = some (.ref fa) := by
      have e : (HandSHeadRun.topDef K06.rowO.prog 44).name = ("law" : PySem.Str) := by kernel_rfl
      rw [← e]
      exact hmg0
    obtain ⟨fd, hK, hb, hF⟩ := K06.told (P := (PySem.Challenge.rw_truerows_k06_whole_lines_read_back).prog) (w := w) KX G hmg c
    exact ⟨K, fd, hK, hb, hF⟩


set_option Elab.async false
set_option linter.all false
set_option maxRecDepth 100000
set_option maxHeartbeats 4000000
namespace Mn
open PySem PySem.Spec PyProof.Rows L2

@[simp] theorem SL_val : SL = 16777216 := nofl rfl
@[simp] theorem filter_tt {α : Type} (l : List α) : l.filter (fun _ => true) = l := List.filter_eq_self.mpr fun _ _ => rfl
theorem Nx.by_ {o : Option (Fl × MSt × MH)} {Q : MSt → MH → Prop} {st : MSt} {M : MH} (q : Q st M) (h : o = some (.nx, st, M)) : Nx o Q := by
  rw [h]
  exact .mk q
theorem Rs.by_ {o : Option (Fl × MSt × MH)} {Q : Sl → MH → Prop} {s : Sl} {st : MSt} {M : MH} (q : Q s M) (h : o = some (.ret s, st, M)) : Rs o Q := by
  rw [h]
  exact .ret q
theorem Rs.step {o : Option (Fl × MSt × MH)} {k : Tm} {Q : Sl → MH → Prop} (st : MSt) (M : MH) (h : o = some (.nx, st, M)) (q : Rs (k st M) Q) : Rs (sq o k) Q := by
  rw [h]
  exact q
theorem Nx.step {o : Option (Fl × MSt × MH)} {k : Tm} {Q : MSt → MH → Prop} (st : MSt) (M : MH) (h : o = some (.nx, st, M)) (q : Nx (k st M) Q) : Nx (sq o k) Q := by
  rw [h]
  exact q
theorem Rs.seq {f k : Tm} {st0 : MSt} {M0 : MH} {Q : Sl → MH → Prop} (st : MSt) (M : MH) (h : f st0 M0 = some (.nx, st, M)) (q : Rs (k st M) Q) : Rs (tmSeq f k st0 M0) Q := by
  rw [w_seq]
  exact Rs.step st M h q
theorem Rs_seq {f k : Tm} {st0 : MSt} {M0 : MH} {Q : Sl → MH → Prop} (h : Nx (f st0 M0) fun st M => Rs (k st M) Q) : Rs (tmSeq f k st0 M0) Q := by
  rw [w_seq]
  exact Rs_sq h
theorem Nx.seq {f k : Tm} {st0 : MSt} {M0 : MH} {Q : MSt → MH → Prop} (st : MSt) (M : MH) (h : f st0 M0 = some (.nx, st, M)) (q : Nx (k st M) Q) : Nx (tmSeq f k st0 M0) Q := by
  rw [w_seq]
  exact Nx.step st M h q
theorem Nx_seq {f k : Tm} {st0 : MSt} {M0 : MH} {Q : MSt → MH → Prop} (h : Nx (f st0 M0) fun st M => Nx (k st M) Q) : Nx (tmSeq f k st0 M0) Q := by
  rw [w_seq]
  exact Nx_sq h
theorem Rs_seqQ {f k : Tm} {st0 : MSt} {M0 : MH} {Q : Sl → MH → Prop} (R : MSt → MH → Prop) (h : Nx (f st0 M0) R) (q : ∀ st M, R st M → Rs (k st M) Q) : Rs (tmSeq f k st0 M0) Q := Rs_seq (h.mp q)
theorem Nx_seqQ {f k : Tm} {st0 : MSt} {M0 : MH} {Q : MSt → MH → Prop} (R : MSt → MH → Prop) (h : Nx (f st0 M0) R) (q : ∀ st M, R st M → Nx (k st M) Q) : Nx (tmSeq f k st0 M0) Q := Nx_seq (h.mp q)
theorem Nx.tif {c : Ex Bool} {a b : Tm} {st : MSt} {M : MH} {Q : MSt → MH → Prop} (x : Bool) (M1 : MH) (h : c st M = .ok x M1) (ha : x = true → Nx (a st M1) Q) (hb : x = false → Nx (b st M1) Q) : Nx (tmIf c a b st M) Q := by
  rw [w_tif, h, ot_ok]
  cases x with
  | true => exact ha rfl
  | false => exact hb rfl
theorem Rs.tif {c : Ex Bool} {a b : Tm} {st : MSt} {M : MH} {Q : Sl → MH → Prop} (x : Bool) (M1 : MH) (h : c st M = .ok x M1) (ha : x = true → Rs (a st M1) Q) (hb : x = false → Rs (b st M1) Q) : Rs (tmIf c a b st M) Q := by
  rw [w_tif, h, ot_ok]
  cases x with
  | true => exact ha rfl
  | false => exact hb rfl
theorem Rs.rt {f : Ex Sl} {st : MSt} {M M' : MH} {s : Sl} {Q : Sl → MH → Prop} (q : Q s M') (h : f st M = .ok s M') : Rs (tmRt f st M) Q := by
  rw [w_rt, h]
  exact .ret q
theorem Nx.opq {o : Option (Fl × MSt × MH)} {Q : MSt → MH → Prop} (h : ∀ Q' : MSt → MH → Prop, (∀ st M, Q st M → Q' st M) → Nx o Q') : Nx o Q := h Q fun _ _ q => q
theorem Rs.opq {o : Option (Fl × MSt × MH)} {Q : Sl → MH → Prop} (h : ∀ Q' : Sl → MH → Prop, (∀ s M, Q s M → Q' s M) → Rs o Q') : Rs o Q := h Q fun _ _ q => q
theorem Ok.opq {α : Type} {o : Out α} {Q : α → MH → Prop} (h : ∀ Q' : α → MH → Prop, (∀ s M, Q s M → Q' s M) → Ok o Q') : Ok o Q := h Q fun _ _ q => q
theorem filter_step (p : Nat → Bool) (i : Nat) : (List.range (i + 1)).filter p = (List.range i).filter p ++ if p i = true then [i] else [] := by
  rw [List.range_succ, List.filter_append, List.filter_cons, List.filter_nil]
theorem filter_rlen (p : Nat → Bool) (i : Nat) : ((List.range i).filter p).length ≤ i := by
  have := List.length_filter_le p (List.range i)
  rwa [List.length_range] at this
/-! ### loops that may return -/
inductive Fw (I : MSt → MH → Prop) (Q : Sl → MH → Prop) : Option (Fl × MSt × MH) → Prop
  | nx {st : MSt} {M : MH} : I st M → Fw I Q (some (.nx, st, M))
  | ret {s : Sl} {st : MSt} {M : MH} : Q s M → Fw I Q (some (.ret s, st, M))
theorem Fw.nx_ {o : Option (Fl × MSt × MH)} {I : MSt → MH → Prop} {Q : Sl → MH → Prop} {st : MSt} {M : MH} (q : I st M) (h : o = some (.nx, st, M)) : Fw I Q o := by
  rw [h]
  exact .nx q
theorem Fw.ret_ {o : Option (Fl × MSt × MH)} {I : MSt → MH → Prop} {Q : Sl → MH → Prop} {s : Sl} {st : MSt} {M : MH} (q : Q s M) (h : o = some (.ret s, st, M)) : Fw I Q o := by
  rw [h]
  exact .ret q
theorem Fw.of_nx {o : Option (Fl × MSt × MH)} {I : MSt → MH → Prop} {Q : Sl → MH → Prop} (h : Nx o I) : Fw I Q o := by
  obtain ⟨st, M, rfl, q⟩ := h.ex
  exact .nx q
theorem Fw.seq {f k : Tm} {st0 : MSt} {M0 : MH} {I : MSt → MH → Prop} {Q : Sl → MH → Prop} (st : MSt) (M : MH) (h : f st0 M0 = some (.nx, st, M)) (q : Fw I Q (k st M)) : Fw I Q (tmSeq f k st0 M0) := by
  rw [w_seq, h]
  exact q
theorem Rs_foR {g : Tgt} {b k : Tm} {Q : Sl → MH → Prop} (Inv : Nat → MSt → MH → Prop) {ds : List PyData} {st : MSt} {M : MH} (h0 : Inv 0 st M)
    (step : ∀ i d st M, ds[i]? = some d → Inv i st M → Fw (Inv (i + 1)) Q (ob (g (.v (.dat d)) st) fun st1 => b st1 M)) (hq : ∀ st M, Inv ds.length st M → Rs (k st M) Q) : Rs (sq (foGo g b ds st M) k) Q := by
  suffices H : ∀ (n : Nat) (st : MSt) (M : MH) (es : List PyData), (∀ i d st M, es[i]? = some d → Inv (n + i) st M → Fw (Inv (n + i + 1)) Q (ob (g (.v (.dat d)) st) fun st1 => b st1 M)) → Inv n st M → (∀ st M, Inv (n + es.length) st M → Rs (k st M) Q) → Rs (sq (foGo g b es st M) k) Q by
    refine H 0 st M ds (fun i d st M hd hi => ?_) h0 fun st M hi => hq st M (by rw [Nat.zero_add] at hi; exact hi)
    rw [Nat.zero_add] at hi ⊢
    exact step i d st M hd hi
  intro n st M es
  induction es generalizing n st M with
  | nil => exact fun _ h q => q st M (by simpa using h)
  | cons d r ih =>
    intro step h q
    have f := step 0 d st M rfl (by simpa using h)
    generalize e2 : ob (g (.v (.dat d)) st) (fun st1 => b st1 M) = o at f
    show Rs (sq (match g (.v (.dat d)) st with | none => none | some st1 => match b st1 M with | some (.nx, st2, M2) => foGo g b r st2 M2 | some (.cont, st2, M2) => foGo g b r st2 M2 | some (.brk, st2, M2) => some (.nx, st2, M2) | o => o) k) Q
    cases f with
    | @nx st2 M2 h2 =>
      obtain ⟨st1, e1, e2⟩ := Option.bind_eq_some_iff.mp e2
      rw [e1]
      simp only
      rw [e2]
      refine ih (n + 1) st2 M2 (fun i d' st M hd hi => ?_) (by simpa using h2) fun st M hi => q st M (by rw [List.length_cons, show n + (r.length + 1) = n + 1 + r.length by omega]; exact hi)
      have z := step (i + 1) d' st M (by simpa using hd) (by rw [show n + (i + 1) = n + 1 + i by omega]; exact hi)
      rw [show n + (i + 1) + 1 = n + 1 + i + 1 by omega] at z
      exact z
    | @ret s st2 M2 h2 =>
      obtain ⟨st1, e1, e2⟩ := Option.bind_eq_some_iff.mp e2
      rw [e1]
      simp only
      rw [e2]
      exact .ret h2
theorem Rs_forA_ret {k : Nat} {v : Val} {ds : List PyData} (hv : v = .dat (.tuple ds) ∨ v = .dat (.list ds)) {g : Tgt} {b : Tm} : foA k g b v = foGo g b ds := by
  rcases hv with rfl | rfl <;> rfl
/-! ### ranges -/
theorem rgD_eq (lo hi : Int) : rgD lo hi = (List.range (hi - lo).toNat).map fun i => PyData.int (lo + (i : Nat)) := rfl
theorem rgD_get {lo hi : Int} {i : Nat} {d : PyData} (h : (rgD lo hi)[i]? = some d) : d = .int (lo + i) ∧ i < (hi - lo).toNat := by
  rw [rgD_eq, List.getElem?_map, Option.map_eq_some_iff] at h
  obtain ⟨j, hj, rfl⟩ := h
  obtain ⟨hl, e⟩ := List.getElem?_eq_some_iff.mp hj
  rw [List.getElem_range] at e
  rw [List.length_range] at hl
  subst e
  exact ⟨rfl, hl⟩
theorem rgD_mem {lo hi : Int} {d : PyData} (h : d ∈ rgD lo hi) : ∃ i : Nat, d = .int (lo + i) ∧ i < (hi - lo).toNat := by
  obtain ⟨i, hi'⟩ := List.getElem?_of_mem h
  exact ⟨i, rgD_get hi'⟩
theorem rgD_nat (n : Nat) : rgD 0 n = (List.range n).map fun i => PyData.int (i : Nat) := by
  rw [rgD_eq]
  simp
theorem rgSm_nat {n : Nat} (h : n < 4611686018427387904) : rgSm 0 n = true := by
  unfold rgSm
  simp
  omega
theorem rgSm_int {a b : Int} (h1 : -1000000000 < a) (h2 : a < 1000000000) (h3 : -1000000000 < b) (h4 : b < 1000000000) : rgSm a b = true := by
  unfold rgSm
  simp
  omega
theorem rgOk_int {a b : Int} (h1 : -1000000 < a) (h2 : a < 1000000) (h3 : -1000000 < b) (h4 : b < 1000000) : rgOk a b = true := by
  unfold rgOk
  apply decide_eq_true
  refine ⟨by omega, by omega, by omega, by omega, by omega⟩
/-! ### places -/
theorem atI_pos {α : Type} (xs : List α) {i : Int} (h : 0 ≤ i) : atI xs i = xs[i.toNat]? := by
  unfold atI ixN
  rw [if_pos h]
  by_cases hi : i < xs.length
  · rw [if_pos hi]
    rfl
  · rw [if_neg hi, List.getElem?_eq_none (by omega)]
    rfl
@[simp] theorem atI_nat {α : Type} (xs : List α) (n : Nat) : atI xs (n : Int) = xs[n]? := by rw [atI_pos xs (by omega), Int.toNat_natCast]
@[simp] theorem atI_0 {α : Type} (xs : List α) : atI xs 0 = xs[0]? := atI_nat xs 0
@[simp] theorem atI_1 {α : Type} (xs : List α) : atI xs 1 = xs[1]? := atI_nat xs 1
@[simp] theorem atI_2 {α : Type} (xs : List α) : atI xs 2 = xs[2]? := atI_nat xs 2
@[simp] theorem atI_3 {α : Type} (xs : List α) : atI xs 3 = xs[3]? := atI_nat xs 3
@[simp] theorem atI_4 {α : Type} (xs : List α) : atI xs 4 = xs[4]? := atI_nat xs 4
@[simp] theorem atI_5 {α : Type} (xs : List α) : atI xs 5 = xs[5]? := atI_nat xs 5
@[simp] theorem atI_6 {α : Type} (xs : List α) : atI xs 6 = xs[6]? := atI_nat xs 6
@[simp] theorem atI_last {α : Type} (xs : List α) : atI xs (-1) = xs[xs.length - 1]? := by
  unfold atI ixN
  rw [if_neg (by decide)]
  by_cases h : xs.length = 0
  · rw [if_neg (by omega), List.getElem?_eq_none (by omega)]
    rfl
  · rw [if_pos (by omega), show (-1 + (xs.length : Int)).toNat = xs.length - 1 by omega]
    rfl
theorem ixN_pos {n : Nat} {i : Int} (h : 0 ≤ i) (hi : i < n) : ixN n i = some i.toNat := by
  unfold ixN
  rw [if_pos h, if_pos hi]
@[simp] theorem ixN_0 (n : Nat) : ixN n 0 = if 0 < n then some 0 else none := by
  unfold ixN
  simp
@[simp] theorem ixN_1 (n : Nat) : ixN n 1 = if 1 < n then some 1 else none := by
  unfold ixN
  simp
  split <;> split <;> first | rfl | omega
@[simp] theorem ixN_2 (n : Nat) : ixN n 2 = if 2 < n then some 2 else none := by
  unfold ixN
  simp
  split <;> split <;> first | rfl | omega
theorem seqIx_pos {n : Nat} {i : Int} (h : 0 ≤ i) (hi : i < n) : seqIndex? i n = some i.toNat := by
  unfold seqIndex?
  simp [show ¬ i < 0 by omega, h, hi]
/-! ### while -/
theorem Nx_wh {c : Ex Bool} {b : Tm} {Q : MSt → MH → Prop} (Inv : Nat → MSt → MH → Prop) (step : ∀ m st M, Inv m st M → (∃ M1, c st M = .ok false M1 ∧ Q st M1) ∨ ∃ M1, c st M = .ok true M1 ∧ Nx (b st M1) fun st2 M2 => ∃ m', m' < m ∧ Inv m' st2 M2) :
    ∀ (n m : Nat) (st : MSt) (M : MH), m < n → Inv m st M → Nx (whGo c b n st M) Q
  | 0, _, _, _, h, _ => absurd h (Nat.not_lt_zero _)
  | n + 1, m, st, M, h, i => by
    rw [whGo]
    rcases step m st M i with ⟨M1, e, q⟩ | ⟨M1, e, q⟩
    · rw [e]
      exact .mk q
    · rw [e]
      simp only
      obtain ⟨st2, M2, e2, m', hm, i2⟩ := q.ex
      rw [e2]
      exact Nx_wh Inv step n m' st2 M2 (by omega) i2
theorem Rs_wh {c : Ex Bool} {b k : Tm} {Q : Sl → MH → Prop} (Inv : Nat → MSt → MH → Prop) {n m : Nat} {st : MSt} {M : MH} (hm : m < n) (h0 : Inv m st M)
    (step : ∀ m st M, Inv m st M → (∃ M1, c st M = .ok false M1 ∧ Inv m st M1) ∨ ∃ M1, c st M = .ok true M1 ∧ Nx (b st M1) fun st2 M2 => ∃ m', m' < m ∧ Inv m' st2 M2) (hq : ∀ m st M, Inv m st M → Rs (k st M) Q) : Rs (sq (whGo c b n st M) k) Q := by
  refine Rs_sq (Nx_wh Inv (fun m st M h => ?_) n m st M hm h0)
  rcases step m st M h with ⟨M1, e, h1⟩ | h1
  · exact .inl ⟨M1, e, hq m st M1 h1⟩
  · exact .inr h1
theorem FU_lt {m : Nat} (h : m < 16777217) : m < FU := by
  unfold FU
  omega
/-! ### plain data -/
/-- no dict, texts in order, depth at most n -/
def Sh (n : Nat) (d : PyData) : Prop := d.canLay0 = true ∧ d.depth ≤ n
theorem Sh.mono {n m : Nat} {d : PyData} (h : Sh n d) (hm : n ≤ m) : Sh m d := ⟨h.1, Nat.le_trans h.2 hm⟩
theorem Sh.int {n : Nat} (i : Int) : Sh n (.int i) := ⟨by simp [PyData.canLay0], by simp [PyData.depth]⟩
theorem Sh.bool {n : Nat} (i : Bool) : Sh n (.bool i) := ⟨by simp [PyData.canLay0], by simp [PyData.depth]⟩
theorem Sh.none {n : Nat} : Sh n .none := ⟨by simp [PyData.canLay0], by simp [PyData.depth]⟩
theorem Sh.all {n : Nat} : ∀ {ds : List PyData}, (∀ d ∈ ds, Sh n d) → PyData.canLayAll0 ds = true ∧ PyData.depthAll ds ≤ n
  | [], _ => ⟨by simp [PyData.canLayAll0], by simp [PyData.depthAll]⟩
  | d :: r, h => by
    obtain ⟨h1, h2⟩ := h d (List.mem_cons_self ..)
    obtain ⟨h3, h4⟩ := Sh.all (ds := r) fun e he => h e (List.mem_cons_of_mem _ he)
    refine ⟨by simp [PyData.canLayAll0, h1, h3], ?_⟩
    rw [PyData.depthAll]
    exact Nat.max_le.mpr ⟨h2, h4⟩
theorem Sh.list {n : Nat} {ds : List PyData} (h : ∀ d ∈ ds, Sh n d) : Sh (n + 1) (.list ds) := by
  obtain ⟨h1, h2⟩ := Sh.all h
  exact ⟨by rw [PyData.canLay0]; exact h1, by rw [PyData.depth]; omega⟩
theorem Sh.tuple {n : Nat} {ds : List PyData} (h : ∀ d ∈ ds, Sh n d) : Sh (n + 1) (.tuple ds) := by
  obtain ⟨h1, h2⟩ := Sh.all h
  exact ⟨by rw [PyData.canLay0]; exact h1, by rw [PyData.depth]; omega⟩
theorem Sh.shaped {n : Nat} {d : PyData} (h : Sh n d) (hn : n ≤ 64 := by decide) : SeqAt.shaped d = true := by
  unfold SeqAt.shaped
  rw [h.1, Bool.true_and]
  exact decide_eq_true (Nat.le_trans h.2 hn)
@[simp] theorem shaped_int (i : Int) : SeqAt.shaped (.int i) = true := (Sh.int (n := 0) i).shaped
@[simp] theorem shaped_bool (i : Bool) : SeqAt.shaped (.bool i) = true := (Sh.bool (n := 0) i).shaped
@[simp] theorem shaped_none : SeqAt.shaped .none = true := (Sh.none (n := 0)).shaped
@[simp] theorem shaped_nilL : SeqAt.shaped (.list []) = true := (Sh.list (n := 0) (ds := []) (by simp)).shaped
@[simp] theorem shaped_nilT : SeqAt.shaped (.tuple []) = true := (Sh.tuple (n := 0) (ds := []) (by simp)).shaped
def iDs (ns : List Int) : List PyData := ns.map .int
@[simp] theorem iDs_nil : iDs [] = [] := rfl
@[simp] theorem iDs_cons (n : Int) (r : List Int) : iDs (n :: r) = .int n :: iDs r := rfl
@[simp] theorem iDs_length (ns : List Int) : (iDs ns).length = ns.length := by simp [iDs]
theorem iDs_mem {ns : List Int} {d : PyData} (h : d ∈ iDs ns) : ∃ n ∈ ns, d = .int n := by
  obtain ⟨n, hn, e⟩ := List.mem_map.mp h
  exact ⟨n, hn, e.symm⟩
theorem Sh.ints (ns : List Int) {k : Nat} : ∀ d ∈ iDs ns, Sh k d := fun d h => by
  obtain ⟨n, _, rfl⟩ := iDs_mem h
  exact .int n
@[simp] theorem shaped_intL (ns : List Int) : SeqAt.shaped (.list (iDs ns)) = true := (Sh.list (n := 0) (Sh.ints ns)).shaped
@[simp] theorem shaped_intT (ns : List Int) : SeqAt.shaped (.tuple (iDs ns)) = true := (Sh.tuple (n := 0) (Sh.ints ns)).shaped
@[simp] theorem eqv_int (i j : Int) : PyData.eqv (.int i) (.int j) = (i == j) := by simp [PyData.eqv]
@[simp] theorem eqv_bool (i j : Bool) : PyData.eqv (.bool i) (.bool j) = (i == j) := by simp [PyData.eqv]
@[simp] theorem eqvAll_ints : ∀ xs ys : List Int, PyData.eqvAll (iDs xs) (iDs ys) = (xs == ys)
  | [], [] => by simp [PyData.eqvAll]
  | [], _ :: _ => by simp [PyData.eqvAll]
  | _ :: _, [] => by simp [PyData.eqvAll]
  | x :: xs, y :: ys => by
    simp only [iDs_cons, PyData.eqvAll, eqv_int, eqvAll_ints xs ys]
    rfl
@[simp] theorem eqv_intT (xs ys : List Int) : PyData.eqv (.tuple (iDs xs)) (.tuple (iDs ys)) = (xs == ys) := by simp [PyData.eqv]
@[simp] theorem eqv_intL (xs ys : List Int) : PyData.eqv (.list (iDs xs)) (.list (iDs ys)) = (xs == ys) := by simp [PyData.eqv]
@[simp] theorem eqv_nilL (xs : List PyData) : PyData.eqv (.list xs) (.list []) = xs.isEmpty := by
  cases xs <;> simp [PyData.eqv, PyData.eqvAll]
@[simp] theorem eqv_nilT (xs : List PyData) : PyData.eqv (.tuple xs) (.tuple []) = xs.isEmpty := by
  cases xs <;> simp [PyData.eqv, PyData.eqvAll]
/-! ### the bag -/
structure BagC (M : MH) (cs : List Int) (x y : Int) : Prop where
  c : M[0]? = some (.lst ((iDs cs).map .dat))
  b : M[1]? = some (.lst [.loc 0, .dat (.int x), .dat (.int y)])
  x0 : 0 ≤ x
  cs0 : ∀ c ∈ cs, 0 ≤ c
  len : cs.length ≤ 1000
def Bag (M : MH) : Prop := ∃ cs x y, BagC M cs x y
/-- what a def that draws does to the shared objects: the bag's own cells alone change, new ones may come -/
structure Kp (M M' : MH) : Prop where
  bag : Bag M'
  le : M.length ≤ M'.length
  old : ∀ n, 2 ≤ n → n < M.length → M'[n]? = M[n]?
theorem Kp.refl {M : MH} (h : Bag M) : Kp M M := ⟨h, Nat.le_refl _, fun _ _ _ => rfl⟩
theorem Kp.trans {M M' M'' : MH} (a : Kp M M') (b : Kp M' M'') : Kp M M'' := ⟨b.bag, Nat.le_trans a.le b.le, fun n h1 h2 => (b.old n h1 (Nat.lt_of_lt_of_le h2 a.le)).trans (a.old n h1 h2)⟩
theorem BagC.lt {M : MH} {cs : List Int} {x y : Int} (h : BagC M cs x y) : 2 ≤ M.length := by
  have := (List.getElem?_eq_some_iff.mp h.b).1
  omega
theorem Bag.lt {M : MH} (h : Bag M) : 2 ≤ M.length := by
  obtain ⟨_, _, _, h⟩ := h
  exact h.lt
/-- more objects behind -/
theorem Bag.app {M : MH} (h : Bag M) (N : MH) : Bag (M ++ N) := by
  obtain ⟨cs, x, y, h⟩ := h
  have := h.lt
  exact ⟨cs, x, y, by rw [List.getElem?_append_left (by omega)]; exact h.c, by rw [List.getElem?_append_left (by omega)]; exact h.b, h.x0, h.cs0, h.len⟩
theorem Kp.app {M : MH} (h : Bag M) (N : MH) : Kp M (M ++ N) := ⟨h.app N, by simp, fun n _ h2 => List.getElem?_append_left h2⟩
theorem datAll_dat (ds : List PyData) : datAll (ds.map .dat) = some ds := datAll_map ds
theorem BagC.kp {M M' : MH} {cs cs' : List Int} {x y x' y' : Int} (h : BagC M cs x y) (h' : BagC M' cs' x' y') (hl : M'.length = M.length) (old : ∀ n, 2 ≤ n → M'[n]? = M[n]?) : Kp M M' := ⟨⟨_, _, _, h'⟩, by omega, fun n h2 _ => old n h2⟩
/-- the bag's own list is written -/
theorem BagC.set1 {M : MH} {cs : List Int} {x y x' y' : Int} (h : BagC M cs x y) (h0 : 0 ≤ x') : BagC (M.set 1 (.lst [.loc 0, .dat (.int x'), .dat (.int y')])) cs x' y' := by
  have := h.lt
  refine ⟨?_, ?_, h0, h.cs0, h.len⟩
  · rw [List.getElem?_set_ne (by decide)]
    exact h.c
  · exact List.getElem?_set_self (by omega)
theorem BagC.set0 {M : MH} {cs cs' : List Int} {x y : Int} (h : BagC M cs x y) (h0 : ∀ c ∈ cs', 0 ≤ c) (hl : cs'.length ≤ 1000) : BagC (M.set 0 (.lst ((iDs cs').map .dat))) cs' x y := by
  have := h.lt
  refine ⟨?_, ?_, h.x0, h0, hl⟩
  · exact List.getElem?_set_self (by omega)
  · rw [List.getElem?_set_ne (by decide)]
    exact h.b
theorem Kp.set1 {M M' : MH} {cs : List Int} {x y x' y' : Int} (k : Kp M M') (h : BagC M' cs x y) (h0 : 0 ≤ x') : Kp M (M'.set 1 (.lst [.loc 0, .dat (.int x'), .dat (.int y')])) :=
  k.trans (h.kp (h.set1 h0) (by simp) fun n h2 => List.getElem?_set_ne (by omega))
theorem Kp.set0 {M M' : MH} {cs cs' : List Int} {x y : Int} (k : Kp M M') (h : BagC M' cs x y) (h0 : ∀ c ∈ cs', 0 ≤ c) (hl : cs'.length ≤ 1000) : Kp M (M'.set 0 (.lst ((iDs cs').map .dat))) :=
  k.trans (h.kp (h.set0 h0 hl) (by simp) fun n h2 => List.getElem?_set_ne (by omega))
theorem iDs_isEmpty (cs : List Int) : (iDs cs).isEmpty = cs.isEmpty := by cases cs <;> rfl
theorem iDs_dropLast (cs : List Int) : (iDs cs).dropLast = iDs cs.dropLast := by simp [iDs, List.map_dropLast]
theorem Ok.eq {α : Type} {o : Out α} {a : α} {M : MH} (h : Ok o fun v M' => v = a ∧ M' = M) : o = .ok a M := by
  obtain ⟨v, M', e, rfl, rfl⟩ := h.ex
  exact e
/-- data that is ints in tuples, of a depth -/
inductive Gd : Nat → PyData → Prop
  | int {n : Nat} (i : Int) : Gd n (.int i)
  | tup {n : Nat} {ds : List PyData} : (∀ d ∈ ds, Gd n d) → ds.length ≤ SL → Gd (n + 1) (.tuple ds)
theorem Gd.mono {n m : Nat} {d : PyData} (h : Gd n d) (hm : n ≤ m) : Gd m d := by
  induction h generalizing m with
  | int i => exact .int i
  | tup h1 h2 ih =>
    obtain ⟨k, rfl⟩ : ∃ k, m = k + 1 := ⟨m - 1, by omega⟩
    exact .tup (fun d hd => ih d hd (by omega)) h2
theorem Gd.sh {n : Nat} {d : PyData} (h : Gd n d) : Sh n d := by
  induction h with
  | int i => exact .int i
  | tup h1 h2 ih => exact Sh.tuple ih
theorem Gd.ints (ns : List Int) {n : Nat} : ∀ d ∈ iDs ns, Gd n d := fun d h => by
  obtain ⟨k, _, rfl⟩ := iDs_mem h
  exact .int k
theorem zpD_self_mem {ds : List PyData} {z : PyData} (h : z ∈ zpD ds ds) : ∃ d ∈ ds, z = pairD d d := by
  obtain ⟨i, hi⟩ := List.getElem?_of_mem h
  unfold zpD at hi
  rw [List.getElem?_zipWith] at hi
  cases e : ds[i]? with
  | none => rw [e] at hi; cases hi
  | some d =>
    rw [e] at hi
    cases hi
    exact ⟨d, List.mem_of_getElem? e, rfl⟩
theorem mapTrue {α : Type} (l : List α) : (l.map fun _ => PyData.bool true) = (l.map fun _ => true).map .bool := by simp
@[simp] theorem gAll_true {α : Type} (l : List α) : gAll [.list (l.map fun _ => PyData.bool true)] = some (.bool true) := by
  rw [mapTrue, gAll_map]
  simp
@[simp] theorem zpD_self_length (ds : List PyData) : (zpD ds ds).length = ds.length := by rw [zpD_len]; omega
theorem lc_map0 {st : MSt} {g : Tgt} {f : Ex Val} {M : MH} {F : PyData → PyData} {ds : List PyData} (h : ∀ d ∈ ds, ∃ st1, g (.v (.dat d)) st = some st1 ∧ f st1 M = .ok (.dat (F d)) M) (hl : ds.length ≤ SL) : lcGo st g cYes f [] ds M = .ok (ds.map F) M := by
  have e := lc_map (st := st) (g := g) (c := cYes) (f := f) (M := M) (p := fun _ => true) (F := F) (ds := ds) (acc := []) (fun d hd => let ⟨st1, e1, e2⟩ := h d hd; ⟨st1, e1, rfl, fun _ => e2⟩) (by simpa using hl)
  rw [e, List.filter_eq_self.mpr fun _ _ => rfl]
  rfl
end Mn

set_option Elab.async false
set_option linter.all false
set_option maxRecDepth 100000
set_option maxHeartbeats 4000000
namespace K06
open PySem PySem.Spec PyProof.Rows L2 Mn

theorem law_draw_ok {M : MH} (hb : Bag M) {below : Int} (h0 : 0 < below) (h1 : below < 1073741824) : Ok (fn__law_draw [.loc 1, .dat (.int below)] M) fun v M' => (∃ r : Int, v = .v (.dat (.int r)) ∧ 0 ≤ r ∧ r < below) ∧ Kp M M' ∧ M'.length = M.length := by
  apply go__law_draw
  unfold tm__law_draw
  simp only [w_seq]
  obtain ⟨cs0, x0, y0, b0⟩ := id hb
  refine Rs_wh (fun m st M1 => (∃ t, st = [some (.v (.loc 1)), some (.v (.dat (.int below))), t, none]) ∧ Kp M M1 ∧ M1.length = M.length ∧ ∃ cs x y, BagC M1 cs x y ∧ m = cs.length) (m := cs0.length) (FU_lt (by have := b0.len; omega)) ⟨⟨none, rfl⟩, Kp.refl hb, rfl, cs0, x0, y0, b0, rfl⟩ ?_ ?_
  · rintro m st M1 ⟨⟨t, rfl⟩, hk, hl, cs, x, y, b, rfl⟩
    have e1 := lstAt_eq b.b
    have e0 := lstAt_eq b.c
    by_cases hx : x = 0
    · by_cases hc : cs = []
      · left
        subst hx hc
        exact ⟨M1, by simp [ixVal_loc, e1, deref_loc, e0, datAll_dat], ⟨t, rfl⟩, hk, hl, _, _, _, b, rfl⟩
      · right
        subst hx
        have hpos := List.length_pos_iff.mpr hc
        obtain ⟨c, hcl⟩ : ∃ c, cs[cs.length - 1]? = some c := ⟨cs[cs.length - 1]'(by omega), List.getElem?_eq_getElem _⟩
        have hcm : 0 ≤ c := b.cs0 c (List.mem_of_getElem? hcl)
        have hlast : (iDs cs)[cs.length - 1]? = some (.int c) := by
          rw [iDs, List.getElem?_map, hcl]
          rfl
        have hne : (iDs cs).isEmpty = false := by
          rw [iDs_isEmpty]
          cases cs with
          | nil => exact absurd rfl hc
          | cons _ _ => rfl
        have hdr : ((iDs cs).map Val.dat).dropLast = (iDs cs.dropLast).map Val.dat := by rw [← iDs_dropLast, List.map_dropLast]
        have hcs : ∀ d ∈ cs.dropLast, 0 ≤ d := fun d hd => b.cs0 d (List.dropLast_subset _ hd)
        have hlen : cs.dropLast.length ≤ 1000 := by have := b.len; simp; omega
        have b2 := b.set0 hcs hlen
        have k2 := hk.set0 b hcs hlen
        have e2 := lstAt_eq b2.b
        refine ⟨M1, by simp [ixVal_loc, e1, deref_loc, e0, datAll_dat, hne], ?_⟩
        by_cases hbig : 1000000000 < c
        · simp [ixVal_loc, e1, e0, hlast, hdr, hbig, e2]
          exact ⟨cs.dropLast.length, by simp; omega, k2.set1 b2 hcm, hl, _, ⟨_, _, b2.set1 hcm⟩, rfl⟩
        · simp [ixVal_loc, e1, e0, hlast, hdr, hbig, e2]
          exact ⟨cs.dropLast.length, by simp; omega, k2.set1 b2 (by omega), hl, _, ⟨_, _, b2.set1 (by omega)⟩, rfl⟩
    · left
      exact ⟨M1, by simp [ixVal_loc, e1, hx], ⟨t, rfl⟩, hk, hl, _, _, _, b, rfl⟩
  · rintro m st M1 ⟨⟨t, rfl⟩, hk, hl, cs, x, y, b, rfl⟩
    have e1 := lstAt_eq b.b
    have hx := b.x0
    by_cases hpos : 0 < x
    · have h2 : 0 ≤ x / below := Int.ediv_nonneg hx (by omega)
      simp [ixVal_loc, e1, hpos, h0, h1]
      exact ⟨⟨Int.emod_nonneg _ (by omega), Int.emod_lt_of_pos _ h0⟩, hk.set1 b h2, hl⟩
    · have b2 := b.set1 (x' := x) (y' := (y * 48271 + 11) % 2147483647) hx
      have e2 := lstAt_eq b2.b
      have hy1 : 0 ≤ (y * 48271 + 11) % 2147483647 := Int.emod_nonneg _ (by decide)
      have hy2 : (y * 48271 + 11) % 2147483647 < 2147483647 := Int.emod_lt_of_pos _ (by decide)
      have hy3 : -18446744073709551616 < (y * 48271 + 11) % 2147483647 := by omega
      have hy4 : (y * 48271 + 11) % 2147483647 < 18446744073709551616 := by omega
      simp [ixVal_loc, e1, hpos, h0, e2, hy3, hy4]
      exact ⟨⟨Int.emod_nonneg _ (by omega), Int.emod_lt_of_pos _ h0⟩, hk.set1 b hx, hl⟩

theorem law_power_eq (k : Int) (n : Nat) (hn : n < 4611686018427387904) (hk : -18446744073709551616 < k) (hk' : k < 18446744073709551616) (M : MH) : fn__law_power [.dat (.int k), .dat (.int n)] M = .ok (.v (.dat (.int (k ^ n)))) M := by
  refine Ok.eq (go__law_power ?_)
  unfold tm__law_power
  simp [rgSm_nat hn]
  refine Rs_fo (fun i st M' => (∃ t, st = [some (.v (.dat (.int k))), some (.v (.dat (.int n))), some (.v (.dat (.int (k ^ i)))), t]) ∧ M' = M) ⟨⟨none, by simp⟩, rfl⟩ ?_ ?_
  · rintro i d st M1 hd ⟨⟨t, rfl⟩, rfl⟩
    simp [hk, hk', Int.pow_succ]
  · rintro st M1 ⟨⟨t, rfl⟩, rfl⟩
    simp [rgD_length]
theorem law_pick_ok {M : MH} (hb : Bag M) {ds : List PyData} (h : ds ≠ []) (hl : ds.length < 1073741824) : Ok (fn__law_pick [.loc 1, .dat (.list ds)] M) fun v M' => (∃ d ∈ ds, v = .v (.dat d)) ∧ Kp M M' ∧ M'.length = M.length := by
  apply go__law_pick
  unfold tm__law_pick
  have hp := List.length_pos_iff.mpr h
  obtain ⟨v, M1, e, ⟨r, rfl, r0, r1⟩, k, hl1⟩ := (law_draw_ok hb (below := (ds.length : Int)) (by omega) (by omega)).ex
  have hr : r.toNat < ds.length := by omega
  simp [e, atI_pos ds r0, List.getElem?_eq_getElem hr]
  exact ⟨k, hl1⟩
theorem law_same_eq : ∀ (n : Nat) {d : PyData} (M : MH), Gd n d → fn__law_is_same (n + 1) [.dat d, .dat d] M = .ok (.v (.dat (.bool true))) M
  | n, d, M, h => by
    refine Ok.eq (go__law_is_same ?_)
    unfold tm__law_is_same
    cases h with
    | int i => simp
    | @tup n ds h1 h2 =>
      have e : ∀ z ∈ zpD ds ds, ∃ st1, (tgT 2 (tgsCons (tgN 3) (tgsCons (tgN 4) tgsNil))) (.v (.dat z)) [some (.v (.dat (.tuple ds))), some (.v (.dat (.tuple ds))), some (.v (.dat (.bool true))), none, none] = some st1 ∧
          eF (xCall (fn__law_is_same (n + 1)) (aCons (eVar 3) (aCons (eVar 4) aNil))) st1 M = .ok (.dat ((fun _ => PyData.bool true) z)) M := fun z hz => by
        obtain ⟨d, hd, rfl⟩ := zpD_self_mem hz
        refine ⟨_, rfl, ?_⟩
        simp [law_same_eq n M (h1 d hd)]
      simp
      rw [lc_map0 e (by simpa using h2)]
      simp
end K06

set_option Elab.async false
set_option linter.all false
set_option maxRecDepth 100000
set_option maxHeartbeats 4000000
namespace Mn
open PySem PySem.Spec PyProof.Rows L2

/-! ### comprehensions over what is mapped -/
theorem lc_mapE {α : Type} {st : MSt} {g : Tgt} {c : Ex Bool} {f : Ex Val} {M : MH} {e : α → PyData} {p : α → Bool} {F : α → PyData} : ∀ {l : List α} {acc : List PyData}, (∀ d ∈ l, ∃ st1, g (.v (.dat (e d))) st = some st1 ∧ c st1 M = .ok (p d) M ∧ (p d = true → f st1 M = .ok (.dat (F d)) M)) →
    acc.length + l.length ≤ SL → lcGo st g c f acc (l.map e) M = .ok (acc ++ (l.filter p).map F) M
  | [], acc, _, _ => by simp [lcGo]
  | d :: r, acc, h, hl => by
    obtain ⟨st1, e1, e2, e3⟩ := h d (List.mem_cons_self ..)
    have hr : ∀ d ∈ r, ∃ st1, g (.v (.dat (e d))) st = some st1 ∧ c st1 M = .ok (p d) M ∧ (p d = true → f st1 M = .ok (.dat (F d)) M) := fun d hd => h d (List.mem_cons_of_mem _ hd)
    rw [List.length_cons] at hl
    rw [List.map_cons, lcGo, e1]
    simp only
    rw [e2]
    cases hp : p d with
    | false =>
      simp only
      rw [lc_mapE hr (by omega), List.filter_cons_of_neg (by rw [hp]; decide)]
    | true =>
      simp only
      rw [e3 hp]
      simp only
      rw [if_pos (by omega), lc_mapE hr (by rw [List.length_append, List.length_singleton]; omega), List.filter_cons_of_pos hp, List.map_cons, List.append_assoc]
      rfl
theorem lc_ints {st : MSt} {g : Tgt} {c : Ex Bool} {f : Ex Val} {M : MH} (p : Int → Bool) (F : Int → PyData) {l : List Int} (h : ∀ d ∈ l, ∃ st1, g (.v (.dat (.int d))) st = some st1 ∧ c st1 M = .ok (p d) M ∧ (p d = true → f st1 M = .ok (.dat (F d)) M))
    (hl : l.length ≤ SL) : lcGo st g c f [] (iDs l) M = .ok ((l.filter p).map F) M := lc_mapE (e := .int) (acc := []) h (by simpa using hl)
theorem lc_rng {st : MSt} {g : Tgt} {c : Ex Bool} {f : Ex Val} {M : MH} (n : Nat) (p : Nat → Bool) (F : Nat → PyData) (h : ∀ d, d < n → ∃ st1, g (.v (.dat (.int (d : Int)))) st = some st1 ∧ c st1 M = .ok (p d) M ∧ (p d = true → f st1 M = .ok (.dat (F d)) M))
    (hl : n ≤ SL) : lcGo st g c f [] (rgD 0 (n : Int)) M = .ok (((List.range n).filter p).map F) M := by
  rw [rgD_nat]
  exact lc_mapE (e := fun i : Nat => .int (i : Int)) (acc := []) (fun d hd => h d (List.mem_range.mp hd)) (by simpa using hl)
theorem lcL_go {st : MSt} {g : Tgt} {c : Ex Bool} {f : Ex Val} {M : MH} {n : Nat} {ds : List PyData} (hn : lstAt M n = some (ds.map .dat)) (h : ∀ d ∈ ds, ∃ st1, g (.v (.dat d)) st = some st1 ∧ ∃ b, c st1 M = .ok b M ∧ (b = true → ∃ y, f st1 M = .ok (.dat y) M)) :
    ∀ (k i : Nat) (acc : List PyData), i ≤ ds.length → ds.length < k + i → lcL n st g c f k i acc M = lcGo st g c f acc (ds.drop i) M
  | 0, i, acc, hi, hk => by omega
  | k + 1, i, acc, hi, hk => by
    rw [lcL, hn]
    simp only [List.getElem?_map]
    by_cases hd : i < ds.length
    · obtain ⟨st1, e1, b, e2, e3⟩ := h ds[i] (List.getElem_mem hd)
      rw [List.drop_eq_getElem_cons hd, List.getElem?_eq_getElem hd, lcGo]
      simp only [Option.map_some, ns_dat, if_true, e1, e2]
      cases b with
      | false =>
        simp only
        exact lcL_go hn h k (i + 1) acc hd (by omega)
      | true =>
        simp only
        obtain ⟨y, e4⟩ := e3 rfl
        simp only [e4]
        split
        · exact lcL_go hn h k (i + 1) _ hd (by omega)
        · rfl
    · rw [List.drop_eq_nil_of_le (by omega), List.getElem?_eq_none (by omega)]
      rfl
theorem lcA_loc {k : Nat} {st0 st : MSt} {g : Tgt} {c : Ex Bool} {f : Ex Val} {M : MH} {n : Nat} {ds : List PyData} (hn : lstAt M n = some (ds.map .dat)) (h : ∀ d ∈ ds, ∃ st1, g (.v (.dat d)) st = some st1 ∧ ∃ b, c st1 M = .ok b M ∧ (b = true → ∃ y, f st1 M = .ok (.dat y) M)) (hk : ds.length < k) :
    lcA k st0 st g c f (.loc n) M = lcGo st g c f [] ds M := by
  show (if (lstAt M n).isSome = true then lcL n st g c f k 0 [] M else .err) = _
  rw [hn, Option.isSome_some, if_pos rfl, lcL_go hn h k 0 [] (Nat.zero_le _) (by omega), List.drop_zero]
theorem lcA_locInts {k : Nat} {st0 st : MSt} {g : Tgt} {c : Ex Bool} {f : Ex Val} {M : MH} {n : Nat} {l : List Int} (hn : lstAt M n = some ((iDs l).map .dat)) (p : Int → Bool) (F : Int → PyData) (h : ∀ d ∈ l, ∃ st1, g (.v (.dat (.int d))) st = some st1 ∧ c st1 M = .ok (p d) M ∧ (p d = true → f st1 M = .ok (.dat (F d)) M))
    (hl : l.length ≤ SL) (hk : l.length < k) : lcA k st0 st g c f (.loc n) M = .ok ((l.filter p).map F) M := by
  rw [lcA_loc hn (fun d hd => ?_) (by simpa using hk), lc_ints p F h hl]
  obtain ⟨i, hi, rfl⟩ := iDs_mem hd
  obtain ⟨st1, e1, e2, e3⟩ := h i hi
  exact ⟨st1, e1, p i, e2, fun hb => ⟨F i, e3 hb⟩⟩
/-! ### for over a list, a tuple, a shared list -/
inductive SeqV (M : MH) : Val → List PyData → Prop
  | lst (ds : List PyData) : SeqV M (.dat (.list ds)) ds
  | tup (ds : List PyData) : SeqV M (.dat (.tuple ds)) ds
  | loc {n : Nat} {ds : List PyData} : lstAt M n = some (ds.map .dat) → SeqV M (.loc n) ds
theorem SeqV.ns {M : MH} {v : Val} {ds : List PyData} (h : SeqV M v ds) : noSlot v = true := by
  cases h <;> rfl
/-- the shared objects are left alone -/
theorem Nx_foL {g : Tgt} {b : Tm} {n : Nat} {M : MH} {ds : List PyData} (hn : lstAt M n = some (ds.map .dat)) {Q : MSt → MH → Prop} (Inv : Nat → MSt → Prop)
    (step : ∀ i d st, ds[i]? = some d → Inv i st → Nx (ob (g (.v (.dat d)) st) fun st1 => b st1 M) fun st' M' => M' = M ∧ Inv (i + 1) st') (hq : ∀ st, Inv ds.length st → Q st M) :
    ∀ (k i : Nat) (st : MSt), i ≤ ds.length → ds.length < k + i → Inv i st → Nx (foL n g b k i st M) Q
  | 0, i, _, hi, hk, _ => by omega
  | k + 1, i, st, hi, hk, h => by
    rw [foL]
    dsimp only
    rw [hn]
    simp only [List.getElem?_map]
    by_cases hd : i < ds.length
    · rw [List.getElem?_eq_getElem hd]
      simp only [Option.map_some, ns_dat, if_true]
      obtain ⟨st2, M2, e2, rfl, h2⟩ := (step i ds[i] st (List.getElem?_eq_getElem hd) h).ex
      obtain ⟨st1, e1, e2⟩ := Option.bind_eq_some_iff.mp e2
      rw [e1]
      simp only
      rw [e2]
      exact Nx_foL hn Inv step hq k (i + 1) st2 hd (by omega) h2
    · rw [List.getElem?_eq_none (by omega)]
      have : i = ds.length := by omega
      subst this
      exact .mk (hq st h)
theorem Nx_foA {g : Tgt} {b : Tm} {v : Val} {M : MH} {ds : List PyData} (hs : SeqV M v ds) {Q : MSt → MH → Prop} (Inv : Nat → MSt → Prop) {st : MSt} {k : Nat} (h0 : Inv 0 st) (hk : ds.length < k)
    (step : ∀ i d st, ds[i]? = some d → Inv i st → Nx (ob (g (.v (.dat d)) st) fun st1 => b st1 M) fun st' M' => M' = M ∧ Inv (i + 1) st') (hq : ∀ st, Inv ds.length st → Q st M) : Nx (foA k g b v st M) Q := by
  cases hs with
  | lst ds => exact Nx_fo (fun i st M' => M' = M ∧ Inv i st) ⟨rfl, h0⟩ (fun i d st M' hd ⟨e, h⟩ => e ▸ step i d st hd h) fun st M' ⟨e, h⟩ => e ▸ hq st h
  | tup ds => exact Nx_fo (fun i st M' => M' = M ∧ Inv i st) ⟨rfl, h0⟩ (fun i d st M' hd ⟨e, h⟩ => e ▸ step i d st hd h) fun st M' ⟨e, h⟩ => e ▸ hq st h
  | @loc n ds hn =>
    show Nx (if (lstAt M n).isSome = true then foL n g b k 0 st M else none) Q
    rw [hn, Option.isSome_some, if_pos rfl]
    exact Nx_foL hn Inv step hq k 0 st (Nat.zero_le _) (by omega) h0
theorem Rs_foA {g : Tgt} {b kt : Tm} {v : Val} {M : MH} {ds : List PyData} (hs : SeqV M v ds) {Q : Sl → MH → Prop} (Inv : Nat → MSt → Prop) {st : MSt} {k : Nat} (h0 : Inv 0 st) (hk : ds.length < k)
    (step : ∀ i d st, ds[i]? = some d → Inv i st → Nx (ob (g (.v (.dat d)) st) fun st1 => b st1 M) fun st' M' => M' = M ∧ Inv (i + 1) st') (hq : ∀ st, Inv ds.length st → Rs (kt st M) Q) : Rs (sq (foA k g b v st M) kt) Q :=
  Rs_sq (Nx_foA hs Inv h0 hk step hq)
/-! ### slices -/
theorem cutD_hi {α : Type} (ds : List α) (n : Nat) : cutD ds none (some (n : Int)) = ds.take n := by
  unfold cutD
  rw [HT.sIx_none, HT.sIx_nat, List.drop_zero, Nat.sub_zero, List.take_eq_take_iff]
  omega
theorem cutD_lo {α : Type} (ds : List α) (n : Nat) : cutD ds (some (n : Int)) none = ds.drop n := by
  unfold cutD
  rw [HT.sIx_none, HT.sIx_nat, List.take_of_length_le (by rw [List.length_drop]; omega)]
  by_cases h : n ≤ ds.length
  · rw [Nat.min_eq_left h]
  · rw [List.drop_eq_nil_of_le (by omega), List.drop_eq_nil_of_le (by omega)]
@[simp] theorem cutD_m1 {α : Type} (ds : List α) : cutD ds none (some (-1)) = ds.dropLast := by
  unfold cutD
  rw [HT.sIx_none, List.drop_zero, Nat.sub_zero, List.dropLast_eq_take]
  congr 1
  show (if (-1 : Int) < 0 then ((-1 : Int) + (ds.length : Int)).toNat else min (-1 : Int).toNat ds.length) = _
  rw [if_pos (by decide)]
  omega
@[simp] theorem cutD_h63 {α : Type} (ds : List α) : cutD ds none (some 63) = ds.take 63 := cutD_hi ds 63
@[simp] theorem cutD_h60 {α : Type} (ds : List α) : cutD ds none (some 60) = ds.take 60 := cutD_hi ds 60
@[simp] theorem cutD_h59 {α : Type} (ds : List α) : cutD ds none (some 59) = ds.take 59 := cutD_hi ds 59
@[simp] theorem cutD_h3 {α : Type} (ds : List α) : cutD ds none (some 3) = ds.take 3 := cutD_hi ds 3
@[simp] theorem cutD_h1 {α : Type} (ds : List α) : cutD ds none (some 1) = ds.take 1 := cutD_hi ds 1
@[simp] theorem cutD_h2 {α : Type} (ds : List α) : cutD ds none (some 2) = ds.take 2 := cutD_hi ds 2
@[simp] theorem cutD_l1 {α : Type} (ds : List α) : cutD ds (some 1) none = ds.drop 1 := cutD_lo ds 1
@[simp] theorem cutD_l2 {α : Type} (ds : List α) : cutD ds (some 2) none = ds.drop 2 := cutD_lo ds 2
/-! ### ints -/
@[simp] theorem iDs_map (ns : List Int) : ns.map PyData.int = iDs ns := rfl
theorem iDs_append (a b : List Int) : iDs (a ++ b) = iDs a ++ iDs b := by simp [-iDs_map, iDs]
theorem iDs_get? (ns : List Int) (i : Nat) : (iDs ns)[i]? = ns[i]?.map .int := by simp [-iDs_map, iDs]
theorem iDs_rev (ns : List Int) : (iDs ns).reverse = iDs ns.reverse := by simp [-iDs_map, iDs]
theorem iDs_take (ns : List Int) (n : Nat) : (iDs ns).take n = iDs (ns.take n) := by simp [-iDs_map, iDs, List.map_take]
theorem iDs_drop (ns : List Int) (n : Nat) : (iDs ns).drop n = iDs (ns.drop n) := by simp [-iDs_map, iDs, List.map_drop]
@[simp] theorem iDs_any (ns : List Int) (x : Int) : ((iDs ns).any fun z => PyData.eqv z (.int x)) = ns.contains x := by
  induction ns with
  | nil => rfl
  | cons n r ih =>
    rw [iDs_cons, List.any_cons, ih, eqv_int, List.contains_cons]
    congr 1
    exact Bool.beq_comm ..
@[simp] theorem gSorted_ints (ns : List Int) : gSorted [.list (iDs ns)] = some (.own (iDs (sortI ns))) := gSorted_map ns
@[simp] theorem intsOf_ints (ns : List Int) : intsOf (iDs ns) = some ns := intsOf_map ns
theorem sortI_mem {ns : List Int} {x : Int} : x ∈ sortI ns ↔ x ∈ ns := (sortI_perm ns).mem_iff
theorem sortI_length (ns : List Int) : (sortI ns).length = ns.length := (sortI_perm ns).length_eq
theorem sortI_nodup {ns : List Int} (h : ns.Nodup) : (sortI ns).Nodup := (sortI_perm ns).nodup_iff.mpr h
/-! ### digits -/
/-- the lowest digit first -/
def lowD (k : Int) : Nat → Int → List Int
  | 0, _ => []
  | n + 1, c => c % k :: lowD k n (c / k)
@[simp] theorem lowD_length (k : Int) : ∀ (n : Nat) (c : Int), (lowD k n c).length = n
  | 0, _ => rfl
  | n + 1, c => by rw [lowD, List.length_cons, lowD_length]
theorem lowD_mem {k : Int} (hk : 0 < k) : ∀ (n : Nat) (c : Int), ∀ x ∈ lowD k n c, 0 ≤ x ∧ x < k
  | 0, _, _, h => by cases h
  | n + 1, c, x, h => by
    rcases List.mem_cons.mp h with rfl | h
    · exact ⟨Int.emod_nonneg _ (by omega), Int.emod_lt_of_pos _ hk⟩
    · exact lowD_mem hk n _ x h
theorem lowD_inj {k : Int} (hk : 0 < k) : ∀ (n : Nat) {c d : Int}, 0 ≤ c → c < k ^ n → 0 ≤ d → d < k ^ n → lowD k n c = lowD k n d → c = d
  | 0, c, d, h1, h2, h3, h4, _ => by simp at h2 h4; omega
  | n + 1, c, d, h1, h2, h3, h4, h => by
    rw [lowD, lowD] at h
    injection h with e1 e2
    rw [Int.pow_succ] at h2 h4
    have := lowD_inj hk n (Int.ediv_nonneg h1 (by omega)) (Int.ediv_lt_of_lt_mul hk h2) (Int.ediv_nonneg h3 (by omega)) (Int.ediv_lt_of_lt_mul hk h4) e2
    rw [← Int.emod_add_mul_ediv c k, ← Int.emod_add_mul_ediv d k, e1, this]
/-- a number's row -/
def rowI (k : Int) (n : Nat) (c : Int) : List Int := (lowD k n c).reverse
@[simp] theorem rowI_length (k : Int) (n : Nat) (c : Int) : (rowI k n c).length = n := by simp [rowI]
theorem rowI_mem {k : Int} (hk : 0 < k) (n : Nat) (c : Int) : ∀ x ∈ rowI k n c, 0 ≤ x ∧ x < k := fun x h => lowD_mem hk n c x (List.mem_reverse.mp h)
theorem rowI_inj {k : Int} (hk : 0 < k) {n : Nat} {c d : Int} (h1 : 0 ≤ c) (h2 : c < k ^ n) (h3 : 0 ≤ d) (h4 : d < k ^ n) (h : rowI k n c = rowI k n d) : c = d := lowD_inj hk n h1 h2 h3 h4 (List.reverse_inj.mp h)
theorem iDs_mapF {α : Type} (F : α → Int) (l : List α) : (l.map fun i => PyData.int (F i)) = iDs (l.map F) := by
  rw [iDs, List.map_map]
  rfl
theorem eraseIdx_map' {α β : Type} (f : α → β) : ∀ (l : List α) (i : Nat), (l.map f).eraseIdx i = (l.eraseIdx i).map f
  | [], _ => by simp
  | _ :: _, 0 => rfl
  | x :: r, i + 1 => by rw [List.map_cons, List.eraseIdx_cons_succ, eraseIdx_map' f r i]; rfl
theorem erase_perm {α : Type} : ∀ {l : List α} {i : Nat} (h : i < l.length), (l[i] :: l.eraseIdx i).Perm l
  | [], _, h => absurd h (Nat.not_lt_zero _)
  | x :: r, 0, _ => List.Perm.refl _
  | x :: r, i + 1, h => by
    rw [List.eraseIdx_cons_succ, List.getElem_cons_succ]
    exact (List.Perm.swap x _ _).trans (List.Perm.cons x (erase_perm (Nat.lt_of_succ_lt_succ h)))
theorem iDs_eraseIdx (l : List Int) (i : Nat) : (iDs l).eraseIdx i = iDs (l.eraseIdx i) := eraseIdx_map' _ l i
theorem rgD_ints (n : Nat) : rgD 0 (n : Int) = iDs ((List.range n).map fun i => ((i : Nat) : Int)) := by
  rw [rgD_nat, iDs, List.map_map]
  rfl
/-- a shared object beyond the old ones changes -/
theorem Bag.setN {M : MH} (h : Bag M) {n : Nat} (hn : 2 ≤ n) (o : Ob) : Bag (M.set n o) := by
  obtain ⟨cs, x, y, h⟩ := h
  exact ⟨cs, x, y, by rw [List.getElem?_set_ne (by omega)]; exact h.c, by rw [List.getElem?_set_ne (by omega)]; exact h.b, h.x0, h.cs0, h.len⟩
theorem Kp.setN {M M' : MH} (h : Kp M M') {n : Nat} (hn : 2 ≤ n) (hl : M.length ≤ n) (o : Ob) : Kp M (M'.set n o) :=
  ⟨h.bag.setN hn o, by simpa using h.le, fun j h1 h2 => by rw [List.getElem?_set_ne (by omega)]; exact h.old j h1 h2⟩
theorem Kp.newO {M M' : MH} (h : Kp M M') (o : Ob) : Kp M (M' ++ [o]) := h.trans (Kp.app h.bag [o])
/-- a shelf -/
def rwD (r : List Int) : PyData := .tuple (iDs r)
def shD (k : Int) (rows : List (List Int)) : PyData := .tuple [.int k, .tuple (rows.map rwD)]
structure Shf (k : Int) (n : Nat) (rows : List (List Int)) : Prop where
  k2 : k = 2 ∨ k = 3
  n1 : 1 ≤ n
  n6 : n ≤ 6
  ne : rows ≠ []
  len : rows.length ≤ 32
  row : ∀ r ∈ rows, r.length = n ∧ ∀ x ∈ r, 0 ≤ x ∧ x < k
  nd : rows.Nodup
/-- unlike numbers of rows -/
structure Cds (k : Int) (n : Nat) (cs : List Int) : Prop where
  nd : cs.Nodup
  rng : ∀ c ∈ cs, 0 ≤ c ∧ c < k ^ n
theorem Cds.erase {k : Int} {n : Nat} {cs : List Int} (h : Cds k n cs) (i : Nat) : Cds k n (cs.eraseIdx i) :=
  ⟨h.nd.sublist (List.eraseIdx_sublist ..), fun c hc => h.rng c ((List.eraseIdx_sublist ..).subset hc)⟩
theorem Cds.snoc {k : Int} {n : Nat} {cs : List Int} (h : Cds k n cs) {c : Int} (hc : c ∉ cs) (h0 : 0 ≤ c) (h1 : c < k ^ n) : Cds k n (cs ++ [c]) := by
  refine ⟨List.nodup_append.mpr ⟨h.nd, by simp, fun a ha b hb => ?_⟩, fun d hd => ?_⟩
  · rcases List.mem_singleton.mp hb with rfl
    exact fun e => hc (e ▸ ha)
  · rcases List.mem_append.mp hd with hd | hd
    · exact h.rng d hd
    · rcases List.mem_singleton.mp hd with rfl
      exact ⟨h0, h1⟩
theorem Cds.shf {k : Int} {n : Nat} {cs : List Int} (h : Cds k n cs) (k2 : k = 2 ∨ k = 3) (n1 : 1 ≤ n) (n6 : n ≤ 6) (ne : cs ≠ []) (len : cs.length ≤ 32) : Shf k n ((sortI cs).map (rowI k n)) := by
  have hk : 0 < k := by omega
  refine ⟨k2, n1, n6, fun e => ne ?_, by rw [List.length_map, sortI_length]; exact len, fun r hr => ?_, ?_⟩
  · have := congrArg List.length e
    rw [List.length_map, sortI_length] at this
    exact List.length_eq_zero_iff.mp this
  · obtain ⟨c, _, rfl⟩ := List.mem_map.mp hr
    exact ⟨rowI_length .., rowI_mem hk n c⟩
  · have hs := sortI_nodup h.nd
    rw [List.nodup_iff_pairwise_ne, List.pairwise_map]
    have h2 := List.nodup_iff_pairwise_ne.mp hs
    refine h2.imp_of_mem fun {a b} ha hb hab e => hab ?_
    have ra := h.rng a (sortI_mem.mp ha)
    have rb := h.rng b (sortI_mem.mp hb)
    exact rowI_inj hk ra.1 ra.2 rb.1 rb.2 e
theorem pow_small {k : Int} {n : Nat} (k2 : k = 2 ∨ k = 3) (n6 : n ≤ 6) : 1 ≤ k ^ n ∧ k ^ n ≤ 1000 := by
  have : n = 0 ∨ n = 1 ∨ n = 2 ∨ n = 3 ∨ n = 4 ∨ n = 5 ∨ n = 6 := by omega
  rcases k2 with rfl | rfl <;> rcases this with rfl | rfl | rfl | rfl | rfl | rfl | rfl <;> decide
/-- nats as data -/
def nDs (l : List Nat) : List PyData := l.map fun n => PyData.int (n : Nat)
theorem nDs_mem {l : List Nat} {d : PyData} (h : d ∈ nDs l) : ∃ n ∈ l, d = .int (n : Nat) := by
  obtain ⟨n, hn, e⟩ := List.mem_map.mp h
  exact ⟨n, hn, e.symm⟩
end Mn

set_option Elab.async false
set_option linter.all false
set_option maxRecDepth 100000
set_option maxHeartbeats 4000000
namespace K06
open PySem PySem.Spec PyProof.Rows L2 Mn

theorem law_own_bag_ok {ns : List Int} (h : ns.length ≤ 63) : Ok (fn__law_own_bag [.ro (ns.map .int)] []) fun v M' => v = .v (.loc 1) ∧ Bag M' := by
  apply go__law_own_bag
  unfold tm__law_own_bag
  simp [iDs_take]
  rw [lc_ints (fun _ => true) (fun i => .int (if i < 0 then -i else i))]
  rotate_left
  · intro d hd
    simp
  · simp
    omega
  rw [List.filter_eq_self.mpr fun _ _ => rfl, iDs_mapF]
  obtain ⟨cs, hcs, h0, hl⟩ : ∃ cs, cs = (ns.take 63).map (fun i => if i < 0 then -i else i) ∧ (∀ c ∈ cs, 0 ≤ c) ∧ cs.length ≤ 1000 := by
    refine ⟨_, rfl, fun c hc => ?_, ?_⟩
    · obtain ⟨i, _, rfl⟩ := List.mem_map.mp hc
      split <;> omega
    · simp
      omega
  rw [← hcs]
  simp
  refine Rs_fo (fun i st M' => (∃ t m, st = [some (.v (.ro (iDs ns))), some (.v (.dat (.list (iDs cs)))), t, some (.v (.dat (.int m)))]) ∧ M' = []) ⟨⟨_, _, rfl⟩, rfl⟩ ?_ ?_
  · rintro i d st M1 hd ⟨⟨t, m, rfl⟩, rfl⟩
    obtain ⟨c, hc, rfl⟩ := iDs_mem (List.mem_of_getElem? hd)
    simp
  · rintro st M1 ⟨⟨t, m, rfl⟩, rfl⟩
    simp [iDs_rev]
    refine ⟨cs.reverse, 0, m, rfl, rfl, Int.le_refl _, fun c hc => h0 c (List.mem_reverse.mp hc), by simpa using hl⟩
theorem law_row_of_eq {k c : Int} {n : Nat} (hk : 0 < k) (hk2 : k < 1000000) (hn : n < 1000000) (M : MH) : fn__law_row_of [.dat (.int c), .dat (.int k), .dat (.int n)] M = .ok (.v (.dat (rwD (rowI k n c)))) M := by
  refine Ok.eq (go__law_row_of ?_)
  unfold tm__law_row_of
  simp [rgSm_nat (show n < 4611686018427387904 by omega)]
  refine Rs_fo (fun i st M' => (∃ t ci pre, st = [some (.v (.dat (.int ci))), some (.v (.dat (.int k))), some (.v (.dat (.int n))), some (.own (iDs pre)), t] ∧ pre.length = i ∧ (i ≤ n → pre ++ lowD k (n - i) ci = lowD k n c)) ∧ M' = M) ⟨⟨_, c, [], rfl, rfl, by simp⟩, rfl⟩ ?_ ?_
  · rintro i d st M1 hd ⟨⟨t, ci, pre, rfl, rfl, h⟩, rfl⟩
    have hi : pre.length < n := by simpa using (rgD_get hd).2
    simp [hk, show k < 1073741824 by omega, show pre.length < 16777216 by omega]
    refine ⟨_, ci / k, pre ++ [ci % k], ⟨rfl, by simp [iDs_append], rfl⟩, by simp, fun _ => ?_⟩
    rw [← h (by omega), show n - pre.length = (n - (pre.length + 1)) + 1 by omega, lowD]
    simp
  · rintro st M1 ⟨⟨t, ci, pre, rfl, hl, h⟩, rfl⟩
    rw [rgD_length] at hl
    have hl : pre.length = n := by simpa using hl
    have h2 := h (by rw [rgD_length]; simp)
    rw [rgD_length] at h2
    simp [lowD] at h2
    simp [iDs_rev, rwD, rowI, ← h2]
end K06

set_option Elab.async false
set_option linter.all false
set_option maxRecDepth 100000
set_option maxHeartbeats 4000000
namespace Mn
open PySem PySem.Spec PyProof.Rows L2

/-! ### what repr shows -/
def Fit (L : Nat) (s : Str) : Prop := s.cps.size ≤ L ∧ ∀ c ∈ s.cps.toList, c < 0x110000
theorem Fit.app {L K : Nat} {s t : Str} (h : Fit L s) (g : Fit K t) : Fit (L + K) (s ++ t) := by
  refine ⟨?_, fun c hc => ?_⟩
  · show (s.cps ++ t.cps).size ≤ L + K
    rw [Array.size_append]
    exact Nat.add_le_add h.1 g.1
  · have hc : c ∈ (s.cps ++ t.cps).toList := hc
    rw [Array.toList_append] at hc
    rcases List.mem_append.mp hc with hc | hc
    · exact h.2 c hc
    · exact g.2 c hc
theorem Fit.mono {L K : Nat} {s : Str} (h : Fit L s) (hl : L ≤ K) : Fit K s := ⟨Nat.le_trans h.1 hl, h.2⟩
theorem Fit.join {L : Nat} : ∀ {ts : List Str}, (∀ t ∈ ts, Fit L t) → Fit (ts.length * (L + 2)) (Str.join ", " ts)
  | [], _ => ⟨by simp [Str.join, Str.empty], fun c hc => by cases hc⟩
  | [t], h => (h t (by simp)).mono (by simp)
  | t :: u :: r, h => by
    have h1 := h t (by simp)
    have h2 : Fit ((u :: r).length * (L + 2)) (Str.join ", " (u :: r)) := Fit.join fun x hx => h x (by simp_all)
    have h3 : Fit 2 (", " : Str) := ⟨by decide, by decide⟩
    have := (h1.app h3).app h2
    refine Fit.mono this ?_
    rw [List.length_cons (a := t), Nat.add_mul]
    omega
theorem Fit.tuple {L : Nat} {ts : List Str} (h : ∀ t ∈ ts, Fit L t) : Fit (ts.length * (L + 2) + 3) (tupleText ts) := by
  unfold tupleText
  have h1 : Fit 1 ("(" : Str) := ⟨by decide, by decide⟩
  have h2 : Fit 2 ((if ts.length == 1 then ",)" else ")" : String) : Str) := by
    split
    · exact ⟨by decide, by decide⟩
    · exact ⟨by decide, by decide⟩
  exact ((h1.app (Fit.join h)).app h2).mono (by omega)
theorem Fit.digit {i : Int} (h0 : 0 ≤ i) (h1 : i < 10) : Fit 1 (PyData.shown (.int i)) := by
  have : i = 0 ∨ i = 1 ∨ i = 2 ∨ i = 3 ∨ i = 4 ∨ i = 5 ∨ i = 6 ∨ i = 7 ∨ i = 8 ∨ i = 9 := by omega
  rw [PyData.shown]
  rcases this with rfl | rfl | rfl | rfl | rfl | rfl | rfl | rfl | rfl | rfl <;> exact ⟨by decide +kernel, by decide +kernel⟩
theorem shownAll_map (ds : List PyData) : PyData.shownAll ds = ds.map PyData.shown := by
  induction ds with
  | nil => rfl
  | cons d r ih => rw [PyData.shownAll, ih, List.map_cons]
theorem Fit.tup {L : Nat} {ds : List PyData} (h : ∀ d ∈ ds, Fit L d.shown) : Fit (ds.length * (L + 2) + 3) (PyData.shown (.tuple ds)) := by
  rw [PyData.shown, shownAll_map]
  have := Fit.tuple (ts := ds.map PyData.shown) (L := L) fun t ht => by
    obtain ⟨d, hd, rfl⟩ := List.mem_map.mp ht
    exact h d hd
  rwa [List.length_map] at this
theorem showAll {ds : List PyData} (h : ∀ d ∈ ds, d.showable = true) : PyData.showableAll ds = true := by
  induction ds with
  | nil => rw [PyData.showableAll]
  | cons d r ih => rw [PyData.showableAll, h d (by simp), ih fun e he => h e (by simp [he])]; rfl
theorem show_tup {ds : List PyData} (h : ∀ d ∈ ds, d.showable = true) : PyData.showable (.tuple ds) = true := by
  rw [PyData.showable]
  exact showAll h
theorem show_digit {i : Int} (h0 : 0 ≤ i) (h1 : i < 10) : PyData.showable (.int i) = true := by
  have : i = 0 ∨ i = 1 ∨ i = 2 ∨ i = 3 ∨ i = 4 ∨ i = 5 ∨ i = 6 ∨ i = 7 ∨ i = 8 ∨ i = 9 := by omega
  rw [PyData.showable]
  rcases this with rfl | rfl | rfl | rfl | rfl | rfl | rfl | rfl | rfl | rfl <;> decide +kernel
theorem repr_tup {L : Nat} {ds : List PyData} {n : Nat} (h1 : Sh n (.tuple ds)) (hn : n ≤ 64) (h2 : PyData.showable (.tuple ds) = true) (h3 : Fit L (PyData.shown (.tuple ds))) (hl : L ≤ 1000000) :
    ∃ s : Str, gRepr [.tuple ds] = some (.str s) ∧ dEq (.str s) (.str s) = some (.bool true) := by
  refine ⟨PyData.shown (.tuple ds), ?_, ?_⟩
  · show dRepr (.tuple ds) = _
    unfold dRepr
    rw [if_pos ⟨rfl, h1.shaped hn, h2, by have := h3.1; show (PyData.shown (.tuple ds)).cps.size ≤ 16777216; omega⟩]
  · have sh : SeqAt.shaped (.str (PyData.shown (.tuple ds))) = true := by
      unfold SeqAt.shaped
      rw [PyData.canLay0, PyData.depth]
      simp only [Nat.zero_le, decide_true, Bool.and_true]
      unfold PySem.PyData.strOk
      rw [Array.all_eq_true]
      intro i hi
      exact decide_eq_true (h3.2 _ (by simp))
    rw [dEq, if_pos ⟨sh, sh⟩]
    simp [PyData.eqv]
theorem Gd.rwD (r : List Int) (h : r.length ≤ 1000000) : Gd 1 (rwD r) := .tup (Gd.ints r) (by rw [iDs_length]; exact Nat.le_trans h (by decide))
theorem Shf.gd {k : Int} {n : Nat} {rows : List (List Int)} (h : Shf k n rows) : Gd 3 (shD k rows) := by
  refine .tup (fun d hd => ?_) (by simp)
  simp only [List.mem_cons, List.not_mem_nil, or_false] at hd
  rcases hd with rfl | rfl
  · exact .int _
  · refine .tup (fun d hd => ?_) (by have := h.len; rw [List.length_map]; unfold SL; omega)
    obtain ⟨r, hr, rfl⟩ := List.mem_map.mp hd
    exact Gd.rwD r (by have := (h.row r hr).1; have := h.n6; omega)
theorem Shf.repr {k : Int} {n : Nat} {rows : List (List Int)} (h : Shf k n rows) : ∃ s : Str, gRepr [shD k rows] = some (.str s) ∧ dEq (.str s) (.str s) = some (.bool true) := by
  have hk := h.k2
  have hd : ∀ r ∈ rows, ∀ x ∈ r, 0 ≤ x ∧ x < 10 := fun r hr x hx => by have := (h.row r hr).2 x hx; omega
  have f1 : ∀ r ∈ rows, Fit 21 (PyData.shown (rwD r)) := fun r hr => by
    refine Fit.mono (Fit.tup (ds := iDs r) (L := 1) fun d hd' => ?_) ?_
    · obtain ⟨x, hx, rfl⟩ := iDs_mem hd'
      exact Fit.digit (hd r hr x hx).1 (hd r hr x hx).2
    · rw [iDs_length, (h.row r hr).1]
      have := h.n6
      omega
  have f2 : Fit 1000 (PyData.shown (.tuple (rows.map rwD))) := by
    refine Fit.mono (Fit.tup (L := 21) fun d hd' => ?_) ?_
    · obtain ⟨r, hr, rfl⟩ := List.mem_map.mp hd'
      exact f1 r hr
    · rw [List.length_map]
      have := h.len
      omega
  refine repr_tup h.gd.sh (by omega) (show_tup fun d hd' => ?_) (Fit.tup (L := 1000) fun d hd' => ?_) (by simp)
  · simp only [List.mem_cons, List.not_mem_nil, or_false] at hd'
    rcases hd' with rfl | rfl
    · exact show_digit (by omega) (by omega)
    · refine show_tup fun d hd' => ?_
      obtain ⟨r, hr, rfl⟩ := List.mem_map.mp hd'
      refine show_tup fun d hd' => ?_
      obtain ⟨x, hx, rfl⟩ := iDs_mem hd'
      exact show_digit (hd r hr x hx).1 (hd r hr x hx).2
  · simp only [List.mem_cons, List.not_mem_nil, or_false] at hd'
    rcases hd' with rfl | rfl
    · exact (Fit.digit (by omega) (by omega)).mono (by omega)
    · exact f2
end Mn

set_option Elab.async false
set_option linter.all false
set_option maxRecDepth 100000
set_option maxHeartbeats 4000000
namespace Mn
open PySem PySem.Spec PyProof.Rows L2

/-! ### places and labels -/
theorem lc_nats {st : MSt} {g : Tgt} {c : Ex Bool} {f : Ex Val} {M : MH} (p : Nat → Bool) (F : Nat → PyData) {l : List Nat} (h : ∀ d ∈ l, ∃ st1, g (.v (.dat (.int (d : Int)))) st = some st1 ∧ c st1 M = .ok (p d) M ∧ (p d = true → f st1 M = .ok (.dat (F d)) M))
    (hl : l.length ≤ SL) : lcGo st g c f [] (nDs l) M = .ok ((l.filter p).map F) M := lc_mapE (e := fun n : Nat => .int (n : Int)) (acc := []) h (by simpa using hl)
@[simp] theorem nDs_length (l : List Nat) : (nDs l).length = l.length := by simp [nDs]
@[simp] theorem nDs_nil : nDs [] = [] := rfl
@[simp] theorem nDs_cons (n : Nat) (r : List Nat) : nDs (n :: r) = .int (n : Int) :: nDs r := rfl
@[simp] theorem nDs_map (l : List Nat) : l.map (fun n : Nat => PyData.int (n : Int)) = nDs l := rfl
theorem nDs_append (a b : List Nat) : nDs (a ++ b) = nDs a ++ nDs b := by simp [-nDs_map, nDs]
theorem nDs_iDs (l : List Nat) : nDs l = iDs (l.map fun n => ((n : Nat) : Int)) := by
  rw [nDs, iDs, List.map_map]
  rfl
theorem nDs_get? (l : List Nat) (i : Nat) : (nDs l)[i]? = l[i]?.map fun n : Nat => PyData.int (n : Int) := by simp [-nDs_map, nDs]
theorem nDs_isEmpty (l : List Nat) : (nDs l).isEmpty = l.isEmpty := by cases l <;> rfl
@[simp] theorem shaped_natT (l : List Nat) : SeqAt.shaped (.tuple (nDs l)) = true := by rw [nDs_iDs]; exact shaped_intT _
@[simp] theorem shaped_natL (l : List Nat) : SeqAt.shaped (.list (nDs l)) = true := by rw [nDs_iDs]; exact shaped_intL _
theorem rgD_nats (n : Nat) : rgD 0 (n : Int) = nDs (List.range n) := rgD_nat n
theorem Gd.nats (l : List Nat) {n : Nat} : ∀ d ∈ nDs l, Gd n d := fun d h => by
  obtain ⟨k, _, rfl⟩ := nDs_mem h
  exact .int _
theorem Gd.natT {l : List Nat} (h : l.length ≤ 1000000) {n : Nat} : Gd (n + 1) (.tuple (nDs l)) := .tup (Gd.nats l) (by rw [nDs_length]; exact Nat.le_trans h (by decide))
@[simp] theorem nDs_any (l : List Nat) (x : Nat) : ((nDs l).any fun z => PyData.eqv z (.int (x : Int))) = l.contains x := by
  induction l with
  | nil => rfl
  | cons n r ih =>
    rw [nDs_cons, List.any_cons, ih, eqv_int, List.contains_cons]
    congr 1
    rw [Bool.eq_iff_iff]
    simp
    omega
theorem at1_sh0 (k : Int) (rows : List (List Int)) : at1 (shD k rows) 0 = some (.int k) := by simp [shD]
theorem at1_sh1 (k : Int) (rows : List (List Int)) : at1 (shD k rows) 1 = some (.tuple (rows.map rwD)) := by simp [shD]
theorem at1_rw (r : List Int) (x : Nat) : at1 (rwD r) (x : Int) = r[x]?.map .int := by simp [rwD, iDs_get?]
theorem gLen_rw (r : List Int) : gLen [rwD r] = some (.int r.length) := by simp [rwD]
/-- the label of the row at a place, at a point -/
def lbl (rows : List (List Int)) (p x : Nat) : Int := ((rows[p]?.getD [])[x]?).getD (-1)
theorem lbl_at {rows : List (List Int)} {n : Nat} (h : ∀ r ∈ rows, r.length = n) {p x : Nat} (hp : p < rows.length) (hx : x < n) : ∃ r, rows[p]? = some r ∧ r[x]? = some (lbl rows p x) := by
  have e := List.getElem?_eq_getElem hp
  have hl := h _ (List.getElem_mem hp)
  refine ⟨_, e, ?_⟩
  unfold lbl
  rw [e, Option.getD_some, List.getElem?_eq_getElem (by omega)]
  rfl
theorem Shf.lens {k : Int} {n : Nat} {rows : List (List Int)} (h : Shf k n rows) : ∀ r ∈ rows, r.length = n := fun r hr => (h.row r hr).1
theorem Shf.lbl {k : Int} {n : Nat} {rows : List (List Int)} (h : Shf k n rows) {p x : Nat} (hp : p < rows.length) (hx : x < n) : 0 ≤ lbl rows p x ∧ lbl rows p x < k := by
  obtain ⟨r, e1, e2⟩ := lbl_at h.lens hp hx
  exact (h.row r (List.mem_of_getElem? e1)).2 _ (List.mem_of_getElem? e2)
theorem Shf.unlike {k : Int} {n : Nat} {rows : List (List Int)} (h : Shf k n rows) {p q : Nat} (hp : p < rows.length) (hq : q < rows.length) (hne : p ≠ q) : ∃ x, x < n ∧ Mn.lbl rows p x ≠ Mn.lbl rows q x := by
  refine Classical.byContradiction fun hno => hne ?_
  have e : rows[p] = rows[q] := by
    have l1 := h.lens _ (List.getElem_mem hp)
    have l2 := h.lens _ (List.getElem_mem hq)
    refine List.ext_getElem (by omega) fun x hx1 hx2 => ?_
    have hx : x < n := by omega
    obtain ⟨r, e1, e2⟩ := lbl_at h.lens hp hx
    obtain ⟨s, f1, f2⟩ := lbl_at h.lens hq hx
    rw [List.getElem?_eq_getElem hp] at e1
    rw [List.getElem?_eq_getElem hq] at f1
    cases e1
    cases f1
    have : Mn.lbl rows p x = Mn.lbl rows q x := Classical.byContradiction fun hn => hno ⟨x, hx, hn⟩
    rw [List.getElem?_eq_getElem hx1] at e2
    rw [List.getElem?_eq_getElem hx2] at f2
    exact (Option.some.inj e2).trans (this.trans (Option.some.inj f2).symm)
  exact (List.getElem_inj h.nd).mp e
/-- the places whose rows have all labels of a sample -/
def lft (rows : List (List Int)) (s : List (Nat × Int)) : List Nat := (List.range rows.length).filter fun p => s.all fun q => lbl rows p q.1 == q.2
def smD (s : List (Nat × Int)) : List PyData := s.map fun q => .tuple [.int (q.1 : Int), .int q.2]
@[simp] theorem smD_length (s : List (Nat × Int)) : (smD s).length = s.length := by simp [smD]
theorem smD_get? (s : List (Nat × Int)) (i : Nat) : (smD s)[i]? = s[i]?.map fun q => .tuple [.int (q.1 : Int), .int q.2] := by simp [smD]
theorem lft_nil (rows : List (List Int)) : lft rows [] = List.range rows.length := List.filter_eq_self.mpr fun _ _ => rfl
theorem lft_snoc (rows : List (List Int)) (s : List (Nat × Int)) (q : Nat × Int) : lft rows (s ++ [q]) = (lft rows s).filter fun p => lbl rows p q.1 == q.2 := by
  unfold lft
  rw [List.filter_filter]
  congr 1
  funext p
  rw [List.all_append, List.all_cons, List.all_nil, Bool.and_true, Bool.and_comm]
theorem lft_app (rows : List (List Int)) (s t : List (Nat × Int)) : lft rows (s ++ t) = (lft rows s).filter fun p => decide (p ∈ lft rows t) := by
  unfold lft
  rw [List.filter_filter]
  refine List.filter_congr fun p hp => ?_
  rw [List.all_append, Bool.and_comm]
  congr 1
  rw [Bool.eq_iff_iff, decide_eq_true_eq, List.mem_filter]
  exact ⟨fun h => ⟨hp, h⟩, fun h => h.2⟩
theorem lft_swap (rows : List (List Int)) (s t : List (Nat × Int)) : lft rows (s ++ t) = lft rows (t ++ s) := by
  unfold lft
  congr 1
  funext p
  rw [List.all_append, List.all_append, Bool.and_comm]
theorem lft_mem {rows : List (List Int)} {s : List (Nat × Int)} {p : Nat} (h : p ∈ lft rows s) : p < rows.length := List.mem_range.mp (List.mem_filter.mp h).1
theorem lft_nodup (rows : List (List Int)) (s : List (Nat × Int)) : (lft rows s).Nodup := List.nodup_range.filter _
theorem lft_len (rows : List (List Int)) (s : List (Nat × Int)) : (lft rows s).length ≤ rows.length := by
  have := List.length_filter_le (fun p => s.all fun q => lbl rows p q.1 == q.2) (List.range rows.length)
  rwa [List.length_range] at this
/-- a sample of a shelf of n points -/
def Smp (k : Int) (n : Nat) (s : List (Nat × Int)) : Prop := ∀ q ∈ s, q.1 < n ∧ 0 ≤ q.2 ∧ q.2 < k
/-- a lot -/
structure Lot (N : Nat) (l : List Nat) : Prop where
  lt : ∀ p ∈ l, p < N
  nd : l.Nodup
  ne : l ≠ []
theorem nodup_len : ∀ {N : Nat} {l : List Nat}, l.Nodup → (∀ p ∈ l, p < N) → l.length ≤ N
  | 0, l, _, h => by
    cases l with
    | nil => exact Nat.le_refl _
    | cons p r => exact absurd (h p (by simp)) (by omega)
  | N + 1, l, nd, h => by
    by_cases hm : N ∈ l
    · have := nodup_len (N := N) (nd.erase N) fun p hp => by
        obtain ⟨h1, h2⟩ := (List.Nodup.mem_erase_iff nd).mp hp
        have := h p h2
        omega
      rw [List.length_erase_of_mem hm] at this
      omega
    · have := nodup_len (N := N) nd fun p hp => by
        have := h p hp
        have : p ≠ N := fun e => hm (e ▸ hp)
        omega
      omega
theorem Lot.len {N : Nat} {l : List Nat} (h : Lot N l) : l.length ≤ N := nodup_len h.nd h.lt
/-- the rows of a lot -/
def rwsOf (rows : List (List Int)) (l : List Nat) : List (List Int) := l.map fun p => rows[p]?.getD []
theorem lbl_rwsOf (rows : List (List Int)) (l : List Nat) {i p : Nat} (h : l[i]? = some p) (x : Nat) : lbl (rwsOf rows l) i x = lbl rows p x := by
  unfold lbl rwsOf
  rw [List.getElem?_map, h]
  rfl
theorem lft_rwsOf (rows : List (List Int)) {l : List Nat} (hl : ∀ p ∈ l, p < rows.length) (s : List (Nat × Int)) : lft (rwsOf rows l) s = (List.range l.length).filter fun i => (l[i]?).any fun p => decide (p ∈ lft rows s) := by
  unfold lft
  rw [show (rwsOf rows l).length = l.length by simp [rwsOf]]
  refine List.filter_congr fun i hi => ?_
  have hi := List.mem_range.mp hi
  have e := List.getElem?_eq_getElem hi
  rw [e]
  simp only [Option.any_some]
  rw [Bool.eq_iff_iff, decide_eq_true_eq, List.mem_filter, List.mem_range]
  rw [show (fun q : Nat × Int => lbl (rwsOf rows l) i q.1 == q.2) = fun q => lbl rows l[i] q.1 == q.2 by funext q; rw [lbl_rwsOf rows l e]]
  exact ⟨fun h => ⟨hl _ (List.getElem_mem hi), h⟩, fun h => h.2⟩
/-- the places of a lot with a label at a point -/
def prt (rows : List (List Int)) (l : List Nat) (x : Nat) (c : Int) : List Nat := l.filter fun p => lbl rows p x == c
def prtsD (rows : List (List Int)) (k : Nat) (l : List Nat) (x : Nat) : List PyData := ((List.range k).filter fun c : Nat => !(prt rows l x c).isEmpty).map fun c : Nat => .tuple [.int (c : Int), .tuple (nDs (prt rows l x c))]
/-- where two rows of a lot are unlike -/
def crs (rows : List (List Int)) (l : List Nat) (x : Nat) : Bool := l.any fun q => lbl rows q x != lbl rows (l[0]?.getD 0) x
theorem crs_iff {rows : List (List Int)} {k : Nat} {l : List Nat} {x : Nat} (hr : ∀ p ∈ l, 0 ≤ lbl rows p x ∧ lbl rows p x < k) : crs rows l x = decide (1 < (prtsD rows k l x).length) := by
  cases l with
  | nil =>
    have e : prtsD rows k [] x = [] := by
      unfold prtsD
      rw [List.filter_eq_nil_iff.mpr]
      · rfl
      · intro c _
        simp [prt]
    rw [e]
    rfl
  | cons p r =>
    show ((p :: r).any fun q => lbl rows q x != lbl rows p x) = _
    rw [prtsD, List.length_map]
    have mem : ∀ q ∈ p :: r, (lbl rows q x).toNat ∈ (List.range k).filter fun c : Nat => !(prt rows (p :: r) x c).isEmpty := fun q hq => by
      have h := hr q hq
      refine List.mem_filter.mpr ⟨List.mem_range.mpr (by omega), ?_⟩
      have : q ∈ prt rows (p :: r) x ((lbl rows q x).toNat : Nat) := List.mem_filter.mpr ⟨hq, by simp; omega⟩
      cases e : prt rows (p :: r) x ((lbl rows q x).toNat : Nat) with
      | nil => rw [e] at this; cases this
      | cons _ _ => rfl
    have nd : ((List.range k).filter fun c : Nat => !(prt rows (p :: r) x c).isEmpty).Nodup := List.nodup_range.filter _
    have inv : ∀ c ∈ (List.range k).filter (fun c : Nat => !(prt rows (p :: r) x c).isEmpty), ∃ q ∈ p :: r, lbl rows q x = c := fun c hc => by
      have h := (List.mem_filter.mp hc).2
      cases e : prt rows (p :: r) x c with
      | nil => rw [e] at h; cases h
      | cons q _ =>
        have hq : q ∈ prt rows (p :: r) x c := by rw [e]; exact List.mem_cons_self ..
        exact ⟨q, (List.mem_filter.mp hq).1, by simpa using (List.mem_filter.mp hq).2⟩
    generalize (List.range k).filter (fun c : Nat => !(prt rows (p :: r) x c).isEmpty) = L at mem nd inv
    rw [Bool.eq_iff_iff, decide_eq_true_eq, List.any_eq_true]
    constructor
    · rintro ⟨q, hq, h⟩
      have h1 := mem q hq
      have h2 := mem p (List.mem_cons_self ..)
      have r1 := hr q hq
      have r2 := hr p (List.mem_cons_self ..)
      have h3 : (lbl rows q x).toNat ≠ (lbl rows p x).toNat := by
        simp at h
        omega
      match L, h1, h2 with
      | [], h1, _ => cases h1
      | [a], h1, h2 => exact absurd ((List.mem_singleton.mp h1).trans (List.mem_singleton.mp h2).symm) h3
      | _ :: _ :: _, _, _ => simp
    · intro h
      match L, h, nd, inv with
      | [], h, _, _ => simp at h
      | [a], h, _, _ => simp at h
      | a :: b :: s, _, nd, inv =>
        obtain ⟨q1, hq1, e1⟩ := inv a (by simp)
        obtain ⟨q2, hq2, e2⟩ := inv b (by simp)
        have hab : a ≠ b := fun e => by simp [e] at nd
        by_cases h : lbl rows q1 x = lbl rows p x
        · exact ⟨q2, hq2, by simp; omega⟩
        · exact ⟨q1, hq1, by simpa using h⟩
end Mn

set_option Elab.async false
set_option linter.all false
set_option maxRecDepth 100000
set_option maxHeartbeats 4000000
namespace Mn
open PySem PySem.Spec PyProof.Rows L2

/-! ### groups: a dict of lists, by setdefault(.., []).append -/
def grpK (ks : List Int) (pos : Int → Nat) : List (Key × Val) := ks.map fun c => (Sum.inl c, Val.loc (pos c))
theorem getK_grp {ks : List Int} {pos : Int → Nat} {c : Int} : getK (grpK ks pos) (Sum.inl c) = if c ∈ ks then some (.loc (pos c)) else none := by
  induction ks with
  | nil => rfl
  | cons a r ih =>
    by_cases h : a = c
    · subst h
      rw [if_pos (by simp)]
      unfold getK grpK
      rw [List.map_cons, List.find?_cons_of_pos (by simp)]
      rfl
    · have e : getK (grpK (a :: r) pos) (Sum.inl c) = getK (grpK r pos) (Sum.inl c) := by
        unfold getK grpK
        rw [List.map_cons, List.find?_cons_of_neg (by simpa using h)]
      rw [e, ih]
      have : (c ∈ a :: r) ↔ c ∈ r := by
        rw [List.mem_cons]
        exact ⟨fun hh => hh.resolve_left fun e => h e.symm, .inr⟩
      simp only [this]
theorem setK_new {ks : List Int} {pos : Int → Nat} {c : Int} (h : c ∉ ks) (x : Val) : setK (grpK ks pos) (Sum.inl c) x = grpK ks pos ++ [(Sum.inl c, x)] := by
  unfold setK
  rw [if_neg]
  rw [List.any_eq_true]
  rintro ⟨kv, h1, h2⟩
  obtain ⟨d, hd, rfl⟩ := List.mem_map.mp h1
  simp at h2
  exact h (h2 ▸ hd)
structure Grp (M0 M : MH) (D : Nat) (ks : List Int) (val : Int → List PyData) : Prop where
  ex : ∃ pos : Int → Nat, M[D]? = some (.dct (grpK ks pos)) ∧ (∀ c ∈ ks, M0.length ≤ pos c ∧ pos c ≠ D ∧ lstAt M (pos c) = some ((val c).map .dat)) ∧ ∀ c ∈ ks, ∀ d ∈ ks, pos c = pos d → c = d
  nd : ks.Nodup
  no : ∀ c, c ∉ ks → val c = []
  le : M0.length ≤ D
  old : ∀ j, j < M0.length → M[j]? = M0[j]?
theorem Grp.new (M0 : MH) : Grp M0 (M0 ++ [.dct []]) M0.length [] fun _ => [] :=
  ⟨⟨fun _ => 0, by simp [grpK], by simp, by simp⟩, List.nodup_nil, fun _ _ => rfl, Nat.le_refl _, fun j hj => List.getElem?_append_left hj⟩
theorem Grp.lt {M0 M : MH} {D : Nat} {ks : List Int} {val : Int → List PyData} (g : Grp M0 M D ks val) : D < M.length := by
  obtain ⟨pos, h1, _⟩ := g.ex
  exact (List.getElem?_eq_some_iff.mp h1).1
theorem Grp.ap_le {M0 M : MH} {D : Nat} {ks : List Int} {val : Int → List PyData} (g : Grp M0 M D ks val) : M0.length ≤ M.length := Nat.le_of_lt (Nat.lt_of_le_of_lt g.le g.lt)
theorem Grp.put {M0 M : MH} {D : Nat} {ks : List Int} {val : Int → List PyData} (g : Grp M0 M D ks val) {fo fk fv : Ex Val} {st : MSt} {c : Int} {d : PyData} (hfo : fo st M = .ok (.loc D) M) (hfk : fk st M = .ok (.dat (.int c)) M) (hfv : ∀ M', fv st M' = .ok (.dat d) M')
    (hl : ks.length < SL) (hv : (val c).length < SL) : ∃ M' ks', eLAp (eDSetd fo fk (eLoc (xLst aNil))) fv st M = .ok (.dat .none) M' ∧ Grp M0 M' D ks' (fun e => if e = c then val c ++ [d] else val e) ∧ (ks' = if c ∈ ks then ks else ks ++ [c]) := by
  obtain ⟨pos, h1, h2, h3⟩ := g.ex
  have hD := g.lt
  have hle := g.le
  have eD : dctAt M (.loc D) = some (D, grpK ks pos) := by
    show (match M[D]? with | some (.dct kvs) => some (D, kvs) | _ => none) = _
    rw [h1]
  have iD : isDct M (.loc D) = true := by
    unfold isDct
    rw [eD]
    rfl
  have h1' : (M ++ [Ob.lst []])[D]? = some (.dct (grpK ks pos)) := by rw [List.getElem?_append_left hD]; exact h1
  have eD' : dctAt (M ++ [Ob.lst []]) (.loc D) = some (D, grpK ks pos) := by
    show (match (M ++ [Ob.lst []])[D]? with | some (.dct kvs) => some (D, kvs) | _ => none) = _
    rw [h1']
  have lenK : (grpK ks pos).length = ks.length := by simp [grpK]
  have oldA : ∀ j, j < M.length → (M ++ [Ob.lst []])[j]? = M[j]? := fun j hj => List.getElem?_append_left hj
  by_cases hc : c ∈ ks
  · obtain ⟨p1, p2, p3⟩ := h2 c hc
    have hM := lstAt_inv p3
    have hp : pos c < M.length := (List.getElem?_eq_some_iff.mp hM).1
    have p3' : lstAt (M ++ [Ob.lst []]) (pos c) = some ((val c).map .dat) := lstAt_eq ((oldA _ hp).trans hM)
    have eS : eDSetd fo fk (eLoc (xLst aNil)) st M = .ok (.loc (pos c)) (M ++ [Ob.lst []]) := by
      unfold eDSetd
      rw [hfo]
      simp only [Out.bind_ok, iD, if_true]
      rw [hfk]
      simp [eD', datV, keyD, lenK, hl, getK_grp, hc]
    refine ⟨(M ++ [Ob.lst []]).set (pos c) (.lst ((val c ++ [d]).map .dat)), ks, ?_, ⟨⟨pos, ?_, fun e he => ?_, h3⟩, g.nd, fun e he => ?_, hle, fun j hj => ?_⟩, by rw [if_pos hc]⟩
    · rw [w_lap, eS]
      simp [p3', hfv, hv]
    · rw [List.getElem?_set_ne p2]
      exact h1'
    · obtain ⟨q1, q2, q3⟩ := h2 e he
      refine ⟨q1, q2, ?_⟩
      by_cases hec : e = c
      · subst hec
        rw [if_pos rfl]
        exact lstAt_eq (List.getElem?_set_self (by rw [List.length_append]; omega))
      · rw [if_neg hec]
        have hq := lstAt_inv q3
        have hql := (List.getElem?_eq_some_iff.mp hq).1
        refine lstAt_eq ?_
        rw [List.getElem?_set_ne (fun ee => hec (h3 e he c hc ee.symm)), oldA _ hql]
        exact hq
    · have hec : e ≠ c := fun ee => he (ee ▸ hc)
      simp only [if_neg hec]
      exact g.no e he
    · rw [List.getElem?_set_ne (by omega), oldA _ (by omega)]
      exact g.old j hj
  · have v0 := g.no c hc
    have eS : eDSetd fo fk (eLoc (xLst aNil)) st M = .ok (.loc M.length) ((M ++ [Ob.lst []]).set D (.dct (grpK ks pos ++ [(Sum.inl c, Val.loc M.length)]))) := by
      unfold eDSetd
      rw [hfo]
      simp only [Out.bind_ok, iD, if_true]
      rw [hfk]
      simp [eD', datV, keyD, lenK, hl, getK_grp, hc, setK_new]
    have hN : lstAt ((M ++ [Ob.lst []]).set D (.dct (grpK ks pos ++ [(Sum.inl c, Val.loc M.length)]))) M.length = some [] := by
      refine lstAt_eq ?_
      rw [List.getElem?_set_ne (by omega)]
      simp
    have eK : grpK ks pos ++ [(Sum.inl c, Val.loc M.length)] = grpK (ks ++ [c]) fun e => if e = c then M.length else pos e := by
      unfold grpK
      rw [List.map_append]
      congr 1
      · refine List.map_congr_left fun e he => ?_
        have hec : e ≠ c := fun ee => hc (ee ▸ he)
        simp only [if_neg hec]
      · simp
    refine ⟨((M ++ [Ob.lst []]).set D (.dct (grpK ks pos ++ [(Sum.inl c, Val.loc M.length)]))).set M.length (.lst [.dat d]), ks ++ [c], ?_, ⟨⟨fun e => if e = c then M.length else pos e, ?_, fun e he => ?_, fun e he f hf => ?_⟩, ?_, fun e he => ?_, hle, fun j hj => ?_⟩, by rw [if_neg hc]⟩
    · rw [w_lap, eS]
      simp [hN, hfv]
    · rw [List.getElem?_set_ne (by omega), List.getElem?_set_self (by rw [List.length_append]; omega), eK]
    · by_cases hec : e = c
      · subst hec
        simp only [if_true]
        refine ⟨by omega, by omega, lstAt_eq ?_⟩
        rw [List.getElem?_set_self (by simp), v0]
        rfl
      · simp only [if_neg hec]
        have he : e ∈ ks := by
          rcases List.mem_append.mp he with he | he
          · exact he
          · exact absurd (List.mem_singleton.mp he) hec
        obtain ⟨q1, q2, q3⟩ := h2 e he
        have hq := lstAt_inv q3
        have hql := (List.getElem?_eq_some_iff.mp hq).1
        refine ⟨q1, q2, lstAt_eq ?_⟩
        rw [List.getElem?_set_ne (by omega), List.getElem?_set_ne (fun h => q2 h.symm), oldA _ hql]
        exact hq
    · have hlt : ∀ e ∈ ks, pos e < M.length := fun e he => (List.getElem?_eq_some_iff.mp (lstAt_inv (h2 e he).2.2)).1
      have mem : ∀ e, e ∈ ks ++ [c] → e ≠ c → e ∈ ks := fun e he hne => by
        rcases List.mem_append.mp he with he | he
        · exact he
        · exact absurd (List.mem_singleton.mp he) hne
      intro hpos
      dsimp only at hpos
      by_cases h1 : e = c <;> by_cases h2 : f = c
      · rw [h1, h2]
      · rw [if_pos h1, if_neg h2] at hpos
        have := hlt f (mem f hf h2)
        omega
      · rw [if_neg h1, if_pos h2] at hpos
        have := hlt e (mem e he h1)
        omega
      · rw [if_neg h1, if_neg h2] at hpos
        exact h3 e (mem e he h1) f (mem f hf h2) hpos
    · refine List.nodup_append.mpr ⟨g.nd, by simp, fun a ha b hb => ?_⟩
      rcases List.mem_singleton.mp hb with rfl
      exact fun e => hc (e ▸ ha)
    · have h1 : e ≠ c := fun ee => he (List.mem_append.mpr (.inr (List.mem_singleton.mpr ee)))
      simp only [if_neg h1]
      exact g.no e fun h => he (List.mem_append_left _ h)
    · rw [List.getElem?_set_ne (by omega), List.getElem?_set_ne (by omega), oldA _ (by omega)]
      exact g.old j hj
theorem keyInts_map (ks : List Int) : keyInts (ks.map Sum.inl) = some ks := by
  induction ks with
  | nil => rfl
  | cons a r ih =>
    show (keyInts (r.map Sum.inl)).map (a :: ·) = _
    rw [ih]
    rfl
theorem Grp.sorted {M0 M : MH} {D : Nat} {ks : List Int} {val : Int → List PyData} (g : Grp M0 M D ks val) {fo : Ex Val} {st : MSt} (hfo : fo st M = .ok (.loc D) M) (hl : ks.length < 64) : xDSorted fo st M = .ok (.own (iDs (sortI ks))) M := by
  obtain ⟨pos, h1, _⟩ := g.ex
  have eD : dctAt M (.loc D) = some (D, grpK ks pos) := by
    show (match M[D]? with | some (.dct kvs) => some (D, kvs) | _ => none) = _
    rw [h1]
  have e : (grpK ks pos).map (·.1) = ks.map Sum.inl := by
    unfold grpK
    rw [List.map_map]
    rfl
  unfold xDSorted
  rw [hfo]
  simp [eD, e, keyInts_map, hl]
theorem Grp.get {M0 M : MH} {D : Nat} {ks : List Int} {val : Int → List PyData} (g : Grp M0 M D ks val) {c : Int} (hc : c ∈ ks) : ∃ j, lstAt M j = some ((val c).map .dat) ∧ ∀ (fo fk : Ex Val) (st : MSt), fo st M = .ok (.loc D) M → fk st M = .ok (.dat (.int c)) M → eDGet fo fk st M = .ok (.loc j) M := by
  obtain ⟨pos, h1, h2, _⟩ := g.ex
  refine ⟨pos c, (h2 c hc).2.2, fun fo fk st hfo hfk => ?_⟩
  have eD : dctAt M (.loc D) = some (D, grpK ks pos) := by
    show (match M[D]? with | some (.dct kvs) => some (D, kvs) | _ => none) = _
    rw [h1]
  unfold eDGet
  rw [hfo, Out.bind_ok, hfk, Out.bind_ok, eD]
  show Out.ofOpt (getK (grpK ks pos) (Sum.inl c)) M = _
  rw [getK_grp, if_pos hc]
  rfl
/-- two ascending lists of the same ints -/
theorem sorted_ext : ∀ {a b : List Int}, a.Pairwise (· < ·) → b.Pairwise (· < ·) → (∀ x, x ∈ a ↔ x ∈ b) → a = b
  | [], [], _, _, _ => rfl
  | [], y :: _, _, _, h => absurd ((h y).mpr (by simp)) (by simp)
  | x :: _, [], _, _, h => absurd ((h x).mp (by simp)) (by simp)
  | x :: a, y :: b, ha, hb, h => by
    have ha' := List.pairwise_cons.mp ha
    have hb' := List.pairwise_cons.mp hb
    have e : x = y := by
      have h1 := (h x).mp (by simp)
      have h2 := (h y).mpr (by simp)
      rcases List.mem_cons.mp h1 with e | h1
      · exact e
      · rcases List.mem_cons.mp h2 with e | h2
        · exact e.symm
        · have := hb'.1 x h1
          have := ha'.1 y h2
          omega
    subst e
    rw [sorted_ext ha'.2 hb'.2 fun z => ?_]
    constructor
    · intro hz
      have := ha'.1 z hz
      rcases List.mem_cons.mp ((h z).mp (by simp [hz])) with e | hz
      · omega
      · exact hz
    · intro hz
      have := hb'.1 z hz
      rcases List.mem_cons.mp ((h z).mpr (by simp [hz])) with e | hz
      · omega
      · exact hz
theorem sortI_strict {ks : List Int} (h : ks.Nodup) : (sortI ks).Pairwise (· < ·) := by
  have h1 := sortI_sorted ks
  have h2 := List.nodup_iff_pairwise_ne.mp (sortI_nodup h)
  exact (h1.and h2).imp fun ⟨a, b⟩ => by omega
/-- a shelf's form, as far as the looks need it -/
structure Fm (n : Nat) (rows : List (List Int)) : Prop where
  lens : ∀ r ∈ rows, r.length = n
  len : rows.length ≤ 1000
  n6 : n ≤ 1000
theorem Shf.fm {k : Int} {n : Nat} {rows : List (List Int)} (h : Shf k n rows) : Fm n rows := ⟨h.lens, by have := h.len; omega, by have := h.n6; omega⟩
/-- old objects stay as they are, new ones may come -/
structure Ap (M M' : MH) : Prop where
  le : M.length ≤ M'.length
  old : ∀ j, j < M.length → M'[j]? = M[j]?
theorem Ap.refl (M : MH) : Ap M M := ⟨Nat.le_refl _, fun _ _ => rfl⟩
theorem Ap.trans {M M' M'' : MH} (a : Ap M M') (b : Ap M' M'') : Ap M M'' := ⟨Nat.le_trans a.le b.le, fun j hj => (b.old j (Nat.lt_of_lt_of_le hj a.le)).trans (a.old j hj)⟩
theorem Ap.kp {M M' : MH} (a : Ap M M') (h : Bag M) : Kp M M' := by
  obtain ⟨cs, x, y, b⟩ := id h
  have := b.lt
  exact ⟨⟨cs, x, y, (a.old 0 (by omega)).trans b.c, (a.old 1 (by omega)).trans b.b, b.x0, b.cs0, b.len⟩, a.le, fun j _ hj => a.old j hj⟩
end Mn

set_option Elab.async false
set_option linter.all false
set_option maxRecDepth 100000
set_option maxHeartbeats 4000000
namespace Mn
open PySem PySem.Spec PyProof.Rows L2

/-! ### sorted rows, sums -/
theorem gSort_ints (ns : List Int) : gSort [.list (iDs ns)] = some (.own (iDs (sortI ns))) := by
  show (match intsOf (iDs ns) with | some ns => some (Sl.own ((sortI ns).map .int)) | none => _) = _
  rw [intsOf_ints]
  rfl
theorem gSort_intT {ns : List Int} (h : ns.length < 64) : gSort [.tuple (iDs ns)] = some (.own (iDs (sortI ns))) := by
  show (match intsOf (iDs ns) with | some ns => if ns.length < 64 then some (Sl.own ((sortI ns).map .int)) else none | none => _) = _
  rw [intsOf_ints]
  show (if ns.length < 64 then some (Sl.own ((sortI ns).map .int)) else none) = _
  rw [if_pos h]
  rfl
theorem intsOf_rows {rows : List (List Int)} (h : rows ≠ []) : intsOf (rows.map rwD) = none := by
  cases rows with
  | nil => exact absurd rfl h
  | cons r t => rfl
theorem gSort_rows {d : Nat} {rows : List (List Int)} (o : OkR d rows) (h : rows ≠ []) : gSort [.list (rows.map rwD)] = some (.own ((sortR rows).map rwD)) := by
  show (match intsOf (rows.map rwD) with | some ns => some (Sl.own ((sortI ns).map .int)) | none => (rowsOf (rows.map rwT)).bind fun rows => if okR rows = true then some (Sl.own ((sortR rows).map rwT)) else none) = _
  rw [intsOf_rows h, rowsOf_map]
  show (if okR rows = true then some (Sl.own ((sortR rows).map rwT)) else none) = _
  rw [if_pos o.ok]
  rfl
theorem gSort_rowT {d : Nat} {rows : List (List Int)} (o : OkR d rows) (h : rows ≠ []) : gSort [.tuple (rows.map rwD)] = some (.own ((sortR rows).map rwD)) := by
  show (match intsOf (rows.map rwD) with | some ns => if ns.length < 64 then some (Sl.own ((sortI ns).map .int)) else none | none => (rowsOf (rows.map rwT)).bind fun rows => if okR rows = true then some (Sl.own ((sortR rows).map rwT)) else none) = _
  rw [intsOf_rows h, rowsOf_map]
  show (if okR rows = true then some (Sl.own ((sortR rows).map rwT)) else none) = _
  rw [if_pos o.ok]
  rfl
theorem gSortSet_rows {d : Nat} {rows : List (List Int)} (o : OkR d rows) : gSortSet [.list (rows.map rwD)] = some (.own ((ddR rows).map rwD)) := by
  show (rowsOf (rows.map rwT)).bind (fun rows => if okR rows = true then some (Sl.own ((ddR rows).map rwT)) else none) = _
  rw [rowsOf_map]
  show (if okR rows = true then some (Sl.own ((ddR rows).map rwT)) else none) = _
  rw [if_pos o.ok]
  rfl
@[simp] theorem gSumA_ints (ns : List Int) : gSumA [.list (iDs ns)] = some (.int ns.sum) := by
  show (intsOf (iDs ns)).map (fun ns => PyData.int ns.sum) = _
  rw [intsOf_ints]
  rfl
@[simp] theorem gSumA_intT (ns : List Int) : gSumA [.tuple (iDs ns)] = some (.int ns.sum) := by
  show (intsOf (iDs ns)).map (fun ns => PyData.int ns.sum) = _
  rw [intsOf_ints]
  rfl
@[simp] theorem gSumA_rw (r : List Int) : gSumA [rwD r] = some (.int r.sum) := gSumA_intT r
/-- rows as they come: before they are sorted -/
structure Raw (k n : Nat) (rows : List (List Int)) : Prop where
  ne : rows ≠ []
  len : rows.length ≤ 40
  row : ∀ r ∈ rows, r.length = n ∧ ∀ x ∈ r, 0 ≤ x ∧ x < (k : Int)
theorem Raw.okR {k n : Nat} {rows : List (List Int)} (h : Raw k n rows) (k3 : k ≤ 3) (n1 : 1 ≤ n) : OkR n rows := ⟨by have := h.len; omega, n1, fun r hr => ⟨(h.row r hr).1, fun x hx => by have := (h.row r hr).2 x hx; omega⟩⟩
theorem sortR_ne {rows : List (List Int)} (h : rows ≠ []) : sortR rows ≠ [] := fun e => h (by
  have := (sortR_perm rows).length_eq
  rw [e] at this
  exact List.length_eq_zero_iff.mp this.symm)
theorem Raw.sorted {k n : Nat} {rows : List (List Int)} (h : Raw k n rows) (k2 : k = 2 ∨ k = 3) (n1 : 1 ≤ n) (n6 : n ≤ 6) (hl : rows.length ≤ 32) (nd : rows.Nodup) : Shf k n (sortR rows) :=
  ⟨by omega, n1, n6, sortR_ne h.ne, by rw [(sortR_perm rows).length_eq]; exact hl, fun r hr => h.row r ((sortR_perm rows).mem_iff.mp hr), (sortR_perm rows).nodup_iff.mpr nd⟩
theorem Raw.dd {k n : Nat} {rows : List (List Int)} (h : Raw k n rows) (k2 : k = 2 ∨ k = 3) (n1 : 1 ≤ n) (n6 : n ≤ 6) (hl : rows.length ≤ 32) : Shf k n (ddR rows) := by
  refine ⟨by omega, n1, n6, fun e => h.ne ?_, Nat.le_trans (ddR_len rows) hl, fun r hr => h.row r (ddR_mem.mp hr), ddR_nodup rows⟩
  cases hr : rows with
  | nil => rfl
  | cons r t =>
    have : r ∈ ddR rows := ddR_mem.mpr (by rw [hr]; exact List.mem_cons_self ..)
    rw [e] at this
    cases this
/-! ### texts that are written -/
theorem strOk_shaped {s : Str} (h : PySem.PyData.strOk s = true) : SeqAt.shaped (.str s) = true := by
  unfold SeqAt.shaped
  rw [PyData.canLay0, PyData.depth, h]
  rfl
theorem dEq_str {a b : Str} (ha : PySem.PyData.strOk a = true) (hb : PySem.PyData.strOk b = true) : dEq (.str a) (.str b) = some (.bool (decide (a = b))) := by
  rw [dEq, if_pos ⟨strOk_shaped ha, strOk_shaped hb⟩]
  simp only [PyData.eqv]
  rfl
@[simp] theorem eqv_rw (a b : List Int) : PyData.eqv (rwD a) (rwD b) = (a == b) := eqv_intT a b
@[simp] theorem shaped_rw (a : List Int) : SeqAt.shaped (rwD a) = true := shaped_intT a
theorem rw_app (a b : List Int) : dAdd (rwD a) (.tuple (iDs b)) = if a.length + b.length ≤ SL then some (.v (.dat (rwD (a ++ b)))) else none := by
  unfold rwD
  rw [dAdd]
  simp [iDs_append]
theorem flatMap_len {α β : Type} (n : Nat) {f : α → List β} : ∀ {l : List α}, (∀ x ∈ l, (f x).length = n) → (l.flatMap f).length = l.length * n
  | [], _ => by simp
  | x :: r, h => by
    rw [List.flatMap_cons, List.length_append, h x (by simp), flatMap_len n fun y hy => h y (by simp [hy]), List.length_cons, Nat.add_mul, Nat.one_mul, Nat.add_comm]
end Mn

set_option Elab.async false
set_option linter.all false
set_option maxRecDepth 100000
set_option maxHeartbeats 4000000
namespace K06
open PySem PySem.Spec PyProof.Rows L2 Mn

theorem law_rows_of_eq {k : Int} {n : Nat} (hk : 0 < k) (hk2 : k < 1000000) (hn : n < 1000000) {M : MH} {j : Nat} {cs : List Int} (hj : lstAt M j = some ((iDs cs).map .dat)) (hl : cs.length ≤ 1000) :
    fn__law_rows_of [.loc j, .dat (.int k), .dat (.int n)] M = .ok (.v (.dat (.tuple (((sortI cs).map (rowI k n)).map rwD)))) M := by
  refine Ok.eq (go__law_rows_of ?_)
  unfold tm__law_rows_of
  simp
  rw [lcA_locInts hj (fun _ => true) .int]
  rotate_left
  · intro d hd
    simp
  · unfold SL
    omega
  · unfold FU
    omega
  simp [gSort_ints]
  rw [lc_ints (fun _ => true) (fun c => rwD (rowI k n c))]
  rotate_left
  · intro d hd
    simp [law_row_of_eq hk hk2 hn]
  · rw [sortI_length]
    unfold SL
    omega
  simp
theorem law_rows_of_dat {k : Int} {n : Nat} (hk : 0 < k) (hk2 : k < 1000000) (hn : n < 1000000) {M : MH} {cs : List Int} (hl : cs.length ≤ 1000) :
    fn__law_rows_of [.dat (.list (iDs cs)), .dat (.int k), .dat (.int n)] M = .ok (.v (.dat (.tuple (((sortI cs).map (rowI k n)).map rwD)))) M := by
  refine Ok.eq (go__law_rows_of ?_)
  unfold tm__law_rows_of
  simp
  rw [lc_ints (fun _ => true) .int]
  rotate_left
  · intro d hd
    simp
  · unfold SL
    omega
  simp [gSort_ints]
  rw [lc_ints (fun _ => true) (fun c => rwD (rowI k n c))]
  rotate_left
  · intro d hd
    simp [law_row_of_eq hk hk2 hn]
  · rw [sortI_length]
    unfold SL
    omega
  simp
/-- x.pop(_law_draw(bag, len(x))) -/
theorem popd_ok {M : MH} (hb : Bag M) {st : MSt} {i n : Nat} {cs : List Int} (h0 : st[0]? = some (some (.v (.loc 1)))) (hi : st[i]? = some (some (.v (.loc n)))) (hn : lstAt M n = some ((iDs cs).map .dat)) (h2 : 2 ≤ n) (hc : cs ≠ []) (hl : cs.length ≤ 1000000) :
    Ok (eLPopAt (eVar i) (eF (xCall fn__law_draw (aCons (eVar 0) (aCons (eFn gLen (aCons (eVar i) aNil)) aNil)))) st M) fun v M' => ∃ j c M2, j < cs.length ∧ cs[j]? = some c ∧ v = .dat (.int c) ∧ Kp M M2 ∧ M2.length = M.length ∧ M' = M2.set n (.lst ((iDs (cs.eraseIdx j)).map .dat)) := by
  have hp := List.length_pos_iff.mpr hc
  obtain ⟨v, M1, e, ⟨r, rfl, r0, r1⟩, k, hl1⟩ := (law_draw_ok hb (below := (cs.length : Int)) (by omega) (by omega)).ex
  have hM := lstAt_inv hn
  have hlt : n < M.length := (List.getElem?_eq_some_iff.mp hM).1
  have hn1 : lstAt M1 n = some ((iDs cs).map .dat) := lstAt_eq ((k.old n h2 hlt).trans hM)
  have hr : r.toNat < cs.length := by omega
  have hs : seqIndex? r cs.length = some r.toNat := seqIx_pos r0 r1
  have hg : cs[r.toNat]? = some cs[r.toNat] := List.getElem?_eq_getElem hr
  have hb : -9223372036854775808 ≤ r ∧ r < 9223372036854775808 := by omega
  have ee : eLPopAt (eVar i) (eF (xCall fn__law_draw (aCons (eVar 0) (aCons (eFn gLen (aCons (eVar i) aNil)) aNil)))) st M = .ok (.dat (.int cs[r.toNat])) (M1.set n (.lst ((iDs (cs.eraseIdx r.toNat)).map .dat))) := by
    simp [h0, hi, hn, deref_loc, datAll_dat, e, hn1, hs, iDs_get?, hg, hb]
    rw [eraseIdx_map', iDs_eraseIdx]
  rw [ee]
  exact .mk ⟨r.toNat, cs[r.toNat], M1, hr, hg, rfl, k, hl1, rfl⟩
theorem law_drawn_ok {M : MH} (hb : Bag M) {k : Int} {n m : Nat} (k2 : k = 2 ∨ k = 3) (n6 : n ≤ 6) (m1 : 1 ≤ m) (m32 : m ≤ 1000) :
    Ok (fn__law_drawn [.loc 1, .dat (.int k), .dat (.int n), .dat (.int m)] M) fun v M' => ∃ cs, v = .own (iDs cs) ∧ Kp M M' ∧ Cds k n cs ∧ cs ≠ [] ∧ cs.length ≤ m := by
  apply go__law_drawn
  unfold tm__law_drawn
  obtain ⟨p1, p2⟩ := pow_small k2 n6
  obtain ⟨P, hP⟩ : ∃ P : Nat, k ^ n = (P : Int) := ⟨(k ^ n).toNat, by omega⟩
  have hM2 := hb.lt
  have hcast : (if P < m then (P : Int) else (m : Int)) = ((min P m : Nat) : Int) := by split <;> omega
  simp [law_power_eq k n (by omega) (by omega) (by omega), hP, rgOk_int (a := 0) (b := (P : Int)) (by omega) (by omega) (by omega) (by omega), rgD_length, deref_loc, lstAt_eq, datAll_dat, hcast, rgSm_nat (show min P m < 4611686018427387904 by omega)]
  rw [rgD_ints P]
  refine Rs_fo (fun i st M' => ∃ t found rest, st = [some (.v (.loc 1)), some (.v (.dat (.int k))), some (.v (.dat (.int n))), some (.v (.dat (.int m))), some (.v (.loc M.length)), some (.own (iDs found)), t] ∧ Kp M M' ∧ lstAt M' M.length = some ((iDs rest).map .dat) ∧ found.length = i ∧ (found ++ rest).Perm ((List.range P).map fun i => ((i : Nat) : Int))) ?_ ?_ ?_
  · exact ⟨_, [], _, rfl, Kp.newO (Kp.refl hb) _, lstAt_eq (by simp), rfl, List.Perm.refl _⟩
  · rintro i d st M1 hd ⟨t, found, rest, rfl, hk, hr, rfl, hp⟩
    have hi : found.length < min P m := by simpa using (rgD_get hd).2
    have hlen := hp.length_eq
    rw [List.length_append, List.length_map, List.length_range] at hlen
    have hne : rest ≠ [] := by
      intro e
      rw [e] at hlen
      simp at hlen
      omega
    obtain ⟨v, M2, e, j, c, M3, hj, hc, rfl, hk3, hl3, rfl⟩ := (popd_ok hk.bag (st := [some (.v (.loc 1)), some (.v (.dat (.int k))), some (.v (.dat (.int n))), some (.v (.dat (.int m))), some (.v (.loc M.length)), some (.own (iDs found)), some (.v (.dat d))]) (i := 4) (n := M.length) (cs := rest) rfl rfl hr hM2 hne (by omega)).ex
    refine Nx.by_ ⟨some (.v (.dat d)), found ++ [c], rest.eraseIdx j, rfl, (hk.trans hk3).setN hM2 (Nat.le_refl _) _, lstAt_eq (List.getElem?_set_self ?_), by simp, ?_⟩ (by simp [-w_lpopAt, e, iDs_append, show found.length < 16777216 by omega])
    · rw [hl3]
      exact (List.getElem?_eq_some_iff.mp (lstAt_inv hr)).1
    · refine List.Perm.trans ?_ hp
      rw [List.append_assoc]
      refine List.Perm.append_left found ?_
      obtain ⟨hj', rfl⟩ := List.getElem?_eq_some_iff.mp hc
      exact erase_perm hj
  · rintro st M1 ⟨t, found, rest, rfl, hk, hr, hl, hp⟩
    rw [rgD_length] at hl
    have hl2 : found.length = min P m := by simpa using hl
    have hnd : ((List.range P).map fun i => ((i : Nat) : Int)).Nodup := by
      rw [List.nodup_iff_pairwise_ne, List.pairwise_map]
      exact (List.nodup_iff_pairwise_ne.mp List.nodup_range).imp fun h e => h (by omega)
    refine Rs.by_ ⟨found, rfl, hk, ⟨?_, fun c hc => ?_⟩, fun e => ?_, by omega⟩ (by simp; rfl)
    · exact (List.nodup_append.mp (hp.nodup_iff.mpr hnd)).1
    · have := hp.mem_iff.mp (List.mem_append_left rest hc)
      obtain ⟨i, hi, rfl⟩ := List.mem_map.mp this
      have := List.mem_range.mp hi
      omega
    · rw [e] at hl2
      simp at hl2
      omega
end K06

set_option Elab.async false
set_option linter.all false
set_option maxRecDepth 100000
set_option maxHeartbeats 4000000
namespace K06
open PySem PySem.Spec PyProof.Rows L2 Mn

def onesL (n : Nat) (c : Int) : List Int := ((List.range n).filter fun x => (rowI 2 n c)[x]? == some 1).map fun x => ((x : Nat) : Int)
theorem ones0 {n : Nat} (h : n ≤ 6) : onesL n 0 = [] := by
  have : n = 0 ∨ n = 1 ∨ n = 2 ∨ n = 3 ∨ n = 4 ∨ n = 5 ∨ n = 6 := by omega
  rcases this with rfl | rfl | rfl | rfl | rfl | rfl | rfl <;> decide +kernel
theorem ones1 {n : Nat} (h1 : 1 ≤ n) (h : n ≤ 6) : (onesL n 1).length = 1 := by
  have : n = 1 ∨ n = 2 ∨ n = 3 ∨ n = 4 ∨ n = 5 ∨ n = 6 := by omega
  rcases this with rfl | rfl | rfl | rfl | rfl | rfl <;> decide +kernel
theorem pick6 {b0 b1 b2 b3 b4 b5 : Bool} {s : Nat} (h : s < 6) : ∃ b : Bool, [PyData.bool b0, .bool b1, .bool b2, .bool b3, .bool b4, .bool b5][s]? = some (.bool b) ∧ (s = 3 → b = b3) := by
  have h6 : s = 0 ∨ s = 1 ∨ s = 2 ∨ s = 3 ∨ s = 4 ∨ s = 5 := by omega
  rcases h6 with rfl | rfl | rfl | rfl | rfl | rfl <;> exact ⟨_, rfl, by simp⟩
theorem Cds.lt {k : Int} {n : Nat} {cs : List Int} (h1 : cs.Nodup) {m : Nat} (h2 : ∀ c ∈ cs, 0 ≤ c ∧ c < (m : Int)) (h3 : (m : Int) ≤ k ^ n) : Cds k n cs := ⟨h1, fun c hc => ⟨(h2 c hc).1, by have := (h2 c hc).2; omega⟩⟩
theorem law_shaped_ok {M : MH} (hb : Bag M) {n : Nat} (n1 : 1 ≤ n) (n6 : n ≤ 6) :
    Ok (fn__law_shaped [.loc 1, .dat (.int n)] M) fun v M' => ∃ cs, v = .own (iDs cs) ∧ Kp M M' ∧ Cds 2 n cs ∧ cs ≠ [] ∧ cs.length ≤ 1000 := by
  apply go__law_shaped
  unfold tm__law_shaped
  obtain ⟨p1, p2⟩ := pow_small (k := 2) (.inl rfl) n6
  have p3 : (2 : Int) ≤ 2 ^ n := by
    have : n = 1 ∨ n = 2 ∨ n = 3 ∨ n = 4 ∨ n = 5 ∨ n = 6 := by omega
    rcases this with rfl | rfl | rfl | rfl | rfl | rfl <;> decide
  obtain ⟨P, hP⟩ : ∃ P : Nat, (2 : Int) ^ n = (P : Int) := ⟨((2 : Int) ^ n).toNat, by omega⟩
  obtain ⟨v, M1, e, ⟨r, rfl, r0, r1⟩, hk, hl⟩ := (law_draw_ok hb (below := 6) (by omega) (by omega)).ex
  obtain ⟨s, rfl⟩ : ∃ s : Nat, r = (s : Int) := ⟨r.toNat, by omega⟩
  have hs : s < 6 := by omega
  simp [e, law_power_eq 2 n (by omega) (by omega) (by omega), hP, rgSm_nat (show P < 4611686018427387904 by omega)]
  refine Rs_fo (fun i st M' => (∃ t5 t6 t7 t8 t9 t4 cs, st = [some (.v (.loc 1)), some (.v (.dat (.int n))), some (.v (.dat (.int s))), some (.own (iDs cs)), t4, t5, t6, t7, t8, t9] ∧ cs.Nodup ∧ (∀ c ∈ cs, 0 ≤ c ∧ c < (i : Int)) ∧ cs.length ≤ i ∧ (1 ≤ i → s ≠ 3 → cs ≠ []) ∧ (2 ≤ i → cs ≠ [])) ∧ M' = M1) ?_ ?_ ?_
  · exact ⟨⟨_, _, _, _, _, _, [], rfl, by simp, by simp, by simp, fun h => absurd h (by omega), fun h => absurd h (by omega)⟩, rfl⟩
  · rintro i d st M2 hd ⟨⟨t5, t6, t7, t8, t9, t4, cs, rfl, h1, h2, h3, h4, h5⟩, rfl⟩
    obtain ⟨rfl, hi⟩ := rgD_get hd
    have hi : i < P := by omega
    refine Nx.opq fun Q hQ => ?_
    simp [law_row_of_eq (k := 2) (c := (i : Int)) (n := n) (by omega) (by omega) (by omega), rgSm_nat (show n < 4611686018427387904 by omega), rwD]
    rw [lc_rng n (fun x => (rowI 2 n i)[x]? == some 1) (fun x => .int (x : Int))]
    rotate_left
    · intro x hx
      have : x < (rowI 2 n i).length := by simpa using hx
      simp [iDs_get?, List.getElem?_eq_getElem this]
    · unfold SL
      omega
    rw [iDs_mapF, show ((List.range n).filter fun x => (rowI 2 n i)[x]? == some 1).map (fun x => ((x : Nat) : Int)) = onesL n i from rfl]
    have hcs : i = 0 → onesL n i = [] := by rintro rfl; exact ones0 n6
    have hcs1 : i = 1 → (onesL n i).length = 1 := by rintro rfl; exact ones1 n1 n6
    generalize onesL n i = L at hcs hcs1
    have fin : ∀ (b : Bool), (i = 0 → s ≠ 3 → b = true) → (i = 1 → s = 3 → b = true) → ∀ t5 t6 t7 t8 t9 t4, Nx (if b = true then some (Fl.nx, [some (.v (.loc 1)), some (.v (.dat (.int n))), some (.v (.dat (.int s))), some (.own (iDs cs ++ [.int i])), t4, t5, t6, t7, t8, t9], M2) else some (Fl.nx, [some (.v (.loc 1)), some (.v (.dat (.int n))), some (.v (.dat (.int s))), some (.own (iDs cs)), t4, t5, t6, t7, t8, t9], M2)) Q := by
      intro b hb0 hb1 t5 t6 t7 t8 t9 t4
      cases b with
      | false =>
        simp only [Bool.false_eq_true, if_false]
        refine .mk (hQ _ _ ⟨⟨_, _, _, _, _, _, cs, rfl, h1, fun c hc => ⟨(h2 c hc).1, by have := (h2 c hc).2; omega⟩, by omega, fun _ hs3 => ?_, fun hi1 => ?_⟩, rfl⟩)
        · by_cases hi0 : i = 0
          · exact absurd (hb0 hi0 hs3) (by decide)
          · exact h4 (by omega) hs3
        · by_cases hs3 : s = 3
          · by_cases hi1 : i = 1
            · exact absurd (hb1 hi1 hs3) (by decide)
            · exact h5 (by omega)
          · exact h4 (by omega) hs3
      | true =>
        simp only [if_true]
        refine .mk (hQ _ _ ⟨⟨_, _, _, _, _, _, cs ++ [(i : Int)], by rw [iDs_append]; rfl, ?_, ?_, by simp; omega, by simp, by simp⟩, rfl⟩)
        · refine List.nodup_append.mpr ⟨h1, by simp, fun a ha b hb => ?_⟩
          rcases List.mem_singleton.mp hb with rfl
          have := (h2 a ha).2
          intro e
          omega
        · intro c hc
          rcases List.mem_append.mp hc with hc | hc
          · exact ⟨(h2 c hc).1, by have := (h2 c hc).2; omega⟩
          · rcases List.mem_singleton.mp hc with rfl
            exact ⟨by omega, by omega⟩
    have hcs2 : cs.length < 16777216 := by omega
    by_cases hL : L = []
    · subst hL
      have hne : i ≠ 1 := fun e => absurd (hcs1 e) (by simp)
      obtain ⟨b, hb, hb0⟩ : ∃ b : Bool, [PyData.bool true, .bool true, .bool true, .bool false, .bool true, .bool true][s]? = some (.bool b) ∧ (s ≠ 3 → b = true) := by
        have h6 : s = 0 ∨ s = 1 ∨ s = 2 ∨ s = 3 ∨ s = 4 ∨ s = 5 := by omega
        rcases h6 with rfl | rfl | rfl | rfl | rfl | rfl <;> exact ⟨_, rfl, by decide⟩
      simp [hb, hcs2]
      exact fin b (fun _ => hb0) (fun h => absurd h hne) _ _ _ _ _ _
    · have hne : i ≠ 0 := fun e => hL (hcs e)
      have hp := List.length_pos_iff.mpr hL
      obtain ⟨y, hy⟩ : ∃ y, (iDs L)[L.length - 1]? = some (.int y) := ⟨L[L.length - 1]'(by omega), by rw [iDs_get?, List.getElem?_eq_getElem (by omega)]; rfl⟩
      obtain ⟨x, hx⟩ : ∃ x, (iDs L)[0]? = some (.int x) := ⟨L[0], by rw [iDs_get?, List.getElem?_eq_getElem (by omega)]; rfl⟩
      have hemp : (iDs L).isEmpty = false := by
        cases L with
        | nil => exact absurd rfl hL
        | cons _ _ => rfl
      have h1L : i = 1 → ((L.length : Int) == 1) = true := fun h => by
        have := hcs1 h
        rw [this]
        rfl
      by_cases hrun : y - x + 1 = L.length
      · obtain ⟨b, hb, hb3⟩ := pick6 (b0 := true) (b1 := ((L.length : Int) % 2 == 0)) (b2 := decide ((L.length : Int) < 3)) (b3 := ((L.length : Int) == 1)) (b4 := true) (b5 := (y == (n : Int) - 1)) hs
        simp [hy, hx, hemp, hrun, hcs2, hb]
        exact fin b (fun h => absurd h hne) (fun h hs3 => by rw [hb3 hs3]; exact h1L h) _ _ _ _ _ _
      · obtain ⟨b, hb, hb3⟩ := pick6 (b0 := true) (b1 := ((L.length : Int) % 2 == 0)) (b2 := decide ((L.length : Int) < 3)) (b3 := ((L.length : Int) == 1)) (b4 := (y - x + 1 == (L.length : Int))) (b5 := false) hs
        simp [hy, hx, hemp, hrun, hcs2, hb]
        exact fin b (fun h => absurd h hne) (fun h hs3 => by rw [hb3 hs3]; exact h1L h) _ _ _ _ _ _
  · rintro st M2 ⟨⟨t5, t6, t7, t8, t9, t4, cs, rfl, h1, h2, h3, h4, h5⟩, rfl⟩
    rw [rgD_length] at h2 h3 h5
    simp at h2 h3 h5
    exact Rs.by_ ⟨cs, rfl, hk, Cds.lt h1 h2 (by omega), h5 (by omega), by omega⟩ (by simp; rfl)
end K06

set_option Elab.async false
set_option linter.all false
set_option maxRecDepth 100000
set_option maxHeartbeats 4000000
namespace K06
open PySem PySem.Spec PyProof.Rows L2 Mn

theorem pow_mono {k : Int} (k2 : k = 2 ∨ k = 3) (n : Nat) : 1 ≤ k ^ n := by
  induction n with
  | zero => simp
  | succ n ih =>
    rw [Int.pow_succ]
    rcases k2 with rfl | rfl <;> omega
theorem law_turning_ok (M : MH) {st : Int} {n : Nat} (h1 : 1 ≤ st) (h3 : st ≤ 3) (n1 : 1 ≤ n) (n6 : n ≤ 6) :
    Ok (fn__law_turning [.dat (.int st), .dat (.int n)] M) fun v M' => ∃ cs, v = .own (iDs cs) ∧ M' = M ∧ Cds 3 n cs ∧ cs ≠ [] ∧ cs.length ≤ 1000 := by
  apply go__law_turning
  unfold tm__law_turning
  obtain ⟨p1, p2⟩ := pow_small (k := 3) (.inr rfl) n6
  simp [rgSm_int (a := 0) (b := 3) (by omega) (by omega) (by omega) (by omega)]
  refine Rs_fo (fun i st' M' => (∃ t3 t4 t5 cs, st' = [some (.v (.dat (.int st))), some (.v (.dat (.int n))), some (.own (iDs cs)), t3, t4, t5] ∧ Cds 3 n cs ∧ cs ≠ [] ∧ cs.length ≤ i + 1) ∧ M' = M) ?_ ?_ ?_
  · exact ⟨⟨_, _, _, [0], rfl, ⟨by simp, by simp; omega⟩, by simp, by simp⟩, rfl⟩
  · rintro i d st' M1 hd ⟨⟨t3, t4, t5, cs, rfl, hc, hne, hlen⟩, rfl⟩
    obtain ⟨rfl, hi⟩ := rgD_get hd
    have hi : i < 3 := by simpa using hi
    refine Nx.opq fun Q hQ => ?_
    simp [rgSm_nat (show n < 4611686018427387904 by omega)]
    refine Nx_sq (Nx_fo (fun x st' M' => (∃ t5 c, st' = [some (.v (.dat (.int st))), some (.v (.dat (.int n))), some (.own (iDs cs)), some (.v (.dat (.int (i : Int)))), some (.v (.dat (.int c))), t5] ∧ 0 ≤ c ∧ c < 3 ^ x) ∧ M' = M1) ?_ ?_ ?_)
    · exact ⟨⟨_, 0, rfl, by omega, by simp⟩, rfl⟩
    · rintro x d st' M2 hd ⟨⟨t5, c, rfl, c0, c1⟩, rfl⟩
      obtain ⟨rfl, hx⟩ := rgD_get hd
      have m0 := Int.emod_nonneg ((i : Int) + x * st) (b := 3) (by omega)
      have m1 := Int.emod_lt_of_pos ((i : Int) + x * st) (b := 3) (by omega)
      refine Nx.by_ ⟨⟨some (.v (.dat (.int x))), c * 3 + ((i : Int) + x * st) % 3, rfl, by omega, by rw [Int.pow_succ]; omega⟩, rfl⟩ (by simp [show -18446744073709551616 < st by omega, show st < 18446744073709551616 by omega])
    · rintro st' M2 ⟨⟨t5, c, rfl, c0, c1⟩, rfl⟩
      rw [rgD_length] at c1
      simp at c1
      by_cases hm : c ∈ cs
      · simp [hm]
        exact hQ _ _ ⟨⟨_, _, _, cs, rfl, hc, hne, by omega⟩, rfl⟩
      · simp [hm, show cs.length < 16777216 by omega]
        exact hQ _ _ ⟨⟨_, _, _, cs ++ [c], by rw [iDs_append]; rfl, hc.snoc hm c0 c1, by simp, by simp; omega⟩, rfl⟩
  · rintro st' M1 ⟨⟨t3, t4, t5, cs, rfl, hc, hne, hlen⟩, rfl⟩
    rw [rgD_length] at hlen
    simp at hlen
    exact Rs.by_ ⟨cs, rfl, rfl, hc, hne, by omega⟩ (by simp; rfl)
theorem beside_cds {k : Int} (k2 : k = 2 ∨ k = 3) {a b : Nat} {hs ts : List Int} (h1 : Cds k a hs) (h2 : Cds k b ts) : Cds k (a + b) (hs.flatMap fun h => ts.map fun t => h * k ^ b + t) := by
  have hp := pow_mono k2 b
  refine ⟨?_, fun c hc => ?_⟩
  · rw [List.nodup_iff_pairwise_ne, List.pairwise_flatMap]
    refine ⟨fun h _ => ?_, ?_⟩
    · rw [List.pairwise_map]
      exact (List.nodup_iff_pairwise_ne.mp h2.nd).imp fun hne e => hne (by omega)
    · refine (List.nodup_iff_pairwise_ne.mp h1.nd).imp fun {x y} hne a ha b' hb' e => hne ?_
      obtain ⟨t, ht, rfl⟩ := List.mem_map.mp ha
      obtain ⟨u, hu, rfl⟩ := List.mem_map.mp hb'
      have r1 := h2.rng t ht
      have r2 := h2.rng u hu
      have d1 : (x * k ^ b + t) / k ^ b = x := by rw [Int.add_comm, Int.add_mul_ediv_right _ _ (by omega), Int.ediv_eq_zero_of_lt r1.1 r1.2, Int.zero_add]
      have d2 : (y * k ^ b + u) / k ^ b = y := by rw [Int.add_comm, Int.add_mul_ediv_right _ _ (by omega), Int.ediv_eq_zero_of_lt r2.1 r2.2, Int.zero_add]
      rw [← d1, ← d2, e]
  · obtain ⟨h, hh, hc⟩ := List.mem_flatMap.mp hc
    obtain ⟨t, ht, rfl⟩ := List.mem_map.mp hc
    have r1 := h1.rng h hh
    have r2 := h2.rng t ht
    have e1 : 0 ≤ h * k ^ b := Int.mul_nonneg r1.1 (by omega)
    refine ⟨by omega, ?_⟩
    have e2 : (h + 1) * k ^ b ≤ k ^ a * k ^ b := Int.mul_le_mul_of_nonneg_right (by omega) (by omega)
    rw [Int.pow_add]
    rw [Int.add_mul, Int.one_mul] at e2
    omega
theorem flatMap_len {α β : Type} (n : Nat) {f : α → List β} : ∀ {l : List α}, (∀ x ∈ l, (f x).length = n) → (l.flatMap f).length = l.length * n
  | [], _ => by simp
  | x :: r, h => by
    rw [List.flatMap_cons, List.length_append, h x (by simp), flatMap_len n fun y hy => h y (by simp [hy]), List.length_cons, Nat.add_mul, Nat.one_mul, Nat.add_comm]
theorem law_beside_ok {M : MH} (hb : Bag M) {k : Int} {n m : Nat} (k2 : k = 2 ∨ k = 3) (n1 : 1 < n) (n6 : n ≤ 6) (m1 : 1 ≤ m) (m32 : m ≤ 32) :
    Ok (fn__law_beside [.loc 1, .dat (.int k), .dat (.int n), .dat (.int m)] M) fun v M' => ∃ cs, v = .own (iDs cs) ∧ Kp M M' ∧ Cds k n cs ∧ cs ≠ [] ∧ cs.length ≤ 1000 := by
  apply go__law_beside
  unfold tm__law_beside
  obtain ⟨v, M1, e1, ⟨r, rfl, r0, r1⟩, k1, l1⟩ := (law_draw_ok hb (below := (n : Int) - 1) (by omega) (by omega)).ex
  obtain ⟨a, ha⟩ : ∃ a : Nat, 1 + r = (a : Int) := ⟨(1 + r).toNat, by omega⟩
  obtain ⟨v, M2, e2, ⟨s, rfl, s0, s1⟩, kk2, l2⟩ := (law_draw_ok k1.bag (below := 4) (by omega) (by omega)).ex
  obtain ⟨b, hbb⟩ : ∃ b : Nat, 1 + s = (b : Int) := ⟨(1 + s).toNat, by omega⟩
  obtain ⟨v, M3, e3, hs, rfl, k3, c3, ne3, l3⟩ := (law_drawn_ok kk2.bag (k := k) (n := a) (m := b) k2 (by omega) (by omega) (by omega)).ex
  have hp := List.length_pos_iff.mpr ne3
  obtain ⟨q, hq, hq1, hq2⟩ : ∃ q : Nat, (if 1 < (m : Int) / (hs.length : Int) then (m : Int) / (hs.length : Int) else 1) = (q : Int) ∧ 1 ≤ q ∧ q ≤ 32 := by
    have d1 : (m : Int) / (hs.length : Int) ≤ m := Int.ediv_le_self _ (by omega)
    refine ⟨(if 1 < (m : Int) / (hs.length : Int) then (m : Int) / (hs.length : Int) else 1).toNat, ?_, ?_, ?_⟩ <;> split <;> omega
  have hna : (n : Int) - (a : Int) = ((n - a : Nat) : Int) := by omega
  obtain ⟨v, M4, e4, ts, rfl, k4, c4, ne4, l4⟩ := (law_drawn_ok k3.bag (k := k) (n := n - a) (m := q) k2 (by omega) hq1 (by omega)).ex
  simp [e1, ha, e2, hbb, e3, hna, hp, show (hs.length : Int) < 1073741824 by omega, hq, e4]
  refine Rs_fo (fun i st M' => (∃ t8 t9, st = [some (.v (.loc 1)), some (.v (.dat (.int k))), some (.v (.dat (.int n))), some (.v (.dat (.int m))), some (.v (.dat (.int a))), some (.v (.dat (.list (iDs hs)))), some (.own (iDs ((hs.take i).flatMap fun h => ts.map fun t => h * k ^ (n - a) + t))), some (.own (iDs ts)), t8, t9]) ∧ M' = M4) ?_ ?_ ?_
  · exact ⟨⟨none, none, by simp⟩, rfl⟩
  · rintro i d st M5 hd ⟨⟨t8, t9, rfl⟩, rfl⟩
    obtain ⟨h, hh, rfl⟩ := Option.map_eq_some_iff.mp ((iDs_get? hs i).symm.trans hd)
    obtain ⟨hil, _⟩ := List.getElem?_eq_some_iff.mp hh
    obtain ⟨p1, p2⟩ := pow_small (n := n - a) k2 (by omega)
    obtain ⟨acc, hacc⟩ : ∃ acc, acc = (hs.take i).flatMap fun h => ts.map fun t => h * k ^ (n - a) + t := ⟨_, rfl⟩
    have hl : acc.length ≤ 1000 * 32 := by
      rw [hacc, flatMap_len ts.length fun h _ => by simp]
      exact Nat.mul_le_mul (by rw [List.length_take]; omega) (by omega)
    have hacc2 : acc ++ ts.map (fun t => h * k ^ (n - a) + t) = (hs.take (i + 1)).flatMap fun h => ts.map fun t => h * k ^ (n - a) + t := by
      rw [hacc, List.take_add_one, hh, List.flatMap_append]
      simp
    rw [← hacc]
    refine Nx.opq fun Q hQ => ?_
    simp
    rw [lc_ints (fun _ => true) (fun t => .int (h * k ^ (n - a) + t))]
    rotate_left
    · intro t ht
      simp [hna, law_power_eq k (n - a) (by omega) (by omega) (by omega), show -18446744073709551616 < k ^ (n - a) by omega, show k ^ (n - a) < 18446744073709551616 by omega]
    · unfold SL
      omega
    rw [filter_tt, iDs_mapF]
    obtain ⟨new, hnew⟩ : ∃ new, new = ts.map (fun t => h * k ^ (n - a) + t) := ⟨_, rfl⟩
    have hnl : new.length ≤ 32 := by rw [hnew, List.length_map]; omega
    rw [← hnew] at hacc2 ⊢
    simp [show acc.length + new.length ≤ 16777216 by omega]
    exact hQ _ _ ⟨⟨_, _, by rw [← hacc2, iDs_append]⟩, rfl⟩
  · rintro st M5 ⟨⟨t8, t9, rfl⟩, rfl⟩
    rw [iDs_length, List.take_length]
    have hna2 : a + (n - a) = n := by omega
    refine Rs.by_ ⟨_, rfl, k1.trans (kk2.trans (k3.trans k4)), hna2 ▸ beside_cds k2 c3 c4, ?_, ?_⟩ (by simp; rfl)
    · intro e
      have := congrArg List.length e
      rw [flatMap_len ts.length fun h _ => by simp] at this
      have hp2 := List.length_pos_iff.mpr ne4
      have := Nat.mul_pos hp hp2
      simp at *
      omega
    · rw [flatMap_len ts.length fun h _ => by simp]
      refine Nat.le_trans (Nat.mul_le_mul (show hs.length ≤ 5 by omega) (show ts.length ≤ 32 by omega)) (by omega)
end K06

set_option Elab.async false
set_option linter.all false
set_option maxRecDepth 100000
set_option maxHeartbeats 4000000
namespace Mn
open PySem PySem.Spec PyProof.Rows L2

/-! ### branches that return -/
section
variable {f k a b rest : Tm} {c : Ex Bool} {st0 st : MSt} {M0 M : MH} {Q : Sl → MH → Prop} {s : Sl} {o : Option (Fl × MSt × MH)}
theorem Rs.sqs (st : MSt) (M : MH) (h : f st0 M0 = some (.nx, st, M)) (q : Rs (sq (k st M) rest) Q) : Rs (sq (tmSeq f k st0 M0) rest) Q := by
  rw [w_seq, h]
  exact q
theorem Rs.sqr (q : Q s M) (h : o = some (.ret s, st, M)) : Rs (sq o rest) Q := by
  rw [h]
  exact .ret q
theorem Rs.sqrt {g : Ex Sl} (q : Q s M) (h : g st0 M0 = .ok s M) : Rs (sq (tmRt g st0 M0) rest) Q := by
  rw [w_rt, h]
  exact .ret q
theorem Rs.ift (M : MH) (h : c st0 M0 = .ok true M) (q : Rs (sq (a st0 M) rest) Q) : Rs (tmSeq (tmIf c a b) rest st0 M0) Q := by
  rw [w_seq, w_tif, h]
  exact q
theorem Rs.iff0 (M : MH) (h : c st0 M0 = .ok false M) (q : Rs (rest st0 M) Q) : Rs (tmSeq (tmIf c a tmNil) rest st0 M0) Q := by
  rw [w_seq, w_tif, h]
  exact q
theorem Rs.ifr {g : Ex Sl} (M1 M : MH) (h : c st0 M0 = .ok true M1) (e : g st0 M1 = .ok s M) (q : Q s M) : Rs (tmSeq (tmIf c (tmRt g) b) rest st0 M0) Q :=
  Rs.ift M1 h (Rs.sqrt q e)
theorem Rs.sqq (R : MSt → MH → Prop) (h : Nx (f st0 M0) R) (q : ∀ st M, R st M → Rs (sq (k st M) rest) Q) : Rs (sq (tmSeq f k st0 M0) rest) Q := by
  obtain ⟨st, M, e, r⟩ := h.ex
  exact Rs.sqs st M e (q st M r)
end
@[simp] theorem w_m1 (g : Str → PyData → Option PyData) (fo fe : Ex Val) (st : MSt) (M : MH) : eM1 g fo fe st M = (fo st M).bind fun v M1 => match v with
  | .dat (.str a) => (fe st M1).bind fun w M2 => Out.ofOpt ((deref st M2 w).bind fun d => (g a d).map .dat) M2
  | _ => .err := nofl rfl
/-! ### a shared list of data, laid since M -/
structure Lc (M M' : MH) (j : Nat) (ds : List PyData) : Prop where
  at_ : lstAt M' j = some (ds.map .dat)
  ge : M.length ≤ j
  kp : Kp M M'
theorem Lc.new {M M' : MH} (h : Kp M M') (ds : List PyData) : Lc M (M' ++ [.lst (ds.map .dat)]) M'.length ds :=
  ⟨lstAt_eq (by simp), h.le, h.newO _⟩
theorem Lc.lt {M M' : MH} {j : Nat} {ds : List PyData} (h : Lc M M' j ds) : j < M'.length := (List.getElem?_eq_some_iff.mp (lstAt_inv h.at_)).1
theorem Kp.two {M M' : MH} (h : Kp M M') : 2 ≤ M'.length := h.bag.lt
theorem Lc.mv {M M' M'' : MH} {j : Nat} {ds : List PyData} (h : Lc M M' j ds) (b : Bag M) (k : Kp M' M'') : Lc M M'' j ds :=
  ⟨lstAt_eq ((k.old j (Nat.le_trans b.lt h.ge) h.lt).trans (lstAt_inv h.at_)), h.ge, h.kp.trans k⟩
theorem Lc.set {M M' : MH} {j : Nat} {ds : List PyData} (h : Lc M M' j ds) (b : Bag M) (es : List PyData) : Lc M (M'.set j (.lst (es.map .dat))) j es :=
  ⟨lstAt_eq (List.getElem?_set_self h.lt), h.ge, h.kp.setN (Nat.le_trans b.lt h.ge) h.ge _⟩
theorem Lc.deref {M M' : MH} {j : Nat} {ds : List PyData} (h : Lc M M' j ds) (st : MSt) : Mn.deref st M' (.loc j) = some (.list ds) := by
  rw [deref_loc, h.at_]
  show (datAll (ds.map .dat)).map PyData.list = _
  rw [datAll_dat]
  rfl
@[simp] theorem w_lext (fo f : Ex Val) (st : MSt) (M : MH) : eLExt fo f st M = (fo st M).bind fun o M1 => if isLoc M1 o = true then (f st M1).bind fun v M2 => match locOf M2 o, derefT st M2 v with
  | some (n, vs), some (.list es) => if vs.length + es.length ≤ SL then .ok (.dat .none) (M2.set n (.lst (vs ++ es.map .dat))) else .err
  | _, _ => .err else .err := nofl rfl
end Mn

set_option Elab.async false
set_option linter.all false
set_option maxRecDepth 100000
set_option maxHeartbeats 4000000
namespace Mn
open PySem PySem.Spec PyProof.Rows L2

mutual
theorem eqv_self : ∀ d : PyData, d.canLay0 = true → PyData.eqv d d = true
  | .none, _ => by simp [PyData.eqv]
  | .bool _, _ => by simp [PyData.eqv]
  | .int _, _ => by simp [PyData.eqv]
  | .str _, _ => by simp [PyData.eqv]
  | .list xs, h => by
    simp only [PyData.eqv]
    exact eqvAll_self xs (by simpa [PyData.canLay0] using h)
  | .tuple xs, h => by
    simp only [PyData.eqv]
    exact eqvAll_self xs (by simpa [PyData.canLay0] using h)
  | .dict _, h => by simp [PyData.canLay0] at h
theorem eqvAll_self : ∀ xs : List PyData, PyData.canLayAll0 xs = true → PyData.eqvAll xs xs = true
  | [], _ => by simp [PyData.eqvAll]
  | x :: xs, h => by
    have h' : x.canLay0 = true ∧ PyData.canLayAll0 xs = true := by simpa [PyData.canLayAll0] using h
    simp only [PyData.eqvAll, eqv_self x h'.1, eqvAll_self xs h'.2, Bool.and_self]
end
theorem Sh.eq {n : Nat} {d : PyData} (h : Sh n d) (hn : n ≤ 64) : dEq d d = some (.bool true) := by
  rw [dEq, if_pos ⟨h.shaped hn, h.shaped hn⟩, eqv_self d h.1]
/-- shown in at most L signs -/
structure Sf (n L : Nat) (d : PyData) : Prop where
  sh : Sh n d
  sw : d.showable = true
  ft : Fit L d.shown
theorem Sf.mono {n m L K : Nat} {d : PyData} (h : Sf n L d) (hn : n ≤ m) (hl : L ≤ K) : Sf m K d := ⟨h.sh.mono hn, h.sw, h.ft.mono hl⟩
theorem int_fin : ∀ i < 100, (toString (Int.ofNat i) : Str).cps.size ≤ 2 ∧ (∀ c ∈ (toString (Int.ofNat i) : Str).cps.toList, c < 0x110000) ∧ i.log2 < 1920 := by decide +kernel
theorem Sf.int {i : Int} (h0 : 0 ≤ i) (h1 : i < 100) {n : Nat} : Sf n 2 (.int i) := by
  obtain ⟨j, rfl⟩ : ∃ j : Nat, i = Int.ofNat j := ⟨i.toNat, by show i = ((i.toNat : Nat) : Int); omega⟩
  have hj : j < 100 := by have : ((j : Nat) : Int) < 100 := h1; omega
  obtain ⟨a, b, c⟩ := int_fin j hj
  exact ⟨Sh.int _, by rw [PyData.showable]; exact decide_eq_true c, by rw [PyData.shown]; exact ⟨a, b⟩⟩
theorem Sf.tup {n L K : Nat} {ds : List PyData} (h : ∀ d ∈ ds, Sf n L d) (hk : ds.length ≤ K) : Sf (n + 1) (K * (L + 2) + 3) (.tuple ds) :=
  ⟨Sh.tuple fun d hd => (h d hd).sh, show_tup fun d hd => (h d hd).sw, (Fit.tup fun d hd => (h d hd).ft).mono (Nat.add_le_add_right (Nat.mul_le_mul_right _ hk) _)⟩
theorem Fit.textFrom {L : Nat} : ∀ {ts : List Str} {k A : Nat} {acc : Str}, Fit A acc → (∀ t ∈ ts, Fit L t) → Fit (A + ts.length * (L + 2)) (textFrom k acc ts)
  | [], k, A, acc, h, _ => h.mono (by simp)
  | t :: r, k, A, acc, h, ht => by
    have h1 := ht t (by simp)
    have h2 : Fit 2 (", " : Str) := ⟨by decide, by decide⟩
    have h4 : Fit 2 (((if k > 0 then ", " else "" : String)) : Str) := by
      split
      · exact ⟨by decide, by decide⟩
      · exact ⟨by decide, by decide⟩
    have h3 : Fit (A + (L + 2)) (acc ++ ((if k > 0 then ", " else "" : String) : Str) ++ t) := ((h.app h4).app h1).mono (by omega)
    have := Fit.textFrom (ts := r) (k := k + 1) h3 fun x hx => ht x (by simp [hx])
    refine Fit.mono this ?_
    rw [List.length_cons, Nat.add_mul]
    omega
theorem Fit.listT {L : Nat} {ts : List Str} (h : ∀ t ∈ ts, Fit L t) : Fit (ts.length * (L + 2) + 2) (listText ts) := by
  unfold listText
  have h1 : Fit 1 ("[" : Str) := ⟨by decide, by decide⟩
  have h2 : Fit 1 ("]" : Str) := ⟨by decide, by decide⟩
  have h3 := (Fit.textFrom (k := 0) h1 h).app h2
  exact h3.mono (by omega)
theorem Sf.lst {n L K : Nat} {ds : List PyData} (h : ∀ d ∈ ds, Sf n L d) (hk : ds.length ≤ K) : Sf (n + 1) (K * (L + 2) + 3) (.list ds) := by
  refine ⟨Sh.list fun d hd => (h d hd).sh, ?_, ?_⟩
  · rw [PyData.showable]
    exact showAll fun d hd => (h d hd).sw
  · rw [PyData.shown, shownAll_map]
    have := Fit.listT (ts := ds.map PyData.shown) (L := L) fun t ht => by
      obtain ⟨d, hd, rfl⟩ := List.mem_map.mp ht
      exact (h d hd).ft
    rw [List.length_map] at this
    refine this.mono ?_
    have := Nat.mul_le_mul_right (L + 2) hk
    omega
/-- d == d, and repr(d) is a text that equals itself -/
structure Slf (d : PyData) : Prop where
  eq : dEq d d = some (.bool true)
  rp : ∃ z : Str, gReprA [d] = some (.str z) ∧ dEq (.str z) (.str z) = some (.bool true)
theorem Fit.seq {L : Nat} {s : Str} (h : Fit L s) : dEq (.str s) (.str s) = some (.bool true) := by
  have sh : SeqAt.shaped (.str s) = true := by
    unfold SeqAt.shaped
    rw [PyData.canLay0, PyData.depth]
    simp only [Nat.zero_le, decide_true, Bool.and_true]
    unfold PySem.PyData.strOk
    rw [Array.all_eq_true]
    intro i hi
    exact decide_eq_true (h.2 _ (by simp))
  rw [dEq, if_pos ⟨sh, sh⟩]
  simp [PyData.eqv]
theorem Sf.slfS {n L : Nat} {d : PyData} (h : Sf n L d) (hs : isSeq d = true) (hn : n ≤ 64 := by decide) (hl : L ≤ 1000000 := by decide) : Slf d := by
  refine ⟨h.sh.eq hn, d.shown, ?_, h.ft.seq⟩
  have e : gRepr [d] = some (.str d.shown) := by
    show dRepr d = _
    unfold dRepr
    rw [if_pos ⟨hs, h.sh.shaped hn, h.sw, by have := h.ft.1; show d.shown.cps.size ≤ 16777216; omega⟩]
  cases d with
  | list ds => exact e
  | tuple ds => exact e
  | _ => cases hs
theorem Sf.slfI {i : Int} (h0 : 0 ≤ i) (h1 : i < 100) : Slf (.int i) := by
  have h := Sf.int h0 h1 (n := 0)
  refine ⟨h.sh.eq (by decide), PyData.shown (.int i), ?_, h.ft.seq⟩
  have hs := h.sw
  rw [PyData.showable] at hs
  show (if i.natAbs.log2 < 1920 then some (PyData.str (toString i)) else none) = _
  rw [if_pos (of_decide_eq_true hs), PyData.shown]
end Mn

set_option Elab.async false
set_option linter.all false
set_option maxRecDepth 100000
set_option maxHeartbeats 4000000
namespace Mn
open PySem PySem.Spec PyProof.Rows L2

/-! ### steps whose state is reckoned, not told -/
def gon (o : Option (Fl × MSt × MH)) (P : MSt → MH → Prop) : Prop := match o with
  | some (.nx, st, M) => P st M
  | _ => False
@[simp] theorem gon_nx (st : MSt) (M : MH) (P : MSt → MH → Prop) : gon (some (.nx, st, M)) P = P st M := nofl rfl
section
variable {f k rest : Tm} {st0 : MSt} {M0 : MH} {Q : Sl → MH → Prop} {R : MSt → MH → Prop} {o : Option (Fl × MSt × MH)}
theorem gon.ex {P : MSt → MH → Prop} (h : gon o P) : ∃ st M, o = some (.nx, st, M) ∧ P st M := by
  unfold gon at h
  split at h
  · exact ⟨_, _, rfl, h⟩
  · exact h.elim
theorem Rs.go (h : ∀ P : MSt → MH → Prop, (∀ st M, Rs (k st M) Q → P st M) → gon (f st0 M0) P) : Rs (tmSeq f k st0 M0) Q := by
  obtain ⟨st, M, e, q⟩ := (h _ fun _ _ q => q).ex
  exact Rs.seq st M e q
theorem Rs.gos (h : ∀ P : MSt → MH → Prop, (∀ st M, Rs (sq (k st M) rest) Q → P st M) → gon (f st0 M0) P) : Rs (sq (tmSeq f k st0 M0) rest) Q := by
  obtain ⟨st, M, e, q⟩ := (h _ fun _ _ q => q).ex
  exact Rs.sqs st M e q
theorem Rs.goe (h : ∀ P : MSt → MH → Prop, (∀ st M, Rs (rest st M) Q → P st M) → gon o P) : Rs (sq o rest) Q := by
  obtain ⟨st, M, e, q⟩ := (h _ fun _ _ q => q).ex
  rw [e]
  exact q
theorem Nx.go (h : ∀ P : MSt → MH → Prop, (∀ st M, Nx (k st M) R → P st M) → gon (f st0 M0) P) : Nx (tmSeq f k st0 M0) R := by
  obtain ⟨st, M, e, q⟩ := (h _ fun _ _ q => q).ex
  exact Nx.seq st M e q
theorem Nx.goe (h : ∀ P : MSt → MH → Prop, (∀ st M, R st M → P st M) → gon o P) : Nx o R := by
  obtain ⟨st, M, e, q⟩ := (h _ fun _ _ q => q).ex
  rw [e]
  exact .mk q
end
/-! ### loops, with the wish hidden -/
theorem Rs.for_ {g : Tgt} {b k : Tm} {it : Ex (List PyData)} {Q : Sl → MH → Prop} {st : MSt} {M M1 : MH} {ds : List PyData} (Inv : Nat → MSt → MH → Prop) (he : it st M = .ok ds M1) (h0 : Inv 0 st M1)
    (step : ∀ i d st M, ds[i]? = some d → Inv i st M → Nx (ob (g (.v (.dat d)) st) fun st1 => b st1 M) (Inv (i + 1))) (hq : ∀ st M, Inv ds.length st M → Rs (k st M) Q) : Rs (tmSeq (tmFor it g b) k st M) Q := by
  rw [w_seq, w_for, he, ot_ok]
  exact Rs_fo Inv h0 step hq
theorem Rs.forA {g : Tgt} {b k : Tm} {f : Ex Val} {fu : Nat} {Q : Sl → MH → Prop} {st : MSt} {M M1 : MH} {ds : List PyData} {v : Val} (Inv : Nat → MSt → MH → Prop) (hv : v = .dat (.list ds) ∨ v = .dat (.tuple ds)) (he : f st M = .ok v M1) (h0 : Inv 0 st M1)
    (step : ∀ i d st M, ds[i]? = some d → Inv i st M → Nx (ob (g (.v (.dat d)) st) fun st1 => b st1 M) (Inv (i + 1))) (hq : ∀ st M, Inv ds.length st M → Rs (k st M) Q) : Rs (tmSeq (tmForA fu f g b) k st M) Q := by
  rw [w_seq, w_fora, he, ot_ok]
  rcases hv with rfl | rfl
  · exact Rs_fo Inv h0 step hq
  · exact Rs_fo Inv h0 step hq
theorem Nx.for_ {g : Tgt} {b : Tm} {it : Ex (List PyData)} {R : MSt → MH → Prop} {st : MSt} {M M1 : MH} {ds : List PyData} (Inv : Nat → MSt → MH → Prop) (he : it st M = .ok ds M1) (h0 : Inv 0 st M1)
    (step : ∀ i d st M, ds[i]? = some d → Inv i st M → Nx (ob (g (.v (.dat d)) st) fun st1 => b st1 M) (Inv (i + 1))) (hq : ∀ st M, Inv ds.length st M → R st M) : Nx (tmFor it g b st M) R := by
  rw [w_for, he, ot_ok]
  exact Nx_fo Inv h0 step hq
theorem Rs.ford {g : Tgt} {b k : Tm} {it : Ex (List PyData)} {Q : Sl → MH → Prop} {st : MSt} {M M1 : MH} {ds : List PyData} (Inv : Nat → MSt → MH → Prop) (he : it st M = .ok ds M1) (h0 : Inv 0 st M1)
    (step : ∀ i d st M, ds[i]? = some d → Inv i st M → Fw (Inv (i + 1)) Q (ob (g (.v (.dat d)) st) fun st1 => b st1 M)) (hq : ∀ st M, Inv ds.length st M → Rs (k st M) Q) : Rs (tmSeq (tmFor it g b) k st M) Q := by
  rw [w_seq, w_for, he, ot_ok]
  exact Rs_foR Inv h0 step hq
theorem Rs.fordA {g : Tgt} {b k : Tm} {f : Ex Val} {fu : Nat} {Q : Sl → MH → Prop} {st : MSt} {M M1 : MH} {ds : List PyData} {v : Val} (Inv : Nat → MSt → MH → Prop) (hv : v = .dat (.list ds) ∨ v = .dat (.tuple ds)) (he : f st M = .ok v M1) (h0 : Inv 0 st M1)
    (step : ∀ i d st M, ds[i]? = some d → Inv i st M → Fw (Inv (i + 1)) Q (ob (g (.v (.dat d)) st) fun st1 => b st1 M)) (hq : ∀ st M, Inv ds.length st M → Rs (k st M) Q) : Rs (tmSeq (tmForA fu f g b) k st M) Q := by
  rw [w_seq, w_fora, he, ot_ok]
  rcases hv with rfl | rfl
  · exact Rs_foR Inv h0 step hq
  · exact Rs_foR Inv h0 step hq
/-! ### draws -/
def DrawOk (g : List Val → MH → Out Sl) : Prop := ∀ {M : MH}, Bag M → ∀ {below : Int}, 0 < below → below < 1073741824 → Ok (g [.loc 1, .dat (.int below)] M) fun v M' => (∃ r : Nat, v = .v (.dat (.int r)) ∧ (r : Int) < below) ∧ Kp M M' ∧ M'.length = M.length
/-- so many labels below k -/
def Lb (k : Int) (n : Nat) (r : List Int) : Prop := r.length = n ∧ ∀ x ∈ r, 0 ≤ x ∧ x < k
theorem DrawOk.ex {g : List Val → MH → Out Sl} (h : DrawOk g) {M : MH} (b : Bag M) (below : Int) (h0 : 0 < below) (h1 : below < 1073741824) : ∃ (r : Nat) (M' : MH), g [.loc 1, .dat (.int below)] M = .ok (.v (.dat (.int r))) M' ∧ (r : Int) < below ∧ Kp M M' ∧ M'.length = M.length := by
  obtain ⟨v, M', e, ⟨r, rfl, r1⟩, k, l⟩ := (h b h0 h1).ex
  exact ⟨r, M', e, r1, k, l⟩
theorem draws {g : List Val → MH → Out Sl} (hd : DrawOk g) {M : MH} (hb : Bag M) {st : MSt} {t : Tgt} {f : Ex Val} {k : Int} (hk : 0 < k) (hk2 : k < 1073741824) (ht : ∀ d, ∃ st1, t (.v (.dat d)) st = some st1 ∧ ∀ M', f st1 M' = (g [.loc 1, .dat (.int k)] M').bind fun s M'' => .ok (frzS s) M'') {ds : List PyData} (hn : ds.length ≤ 1000) :
    ∃ r M', lcGo st t cYes f [] ds M = .ok (iDs r) M' ∧ Kp M M' ∧ Lb k ds.length r := by
  obtain ⟨out, M', e, ⟨k1, r, rfl, hl, hx⟩, _⟩ := lc_inv (st := st) (g := t) (c := cYes) (f := f) (fun i acc M' => Kp M M' ∧ ∃ r : List Int, acc = iDs r ∧ Lb k i r) (ds := ds) (M := M) ⟨Kp.refl hb, [], rfl, rfl, fun x h => (by cases h)⟩ (by unfold SL; omega) (by
    rintro i d acc M' hd' hacc ⟨k1, r, rfl, rfl, hx⟩
    obtain ⟨w, M3, e3, w1, k4, l4⟩ := hd.ex k1.bag k hk hk2
    obtain ⟨st1, e1, e2⟩ := ht d
    refine ⟨st1, e1, .inr ⟨M', M3, .int w, rfl, ?_, k1.trans k4, r ++ [(w : Int)], by rw [iDs_append]; rfl, by simp, fun x h => ?_⟩⟩
    · rw [e2, e3]
      rfl
    · rcases List.mem_append.mp h with h | h
      · exact hx x h
      · rcases List.mem_singleton.mp h with rfl
        omega)
  exact ⟨r, M', e, k1, hl, hx⟩
end Mn

set_option Elab.async false
set_option linter.all false
set_option maxRecDepth 100000
set_option maxHeartbeats 4000000
namespace Mn
open PySem PySem.Spec PyProof.Rows L2 TL

@[simp] theorem w_chain (g g' : PyData → PyData → Option PyData) (f1 f2 f3 : Ex Val) (st : MSt) (M : MH) : eChain g g' f1 f2 f3 st M = (f1 st M).bind fun a M1 => (f2 st M1).bind fun b M2 =>
  match (deref st M2 a).bind fun da => (deref st M2 b).bind fun db => g da db with
  | some (.bool true) => (f3 st M2).bind fun c M3 => Out.ofOpt ((deref st M3 b).bind fun db => (deref st M3 c).bind fun dc => (g' db dc).map .dat) M3
  | some (.bool false) => .ok (.dat (.bool false)) M2
  | _ => .err := nofl rfl
/-! ### texts of digits -/
def dg (x : Int) : Str := toString x
theorem dg_cps : ∀ x ∈ List.range 10, dg (x : Int) = ⟨#[48 + x]⟩ := by
  intro x hx
  have hx := List.mem_range.mp hx
  refine ext_tl ?_
  show tl (Str.ofString (toString ((x : Nat) : Int))) = _
  rw [tl_num, numL_lt hx]
theorem dg_eq {x : Int} (h0 : 0 ≤ x) (h1 : x < 10) : dg x = ⟨#[48 + x.toNat]⟩ := by
  obtain ⟨n, rfl⟩ : ∃ n : Nat, x = (n : Int) := ⟨x.toNat, by omega⟩
  rw [dg_cps n (List.mem_range.mpr (by omega))]
  simp
theorem tl_dg {x : Int} (h0 : 0 ≤ x) (h1 : x < 10) : tl (dg x) = [48 + x.toNat] := by
  rw [dg_eq h0 h1]
theorem dg_len {x : Int} (h0 : 0 ≤ x) (h1 : x < 10) : (dg x).length = 1 := by
  rw [len_tl, tl_dg h0 h1]
  rfl
theorem gStr_dg {x : Int} (h0 : 0 ≤ x) (h1 : x < 100) : gStr [.int x] = some (.str (dg x)) := by
  show (if x.natAbs.log2 < 1920 then some (PyData.str (dg x)) else none) = _
  rw [if_pos]
  have : x.natAbs < 100 := by omega
  refine Nat.lt_of_le_of_lt (Nat.log2_le_self _) (by omega)
theorem intText_dg {x : Int} (h0 : 0 ≤ x) (h1 : x < 10) : gIntS [.str (dg x)] = some (.int x) := by
  obtain ⟨n, rfl⟩ : ∃ n : Nat, x = (n : Int) := ⟨x.toNat, by omega⟩
  show (if (dg (n : Int)).length ≤ 640 then (PySem.intText? (dg (n : Int))).map PyData.int else none) = _
  rw [if_pos (by rw [dg_len h0 h1]; decide)]
  have : PySem.intText? (dg (n : Int)) = some (n : Int) := int_num (by rw [numL_lt (by omega)]; simp)
  rw [this]
  rfl
/-- a text of single digits -/
def rwS (r : List Int) : Str := Txt.join (Str.ofString "") (r.map dg)
theorem joinL_nil : ∀ ps : List (List Nat), joinL [] ps = ps.flatten
  | [] => rfl
  | [p] => by simp [joinL]
  | p :: q :: r => by
    show p ++ ([] ++ joinL [] (q :: r)) = _
    rw [joinL_nil (q :: r)]
    simp
def Dgs (r : List Int) : Prop := ∀ x ∈ r, 0 ≤ x ∧ x < 10
theorem tl_rwS {r : List Int} (h : Dgs r) : tl (rwS r) = r.map fun x => 48 + x.toNat := by
  unfold rwS
  rw [join_eq, tl_join]
  have e : tl (Str.ofString "") = [] := rfl
  rw [e, joinL_nil, List.map_map]
  induction r with
  | nil => rfl
  | cons x r ih =>
    have hx := h x (by simp)
    rw [List.map_cons, List.flatten_cons, ih fun y hy => h y (by simp [hy]), Function.comp, tl_dg hx.1 hx.2]
    rfl
theorem sgD_rwS {r : List Int} (h : Dgs r) : sgD (rwS r) = r.map fun x => .str (dg x) := by
  unfold sgD
  have e := tl_rwS h
  unfold tl at e
  rw [e, List.map_map]
  refine List.map_congr_left fun x hx => ?_
  rw [Function.comp, dg_eq (h x hx).1 (h x hx).2]
theorem rwS_len {r : List Int} (h : Dgs r) : (rwS r).length = r.length := by
  rw [len_tl, tl_rwS h, List.length_map]
theorem sum_ones {ys : List Str} {m : Nat} (h : ∀ y ∈ ys, y.length ≤ m) : (ys.map (·.length)).sum ≤ ys.length * m := by
  induction ys with
  | nil => simp
  | cons y r ih =>
    have a := h y (by simp)
    have b := ih fun z hz => h z (by simp [hz])
    simp only [List.map_cons, List.sum_cons, List.length_cons, Nat.add_mul, Nat.one_mul]
    omega
theorem gJoin_fit {a : Str} {ys : List Str} {m : Nat} (h : ∀ y ∈ ys, y.length ≤ m) (ha : a.length ≤ 1) (hl : ys.length ≤ 1000) (hm : m ≤ 1000) : gJoin a (.list (ys.map .str)) = some (.str (Txt.join a ys)) := by
  show (strsOf (ys.map .str)).bind (fun ys => if (ys.map (·.length)).sum + ys.length * a.length ≤ SL then some (PyData.str (Txt.join a ys)) else none) = _
  rw [strsOf_map, bind_some_n, if_pos]
  have h1 := sum_ones h
  have h2 : ys.length * m ≤ 1000 * 1000 := Nat.mul_le_mul hl hm
  have h3 : ys.length * a.length ≤ 1000 * 1 := Nat.mul_le_mul hl ha
  show _ ≤ 16777216
  omega
theorem gJoin_rw {r : List Int} (h : Dgs r) (hl : r.length ≤ 1000) : gJoin (Str.ofString "") (.list (r.map fun x => .str (dg x))) = some (.str (rwS r)) := by
  have e : (r.map fun x => PyData.str (dg x)) = (r.map dg).map .str := by rw [List.map_map]; rfl
  rw [e]
  refine gJoin_fit (m := 1) (fun y hy => ?_) (by decide) (by rw [List.length_map]; exact hl) (by decide)
  obtain ⟨x, hx, rfl⟩ := List.mem_map.mp hy
  rw [dg_len (h x hx).1 (h x hx).2]
  exact Nat.le_refl _
/-- the blank -/
abbrev blk : Str := Str.ofString " "
theorem tl_blk : tl blk = [32] := rfl
theorem free_dg {x : Int} (h0 : 0 ≤ x) (h1 : x < 10) : 32 ∉ tl (dg x) := by
  rw [tl_dg h0 h1, List.mem_singleton]
  omega
theorem free_rwS {r : List Int} (h : Dgs r) : 32 ∉ tl (rwS r) := by
  rw [tl_rwS h]
  intro hm
  obtain ⟨x, _, e⟩ := List.mem_map.mp hm
  omega
theorem split_blk {parts : List Str} (hne : parts ≠ []) (hp : ∀ p ∈ parts, 32 ∉ tl p) : Txt.split (Txt.join blk parts) blk = parts := split_join (S := []) tl_blk (by decide +kernel) hne hp
theorem joinL_len {S : List Nat} {m : Nat} : ∀ {ps : List (List Nat)}, (∀ p ∈ ps, p.length ≤ m) → (joinL S ps).length ≤ ps.length * (m + S.length)
  | [], _ => by simp [joinL]
  | [p], h => by
    have := h p (by simp)
    simp only [joinL, List.length_cons, List.length_nil]
    omega
  | p :: q :: r, h => by
    have a := h p (by simp)
    have b := joinL_len (S := S) (ps := q :: r) fun z hz => h z (by simp [hz])
    show (p ++ (S ++ joinL S (q :: r))).length ≤ _
    rw [List.length_append, List.length_append, List.length_cons (as := q :: r), Nat.add_mul, Nat.one_mul]
    omega
theorem join_len {ys : List Str} {m : Nat} (h : ∀ y ∈ ys, y.length ≤ m) : (Txt.join blk ys).length ≤ ys.length * (m + 1) := by
  rw [join_eq, len_tl, tl_join]
  have := joinL_len (S := tl blk) (m := m) (ps := ys.map tl) fun p hp => by
    obtain ⟨y, hy, rfl⟩ := List.mem_map.mp hp
    rw [← len_tl]
    exact h y hy
  rw [List.length_map, tl_blk] at this
  exact this
end Mn

set_option Elab.async false
set_option linter.all false
set_option maxRecDepth 100000
set_option maxHeartbeats 4000000
namespace Gn
open PySem PySem.Spec PyProof.Rows L2 Mn

/-! ### what most laws have alike: the bag, a draw, a pick -/
def tm_bag (c : Int) : Mn.Tm :=
  (tmSeq (tmAs (xLcA FU [2] (eF (xSl (eVar 0) oNone (oSome (eC (.int 63))))) (tgN 2) cYes (eFn gAbs (aCons (eVar 2) aNil))) (tgN 1))
  (tmSeq (tmAs (xOp2 dAdd (eC (.int c)) (eFn gLen (aCons (eVar 1) aNil))) (tgN 3))
  (tmSeq (tmFrz 1 (tmForA FU (eVar 1) (tgN 2) (tmAs (xV (eOp2 dMod (eFn gInt (aCons (eF (xOp2 dAdd (eF (xOp2 dAdd (eF (xOp2 dMul (eVar 3) (eC (.int 48271)))) (eOp2 dMod (eFn gInt (aCons (eVar 2) aNil)) (eC (.int 2147483629))))) (eC (.int 7)))) aNil)) (eC (.int 2147483647)))) (tgN 3))))
  (tmRt (xV (eLstL (aCons (eLoc (xFn gRevL0 (aCons (eVar 1) aNil))) (aCons (eC (.int 0)) (aCons (eVar 3) aNil)))))))))
def fn_bag (c : Int) : List Val → MH → Out Sl := fnM 1 4 (tm_bag c)
theorem go_bag {c : Int} {a0 : Val} {M : MH} {Q : Sl → MH → Prop} (h : Rs (tm_bag c [some (.v a0), none, none, none] M) Q) : Ok (fn_bag c [a0] M) Q := Ok_fn (np := 1) (ns := 4) (f := tm_bag c) (vs := [a0]) rfl h
def tm_draw : Mn.Tm :=
  (tmSeq (whGo (bAnd (toB (eOp2 dEq (eIx (eVar 0) (eC (.int 1))) (eC (.int 0)))) (toB (eOp2 dNe (eIx (eVar 0) (eC (.int 0))) (eF (xLst aNil))))) (tmSeq (tmAs (xV (eLPop (eIx (eVar 0) (eC (.int 0))))) (tgN 2))
  (tmLSet (eIf (toB (eOp2 dGt (eVar 2) (eOp2 dPow (eC (.int 10)) (eC (.int 9))))) (eVar 2) (eC (.int 0))) (eVar 0) (eC (.int 1)))) FU)
  (tmSeq (tmIf (toB (eOp2 dGt (eIx (eVar 0) (eC (.int 1))) (eC (.int 0)))) (tmSeq (tmAs (xV (eOp2 dMod (eFn gInt (aCons (eIx (eVar 0) (eC (.int 1))) aNil)) (eVar 1))) (tgN 3))
  (tmSeq (tmLSet (eOp2 dDiv (eIx (eVar 0) (eC (.int 1))) (eVar 1)) (eVar 0) (eC (.int 1)))
  (tmRv 3))) tmNil)
  (tmSeq (tmLSet (eOp2 dMod (eFn gInt (aCons (eF (xOp2 dAdd (eF (xOp2 dMul (eIx (eVar 0) (eC (.int 2))) (eC (.int 48271)))) (eC (.int 11)))) aNil)) (eC (.int 2147483647))) (eVar 0) (eC (.int 2)))
  (tmRt (xV (eOp2 dMod (eFn gInt (aCons (eOp2 dDiv (eOp2 dMod (eFn gInt (aCons (eF (xOp2 dMul (eIx (eVar 0) (eC (.int 2))) (eIx (eVar 0) (eC (.int 2))))) aNil)) (eC (.int 2147483629))) (eC (.int 7))) aNil)) (eVar 1)))))))
def fn_draw : List Val → MH → Out Sl := fnM 2 4 tm_draw
theorem go_draw {a0 a1 : Val} {M : MH} {Q : Sl → MH → Prop} (h : Rs (tm_draw [some (.v a0), some (.v a1), none, none] M) Q) : Ok (fn_draw [a0, a1] M) Q := Ok_fn (np := 2) (ns := 4) (f := tm_draw) (vs := [a0, a1]) rfl h
def tm_pick : Mn.Tm :=
  (tmRt (xV (eIx (eVar 1) (eF (xCall fn_draw (aCons (eVar 0) (aCons (eFn gLen (aCons (eVar 1) aNil)) aNil)))))))
def fn_pick : List Val → MH → Out Sl := fnM 2 2 tm_pick
theorem go_pick {a0 a1 : Val} {M : MH} {Q : Sl → MH → Prop} (h : Rs (tm_pick [some (.v a0), some (.v a1)] M) Q) : Ok (fn_pick [a0, a1] M) Q := Ok_fn (np := 2) (ns := 2) (f := tm_pick) (vs := [a0, a1]) rfl h
theorem law_draw_ok {M : MH} (hb : Bag M) {below : Int} (h0 : 0 < below) (h1 : below < 1073741824) : Ok (fn_draw [.loc 1, .dat (.int below)] M) fun v M' => (∃ r : Int, v = .v (.dat (.int r)) ∧ 0 ≤ r ∧ r < below) ∧ Kp M M' ∧ M'.length = M.length := by
  apply go_draw
  unfold tm_draw
  simp only [w_seq]
  obtain ⟨cs0, x0, y0, b0⟩ := id hb
  refine Rs_wh (fun m st M1 => (∃ t, st = [some (.v (.loc 1)), some (.v (.dat (.int below))), t, none]) ∧ Kp M M1 ∧ M1.length = M.length ∧ ∃ cs x y, BagC M1 cs x y ∧ m = cs.length) (m := cs0.length) (FU_lt (by have := b0.len; omega)) ⟨⟨none, rfl⟩, Kp.refl hb, rfl, cs0, x0, y0, b0, rfl⟩ ?_ ?_
  · rintro m st M1 ⟨⟨t, rfl⟩, hk, hl, cs, x, y, b, rfl⟩
    have e1 := lstAt_eq b.b
    have e0 := lstAt_eq b.c
    by_cases hx : x = 0
    · by_cases hc : cs = []
      · left
        subst hx hc
        exact ⟨M1, by simp [ixVal_loc, e1, deref_loc, e0, datAll_dat], ⟨t, rfl⟩, hk, hl, _, _, _, b, rfl⟩
      · right
        subst hx
        have hpos := List.length_pos_iff.mpr hc
        obtain ⟨c, hcl⟩ : ∃ c, cs[cs.length - 1]? = some c := ⟨cs[cs.length - 1]'(by omega), List.getElem?_eq_getElem _⟩
        have hcm : 0 ≤ c := b.cs0 c (List.mem_of_getElem? hcl)
        have hlast : (iDs cs)[cs.length - 1]? = some (.int c) := by
          rw [iDs, List.getElem?_map, hcl]
          rfl
        have hne : (iDs cs).isEmpty = false := by
          rw [iDs_isEmpty]
          cases cs with
          | nil => exact absurd rfl hc
          | cons _ _ => rfl
        have hdr : ((iDs cs).map Val.dat).dropLast = (iDs cs.dropLast).map Val.dat := by rw [← iDs_dropLast, List.map_dropLast]
        have hcs : ∀ d ∈ cs.dropLast, 0 ≤ d := fun d hd => b.cs0 d (List.dropLast_subset _ hd)
        have hlen : cs.dropLast.length ≤ 1000 := by have := b.len; simp; omega
        have b2 := b.set0 hcs hlen
        have k2 := hk.set0 b hcs hlen
        have e2 := lstAt_eq b2.b
        refine ⟨M1, by simp [ixVal_loc, e1, deref_loc, e0, datAll_dat, hne], ?_⟩
        by_cases hbig : 1000000000 < c
        · simp [ixVal_loc, e1, e0, hlast, hdr, hbig, e2]
          exact ⟨cs.dropLast.length, by simp; omega, k2.set1 b2 hcm, hl, _, ⟨_, _, b2.set1 hcm⟩, rfl⟩
        · simp [ixVal_loc, e1, e0, hlast, hdr, hbig, e2]
          exact ⟨cs.dropLast.length, by simp; omega, k2.set1 b2 (by omega), hl, _, ⟨_, _, b2.set1 (by omega)⟩, rfl⟩
    · left
      exact ⟨M1, by simp [ixVal_loc, e1, hx], ⟨t, rfl⟩, hk, hl, _, _, _, b, rfl⟩
  · rintro m st M1 ⟨⟨t, rfl⟩, hk, hl, cs, x, y, b, rfl⟩
    have e1 := lstAt_eq b.b
    have hx := b.x0
    by_cases hpos : 0 < x
    · have h2 : 0 ≤ x / below := Int.ediv_nonneg hx (by omega)
      simp [ixVal_loc, e1, hpos, h0, h1]
      exact ⟨⟨Int.emod_nonneg _ (by omega), Int.emod_lt_of_pos _ h0⟩, hk.set1 b h2, hl⟩
    · have b2 := b.set1 (x' := x) (y' := (y * 48271 + 11) % 2147483647) hx
      have e2 := lstAt_eq b2.b
      have hy1 : 0 ≤ (y * 48271 + 11) % 2147483647 := Int.emod_nonneg _ (by decide)
      have hy2 : (y * 48271 + 11) % 2147483647 < 2147483647 := Int.emod_lt_of_pos _ (by decide)
      have hy3 : -18446744073709551616 < (y * 48271 + 11) % 2147483647 := by omega
      have hy4 : (y * 48271 + 11) % 2147483647 < 18446744073709551616 := by omega
      simp [ixVal_loc, e1, hpos, h0, e2, hy3, hy4]
      exact ⟨⟨Int.emod_nonneg _ (by omega), Int.emod_lt_of_pos _ h0⟩, hk.set1 b hx, hl⟩

theorem law_own_bag_ok (c : Int) {ns : List Int} (h : ns.length ≤ 63) : Ok (fn_bag c [.ro (ns.map .int)] []) fun v M' => v = .v (.loc 1) ∧ Bag M' := by
  apply go_bag
  unfold tm_bag
  simp [iDs_take]
  rw [lc_ints (fun _ => true) (fun i => .int (if i < 0 then -i else i))]
  rotate_left
  · intro d hd
    simp
  · simp
    omega
  rw [List.filter_eq_self.mpr fun _ _ => rfl, iDs_mapF]
  obtain ⟨cs, hcs, h0, hl⟩ : ∃ cs, cs = (ns.take 63).map (fun i => if i < 0 then -i else i) ∧ (∀ c ∈ cs, 0 ≤ c) ∧ cs.length ≤ 1000 := by
    refine ⟨_, rfl, fun c hc => ?_, ?_⟩
    · obtain ⟨i, _, rfl⟩ := List.mem_map.mp hc
      split <;> omega
    · simp
      omega
  rw [← hcs]
  simp
  refine Rs_fo (fun i st M' => (∃ t m, st = [some (.v (.ro (iDs ns))), some (.v (.dat (.list (iDs cs)))), t, some (.v (.dat (.int m)))]) ∧ M' = []) ⟨⟨_, _, rfl⟩, rfl⟩ ?_ ?_
  · rintro i d st M1 hd ⟨⟨t, m, rfl⟩, rfl⟩
    obtain ⟨c, hc, rfl⟩ := iDs_mem (List.mem_of_getElem? hd)
    simp
  · rintro st M1 ⟨⟨t, m, rfl⟩, rfl⟩
    simp [iDs_rev]
    refine ⟨cs.reverse, 0, m, rfl, rfl, Int.le_refl _, fun c hc => h0 c (List.mem_reverse.mp hc), by simpa using hl⟩
theorem law_pick_ok {M : MH} (hb : Bag M) {ds : List PyData} (h : ds ≠ []) (hl : ds.length < 1073741824) : Ok (fn_pick [.loc 1, .dat (.list ds)] M) fun v M' => (∃ d ∈ ds, v = .v (.dat d)) ∧ Kp M M' ∧ M'.length = M.length := by
  apply go_pick
  unfold tm_pick
  have hp := List.length_pos_iff.mpr h
  obtain ⟨v, M1, e, ⟨r, rfl, r0, r1⟩, k, hl1⟩ := (law_draw_ok hb (below := (ds.length : Int)) (by omega) (by omega)).ex
  have hr : r.toNat < ds.length := by omega
  simp [e, atI_pos ds r0, List.getElem?_eq_getElem hr]
  exact ⟨k, hl1⟩
theorem law_pickT_ok {M : MH} (hb : Bag M) {ds : List PyData} (h : ds ≠ []) (hl : ds.length < 1073741824) : Ok (fn_pick [.loc 1, .dat (.tuple ds)] M) fun v M' => (∃ d ∈ ds, v = .v (.dat d)) ∧ Kp M M' ∧ M'.length = M.length := by
  apply go_pick
  unfold tm_pick
  have hp := List.length_pos_iff.mpr h
  obtain ⟨v, M1, e, ⟨r, rfl, r0, r1⟩, k, hl1⟩ := (law_draw_ok hb (below := (ds.length : Int)) (by omega) (by omega)).ex
  have hr : r.toNat < ds.length := by omega
  simp [e, atI_pos ds r0, List.getElem?_eq_getElem hr]
  exact ⟨k, hl1⟩

theorem draw_ok : DrawOk fn_draw := fun b below h0 h1 => (law_draw_ok b h0 h1).mp fun v M' ⟨⟨r, e, r0, r1⟩, k, l⟩ => ⟨⟨r.toNat, by rw [e, Int.toNat_of_nonneg r0], by omega⟩, k, l⟩
end Gn

set_option Elab.async false
set_option linter.all false
set_option maxRecDepth 100000
set_option maxHeartbeats 4000000
namespace Mn
open PySem PySem.Spec PyProof.Rows L2

/-! ### rows in the making -/
/-- rows, at most L, of n labels below k -/
structure Rr (k n L : Nat) (rows : List (List Int)) : Prop where
  len : rows.length ≤ L
  row : ∀ r ∈ rows, Lb k n r
theorem Lb.mono {k l n : Nat} {r : List Int} (h : Lb k n r) (hl : k ≤ l) : Lb l n r := ⟨h.1, fun x hx => by have := h.2 x hx; omega⟩
theorem Rr.mono {k l n L K : Nat} {rows : List (List Int)} (h : Rr k n L rows) (hk : k ≤ l) (hl : L ≤ K) : Rr l n K rows := ⟨Nat.le_trans h.len hl, fun r hr => (h.row r hr).mono hk⟩
theorem Rr.snoc {k n L : Nat} {rows : List (List Int)} (h : Rr k n L rows) {r : List Int} (hr : Lb k n r) : Rr k n (L + 1) (rows ++ [r]) :=
  ⟨by have := h.len; simp; omega, fun q hq => by
    rcases List.mem_append.mp hq with hq | hq
    · exact h.row q hq
    · rcases List.mem_singleton.mp hq with rfl
      exact hr⟩
theorem Rr.app {k n L K : Nat} {rows qs : List (List Int)} (h : Rr k n L rows) (h2 : Rr k n K qs) : Rr k n (L + K) (rows ++ qs) :=
  ⟨by have := h.len; have := h2.len; simp; omega, fun q hq => by
    rcases List.mem_append.mp hq with hq | hq
    · exact h.row q hq
    · exact h2.row q hq⟩
theorem Rr.sub {k n L : Nat} {rows qs : List (List Int)} (h : Rr k n L rows) (hs : qs.Sublist rows) : Rr k n L qs := ⟨Nat.le_trans hs.length_le h.len, fun r hr => h.row r (hs.subset hr)⟩
theorem rows_shaped {rows : List (List Int)} : SeqAt.shaped (.list (rows.map rwD)) = true := by
  refine Sh.shaped (n := 2) (Sh.list fun d hd => ?_) (by decide)
  obtain ⟨r, _, rfl⟩ := List.mem_map.mp hd
  exact Sh.tuple (Sh.ints r)
theorem rowsT_shaped {rows : List (List Int)} : SeqAt.shaped (.tuple (rows.map rwD)) = true := by
  refine Sh.shaped (n := 2) (Sh.tuple fun d hd => ?_) (by decide)
  obtain ⟨r, _, rfl⟩ := List.mem_map.mp hd
  exact Sh.tuple (Sh.ints r)
theorem rows_any (rows : List (List Int)) (q : List Int) : ((rows.map rwD).any fun z => PyData.eqv z (rwD q)) = decide (q ∈ rows) := by
  rw [Bool.eq_iff_iff, List.any_eq_true, decide_eq_true_eq]
  constructor
  · rintro ⟨z, hz, h⟩
    obtain ⟨r, hr, rfl⟩ := List.mem_map.mp hz
    rw [eqv_rw, beq_iff_eq] at h
    exact h ▸ hr
  · exact fun h => ⟨rwD q, List.mem_map.mpr ⟨q, h, rfl⟩, by rw [eqv_rw]; exact beq_self_eq_true _⟩
/-- each row with something behind -/
theorem lc_behind {st : MSt} {g : Tgt} {f : Ex Val} {M : MH} {b : List Int} {rows : List (List Int)} (h : ∀ r ∈ rows, ∃ st1, g (.v (.dat (rwD r))) st = some st1 ∧ (dAdd (rwD r) (.tuple (iDs b)) = some (.v (.dat (rwD (r ++ b)))) → f st1 M = .ok (.dat (rwD (r ++ b))) M))
    (hl : rows.length ≤ 1000000) (hr : ∀ r ∈ rows, r.length + b.length ≤ 1000000) : lcGo st g cYes f [] (rows.map rwD) M = .ok ((rows.map (· ++ b)).map rwD) M := by
  rw [lc_mapE (e := rwD) (p := fun _ => true) (F := fun r => rwD (r ++ b))]
  · simp [Function.comp_def]
  · intro r hr1
    obtain ⟨st1, e1, e2⟩ := h r hr1
    refine ⟨st1, e1, rfl, fun _ => ?_⟩
    exact e2 (by rw [rw_app, if_pos (by have := hr r hr1; show r.length + b.length ≤ 16777216; omega)])
  · show 0 + rows.length ≤ 16777216
    omega
/-- a row's labels, point by point -/
theorem row_comp {st : MSt} {M : MH} {n k : Nat} {g : Tgt} {f : Ex Val} (F : Nat → Int) (hn : n ≤ 1000) (hF : ∀ x, x < n → 0 ≤ F x ∧ F x < k) (hf : ∀ x, x < n → ∃ st1, g (.v (.dat (.int (x : Int)))) st = some st1 ∧ f st1 M = .ok (.dat (.int (F x))) M) :
    ∃ r, lcGo st g cYes f [] (rgD 0 (n : Int)) M = .ok (iDs r) M ∧ Lb k n r := by
  refine ⟨(List.range n).map F, ?_, by simp, fun y hy => ?_⟩
  · rw [lc_rng n (fun _ => true) (fun x => .int (F x)) (fun x hx => ?_) (by unfold SL; omega), filter_tt, iDs_mapF]
    obtain ⟨st1, e1, e2⟩ := hf x hx
    exact ⟨st1, e1, rfl, fun _ => e2⟩
  · obtain ⟨x, hx, rfl⟩ := List.mem_map.mp hy
    exact hF x (List.mem_range.mp hx)
/-- a walk over a shared list, which may change the other shared objects -/
theorem Nx_foLM {g : Tgt} {b : Tm} {n : Nat} {ds : List PyData} {Q : MSt → MH → Prop} (Inv : Nat → MSt → MH → Prop) (hn : ∀ i st M, Inv i st M → lstAt M n = some (ds.map .dat))
    (step : ∀ i d st M, ds[i]? = some d → Inv i st M → Nx (ob (g (.v (.dat d)) st) fun st1 => b st1 M) (Inv (i + 1))) (hq : ∀ st M, Inv ds.length st M → Q st M) :
    ∀ (k i : Nat) (st : MSt) (M : MH), i ≤ ds.length → ds.length < k + i → Inv i st M → Nx (foL n g b k i st M) Q
  | 0, i, _, _, hi, hk, _ => by omega
  | k + 1, i, st, M, hi, hk, h => by
    rw [foL]
    dsimp only
    rw [hn i st M h]
    simp only [List.getElem?_map]
    by_cases hd : i < ds.length
    · rw [List.getElem?_eq_getElem hd]
      simp only [Option.map_some, ns_dat, if_true]
      obtain ⟨st2, M2, e2, h2⟩ := (step i ds[i] st M (List.getElem?_eq_getElem hd) h).ex
      obtain ⟨st1, e1, e2⟩ := Option.bind_eq_some_iff.mp e2
      rw [e1]
      simp only
      rw [e2]
      exact Nx_foLM Inv hn step hq k (i + 1) st2 M2 hd (by omega) h2
    · rw [List.getElem?_eq_none (by omega)]
      have : i = ds.length := by omega
      subst this
      exact .mk (hq st M h)
theorem Nx.forL {g : Tgt} {b : Tm} {f : Ex Val} {fu n : Nat} {ds : List PyData} {st : MSt} {M M1 : MH} {Q : MSt → MH → Prop} (Inv : Nat → MSt → MH → Prop) (he : f st M = .ok (.loc n) M1) (hfu : ds.length < fu) (h0 : Inv 0 st M1) (hn : ∀ i st M, Inv i st M → lstAt M n = some (ds.map .dat))
    (step : ∀ i d st M, ds[i]? = some d → Inv i st M → Nx (ob (g (.v (.dat d)) st) fun st1 => b st1 M) (Inv (i + 1))) (hq : ∀ st M, Inv ds.length st M → Q st M) : Nx (tmForA fu f g b st M) Q := by
  rw [w_fora, he, ot_ok]
  show Nx (if (lstAt M1 n).isSome = true then foL n g b fu 0 st M1 else none) Q
  rw [hn 0 st M1 h0, Option.isSome_some, if_pos rfl]
  exact Nx_foLM Inv hn step hq fu 0 st M1 (Nat.zero_le _) (by omega) h0
/-- two shared lists -/
theorem Lc.keep {M M' : MH} {j i : Nat} {ds es : List PyData} (h : Lc M M' j ds) (b : Bag M) (hi : Lc M M' i es) (hne : j ≠ i) (fs : List PyData) : Lc M (M'.set i (.lst (fs.map .dat))) j ds :=
  ⟨lstAt_eq (by rw [List.getElem?_set_ne (by omega)]; exact lstAt_inv h.at_), h.ge, (hi.set b fs).kp⟩
theorem Lc.app {M M' : MH} {j : Nat} {ds : List PyData} (h : Lc M M' j ds) (o : Ob) : Lc M (M' ++ [o]) j ds :=
  ⟨lstAt_eq (by rw [List.getElem?_append_left h.lt]; exact lstAt_inv h.at_), h.ge, h.kp.newO o⟩
theorem insert_map {α β : Type} (f : α → β) (l : List α) (i : Nat) (x : α) : (l.map f).take i ++ [f x] ++ (l.map f).drop i = (l.take i ++ [x] ++ l.drop i).map f := by
  simp [List.map_take, List.map_drop]
@[simp] theorem w_izpm (v : MSt → MH → Val → Option PyData) (f1 f2 : Ex Val) (st : MSt) (M : MH) : iZpM v f1 f2 st M = (f1 st M).bind fun x M1 => (f2 st M1).bind fun y M2 => Out.ofOpt ((v st M2 x).bind fun a => (v st M2 y).bind fun b => zipM a b) M2 := nofl rfl
@[simp] theorem zipM_ll' (x y : List PyData) : zipM (.list x) (.list y) = some (zpD x y) := nofl rfl
@[simp] theorem zipM_lt' (x y : List PyData) : zipM (.list x) (.tuple y) = some (zpD x y) := nofl rfl
@[simp] theorem zipM_tl' (x y : List PyData) : zipM (.tuple x) (.list y) = some (zpD x y) := nofl rfl
@[simp] theorem zipM_tt' (x y : List PyData) : zipM (.tuple x) (.tuple y) = some (zpD x y) := nofl rfl
/-! ### names that are frozen -/
theorem frz_v {i : Nat} {f : Tm} {st : MSt} {x : Val} (M : MH) (h : st[i]? = some (some (.v x))) : tmFrz i f st M = f st M := by
  rw [w_frz, h]
theorem frz_o {i : Nat} {f : Tm} {st : MSt} {ds : List PyData} (M : MH) (h : st[i]? = some (some (.own ds))) : tmFrz i f st M = f (st.set i (some (.v (.dat (.list ds))))) M := by
  rw [w_frz, h]
theorem Rs.frzv {i : Nat} {f k : Tm} {st : MSt} {M : MH} {x : Val} {Q : Sl → MH → Prop} (q : Rs (tmSeq f k st M) Q) (h : st[i]? = some (some (.v x)) := by rfl) : Rs (tmSeq (tmFrz i f) k st M) Q := by
  rw [w_seq, frz_v M h]
  rw [w_seq] at q
  exact q
theorem Nx.frzv {i : Nat} {f : Tm} {st : MSt} {M : MH} {x : Val} {Q : MSt → MH → Prop} (q : Nx (f st M) Q) (h : st[i]? = some (some (.v x)) := by rfl) : Nx (tmFrz i f st M) Q := by
  rw [frz_v M h]
  exact q
theorem Rs.frze {i : Nat} {f : Tm} {st : MSt} {M : MH} {x : Val} {Q : Sl → MH → Prop} (q : Rs (f st M) Q) (h : st[i]? = some (some (.v x)) := by rfl) : Rs (tmFrz i f st M) Q := by
  rw [frz_v M h]
  exact q
theorem nat_of {a : Int} (h : 0 ≤ a) : ∃ n : Nat, a = (n : Int) := ⟨a.toNat, by omega⟩
theorem smD_take (s : List (Nat × Int)) (m : Nat) : (smD s).take m = smD (s.take m) := by rw [smD, smD, List.map_take]
theorem smD_rev (s : List (Nat × Int)) : (smD s).reverse = smD s.reverse := by rw [smD, smD, List.map_reverse]
/-! ### what is shown of shelves and samples -/
theorem Sf.row {r : List Int} {n : Nat} (hl : r.length = n) (hn : n ≤ 6) (h : ∀ x ∈ r, 0 ≤ x ∧ x < 100) : Sf 1 27 (rwD r) := by
  refine (Sf.tup (n := 0) (L := 2) (K := 6) (fun d hd => ?_) (by rw [iDs_length]; omega)).mono (by decide) (by decide)
  obtain ⟨x, hx, rfl⟩ := iDs_mem hd
  exact Sf.int (h x hx).1 (h x hx).2
theorem Sf.shelf {k n : Nat} {rows : List (List Int)} (hs : Shf k n rows) : Sf 3 1869 (shD k rows) := by
  have hk := hs.k2
  have h2 : Sf 2 931 (.tuple (rows.map rwD)) := by
    refine (Sf.tup (n := 1) (L := 27) (K := 32) (fun d hd => ?_) (by rw [List.length_map]; exact hs.len)).mono (by decide) (by decide)
    obtain ⟨r, hr, rfl⟩ := List.mem_map.mp hd
    exact Sf.row (hs.row r hr).1 hs.n6 fun x hx => by have := (hs.row r hr).2 x hx; omega
  refine (Sf.tup (n := 2) (L := 931) (K := 2) (fun d hd => ?_) (by simp)).mono (by decide) (by decide)
  simp only [List.mem_cons, List.not_mem_nil, or_false] at hd
  rcases hd with rfl | rfl
  · exact (Sf.int (by omega) (by omega) (n := 0)).mono (by decide) (by decide)
  · exact h2
theorem Sf.sample {k n : Nat} {s : List (Nat × Int)} (h : Smp k n s) (hk : k ≤ 100) (hn : n ≤ 100) (hl : s.length ≤ 60) : Sf 2 783 (.tuple (smD s)) := by
  refine (Sf.tup (n := 1) (L := 11) (K := 60) (fun d hd => ?_) (by rw [smD_length]; exact hl)).mono (by decide) (by decide)
  obtain ⟨q, hq, rfl⟩ := List.mem_map.mp hd
  have := h q hq
  refine (Sf.tup (n := 0) (L := 2) (K := 2) (fun d hd => ?_) (by simp)).mono (by decide) (by decide)
  simp only [List.mem_cons, List.not_mem_nil, or_false] at hd
  rcases hd with rfl | rfl
  · exact Sf.int (by omega) (by omega)
  · exact Sf.int (by omega) (by omega)
theorem slf_shelf_sample {k n : Nat} {rows : List (List Int)} {s : List (Nat × Int)} (hs : Shf k n rows) (h : Smp k n s) (hl : s.length ≤ 60) : Slf (.list [shD k rows, .tuple (smD s)]) := by
  have hk := hs.k2
  have hn := hs.n6
  refine Sf.slfS (n := 4) (L := 3745) ((Sf.lst (n := 3) (L := 1869) (K := 2) (fun d hd => ?_) (by simp)).mono (by decide) (by decide)) rfl (by decide) (by decide)
  simp only [List.mem_cons, List.not_mem_nil, or_false] at hd
  rcases hd with rfl | rfl
  · exact Sf.shelf hs
  · exact (Sf.sample h (by omega) (by omega) hl).mono (by decide) (by decide)
@[simp] theorem itemsS_pair (a b : PyData) : itemsS (.v (.dat (Mn.pairD a b))) = some [a, b] := nofl rfl
theorem extr_T {f : List Int → Int} {ns : List Int} (h : ns ≠ []) : gExtr f [.tuple (iDs ns)] = some (.int (f ns)) := by
  show (intsOf (iDs ns)).bind (fun ns => if ns ≠ [] then some (PyData.int (f ns)) else none) = _
  rw [intsOf_ints, bind_some_n, if_pos h]
theorem extr_L {f : List Int → Int} {ns : List Int} (h : ns ≠ []) : gExtr f [.list (iDs ns)] = some (.int (f ns)) := by
  show (intsOf (iDs ns)).bind (fun ns => if ns ≠ [] then some (PyData.int (f ns)) else none) = _
  rw [intsOf_ints, bind_some_n, if_pos h]
/-- a walk over ints and rows side by side -/
theorem zp_ints_rows (q : List Int) (rows : List (List Int)) : zpD (iDs q) (rows.map rwD) = (List.zip q rows).map fun p => pairD (.int p.1) (rwD p.2) := by
  rw [zpD, iDs, List.zipWith_map, List.zip, List.map_zipWith]
theorem zp_rows_ints (q : List Int) (rows : List (List Int)) : zpD (rows.map rwD) (iDs q) = (List.zip rows q).map fun p => pairD (rwD p.1) (.int p.2) := by
  rw [zpD, iDs, List.zipWith_map, List.zip, List.map_zipWith]
end Mn

set_option Elab.async false
set_option linter.all false
set_option maxRecDepth 100000
set_option maxHeartbeats 4000000
namespace Mn
open PySem PySem.Spec PyProof.Rows L2 TL

/-! ### rows ascending -/
def Ltx (r q : List Int) : Prop := ∃ (i : Nat) (a b : Int), r[i]? = some a ∧ q[i]? = some b ∧ a < b ∧ ∀ j, j < i → r[j]? = q[j]?
theorem lexAt_no {e rr : Nat → Bool} {z : Bool} {i m : Nat} (hi : i < m) (he : ∀ j, j < i → e j = true) (h1 : e i = false) (h2 : rr i = false) : ∀ d j, j + d = i → Ob.lexAt e rr z j (m - j) = false
  | 0, j, h => by
    have : j = i := by omega
    subst this
    rw [show m - j = (m - j - 1) + 1 by omega, Ob.lexAt_succ, h1, if_neg Bool.false_ne_true, h2]
  | d + 1, j, h => by
    rw [show m - j = (m - (j + 1)) + 1 by omega, Ob.lexAt_succ, he j (by omega), if_pos rfl]
    exact lexAt_no hi he h1 h2 d (j + 1) (by omega)
theorem leX_no {r q : List Int} (h : Ltx r q) : leX q r = false := by
  obtain ⟨i, a, b, h1, h2, hab, hp⟩ := h
  have l1 := (List.getElem?_eq_some_iff.mp h1).1
  have l2 := (List.getElem?_eq_some_iff.mp h2).1
  have g1 : r.getD i 0 = a := by rw [List.getD_eq_getElem?_getD, h1]; rfl
  have g2 : q.getD i 0 = b := by rw [List.getD_eq_getElem?_getD, h2]; rfl
  unfold leX
  have := lexAt_no (e := fun j => decide (q.getD j 0 = r.getD j 0)) (rr := fun j => decide (q.getD j 0 ≤ r.getD j 0)) (z := decide (q.length ≤ r.length)) (i := i) (m := min q.length r.length) (by omega) (fun j hj => by
    rw [decide_eq_true_eq, List.getD_eq_getElem?_getD, List.getD_eq_getElem?_getD, hp j hj]) (by rw [decide_eq_false_iff_not, g1, g2]; omega) (by rw [decide_eq_false_iff_not, g1, g2]; omega) i 0 (by omega)
  simpa using this
theorem Ltx.ne {r q : List Int} (h : Ltx r q) : r ≠ q := by
  rintro rfl
  obtain ⟨i, a, b, h1, h2, hab, _⟩ := h
  rw [h1] at h2
  cases h2
  omega
theorem rowI_succ (k : Int) (n : Nat) (c : Int) : rowI k (n + 1) c = rowI k n (c / k) ++ [c % k] := by
  rw [rowI, lowD, List.reverse_cons]
  rfl
theorem rowI_lt {k : Int} (hk : 0 < k) : ∀ (n : Nat) {c d : Int}, 0 ≤ c → c < d → d < k ^ n → Ltx (rowI k n c) (rowI k n d)
  | 0, c, d, h0, h1, h2 => by simp at h2; omega
  | n + 1, c, d, h0, h1, h2 => by
    rw [rowI_succ, rowI_succ]
    rw [Int.pow_succ] at h2
    have hc := Int.emod_add_mul_ediv c k
    have hd := Int.emod_add_mul_ediv d k
    have c0 := Int.ediv_nonneg h0 (show 0 ≤ k by omega)
    have dq := Int.ediv_lt_of_lt_mul hk h2
    have hle : c / k ≤ d / k := Int.ediv_le_ediv hk (by omega)
    by_cases he : c / k = d / k
    · rw [he] at hc ⊢
      refine ⟨n, c % k, d % k, ?_, ?_, by omega, fun j hj => ?_⟩
      · rw [List.getElem?_append_right (by simp)]
        simp
      · rw [List.getElem?_append_right (by simp)]
        simp
      · rw [List.getElem?_append_left (by simpa using hj), List.getElem?_append_left (by simpa using hj)]
    · obtain ⟨i, a, b, e1, e2, hab, hp⟩ := rowI_lt hk n c0 (show c / k < d / k by omega) dq
      have l1 := (List.getElem?_eq_some_iff.mp e1).1
      have l2 := (List.getElem?_eq_some_iff.mp e2).1
      refine ⟨i, a, b, ?_, ?_, hab, fun j hj => ?_⟩
      · rw [List.getElem?_append_left l1, e1]
      · rw [List.getElem?_append_left l2, e2]
      · rw [List.getElem?_append_left (by omega), List.getElem?_append_left (by omega), hp j hj]
structure Asc (k : Int) (n : Nat) (rows : List (List Int)) : Prop where
  shf : Shf k n rows
  up : rows.Pairwise Ltx
theorem Cds.asc {k : Int} {n : Nat} {cs : List Int} (h : Cds k n cs) (k2 : k = 2 ∨ k = 3) (n1 : 1 ≤ n) (n6 : n ≤ 6) (ne : cs ≠ []) (len : cs.length ≤ 32) : Asc k n ((sortI cs).map (rowI k n)) := by
  refine ⟨h.shf k2 n1 n6 ne len, ?_⟩
  rw [List.pairwise_map]
  have hs := (List.nodup_iff_pairwise_ne.mp (sortI_nodup h.nd)).and (sortI_sorted cs)
  refine hs.imp_of_mem fun {a b} ha hb hab => ?_
  have ra := h.rng a (sortI_mem.mp ha)
  have rb := h.rng b (sortI_mem.mp hb)
  exact rowI_lt (by omega) n ra.1 (by have := hab.1; have := hab.2; omega) rb.2
theorem Asc.sub {k : Int} {n : Nat} {rows qs : List (List Int)} (h : Asc k n rows) (hs : qs.Sublist rows) (hne : qs ≠ []) : Asc k n qs :=
  ⟨⟨h.shf.k2, h.shf.n1, h.shf.n6, hne, Nat.le_trans hs.length_le h.shf.len, fun r hr => h.shf.row r (hs.subset hr), h.shf.nd.sublist hs⟩, h.up.sublist hs⟩
theorem Asc.three {n : Nat} {rows : List (List Int)} (h : Asc 2 n rows) : Asc 3 n rows :=
  ⟨⟨.inr rfl, h.shf.n1, h.shf.n6, h.shf.ne, h.shf.len, fun r hr => ⟨(h.shf.row r hr).1, fun x hx => by have := (h.shf.row r hr).2 x hx; omega⟩, h.shf.nd⟩, h.up⟩
/-! ### equal data -/
theorem eqvAll_map {α : Type} {f : α → PyData} (hf : ∀ x y, PyData.eqv (f x) (f y) = true ↔ x = y) : ∀ l m : List α, PyData.eqvAll (l.map f) (m.map f) = true ↔ l = m
  | [], [] => by simp [PyData.eqvAll]
  | [], _ :: _ => by simp [PyData.eqvAll]
  | _ :: _, [] => by simp [PyData.eqvAll]
  | x :: l, y :: m => by
    rw [List.map_cons, List.map_cons, PyData.eqvAll, Bool.and_eq_true, hf, eqvAll_map hf l m]
    simp
theorem eqv_sh (k k' : Int) (rows rows' : List (List Int)) : PyData.eqv (shD k rows) (shD k' rows') = decide (k = k' ∧ rows = rows') := by
  rw [Bool.eq_iff_iff, decide_eq_true_eq]
  unfold shD
  simp only [PyData.eqv, PyData.eqvAll, Bool.and_eq_true, Bool.and_true, beq_iff_eq]
  rw [eqvAll_map fun x y => by rw [eqv_rw, beq_iff_eq]]
theorem eqv_sm (s t : List (Nat × Int)) : PyData.eqv (.tuple (smD s)) (.tuple (smD t)) = decide (s = t) := by
  rw [Bool.eq_iff_iff, decide_eq_true_eq]
  simp only [PyData.eqv]
  unfold smD
  rw [eqvAll_map]
  intro x y
  obtain ⟨a, b⟩ := x
  obtain ⟨c, d⟩ := y
  simp only [PyData.eqv, PyData.eqvAll, Bool.and_eq_true, Bool.and_true, beq_iff_eq, Prod.mk.injEq]
  constructor
  · rintro ⟨h1, h2⟩
    exact ⟨by omega, h2⟩
  · rintro ⟨rfl, rfl⟩
    exact ⟨rfl, rfl⟩
end Mn

set_option Elab.async false
set_option linter.all false
set_option maxRecDepth 100000
set_option maxHeartbeats 4000000
namespace K06
open PySem PySem.Spec PyProof.Rows L2 Mn

theorem law_sizes_ok {M : MH} (hb : Bag M) : Ok (fn__law_sizes [.loc 1] M) fun v M' => (∃ (k : Int) (n m : Nat), v = .v (.dat (.tuple [.int k, .int n, .int m])) ∧ (k = 2 ∨ k = 3) ∧ 1 ≤ n ∧ n ≤ 6 ∧ 1 ≤ m ∧ m ≤ 32) ∧ Kp M M' := by
  apply go__law_sizes
  unfold tm__law_sizes
  obtain ⟨v, M1, e1, ⟨r, rfl, r0, r1⟩, k1, l1⟩ := (law_draw_ok hb (below := 10) (by omega) (by omega)).ex
  obtain ⟨v, M2, e2, ⟨s, rfl, s0, s1⟩, k2, l2⟩ := (law_draw_ok k1.bag (below := 2) (by omega) (by omega)).ex
  by_cases hr : r = 0
  · simp [e1, hr, e2]
    exact ⟨⟨2 + s, 6, 32, ⟨rfl, rfl, rfl⟩, by omega, by omega, by omega, by omega, by omega⟩, k1.trans k2⟩
  · obtain ⟨v, M3, e3, ⟨d, hd, rfl⟩, k3, l3⟩ := (law_pick_ok k2.bag (ds := [.int 1, .int 2, .int 2, .int 3, .int 3, .int 3, .int 4, .int 4, .int 5, .int 6]) (by simp) (by simp)).ex
    obtain ⟨v, M4, e4, ⟨f, hf, rfl⟩, k4, l4⟩ := (law_pick_ok k3.bag (ds := [.int 1, .int 2, .int 3, .int 4, .int 5, .int 6, .int 7, .int 8, .int 8, .int 12]) (by simp) (by simp)).ex
    obtain ⟨n, hn, rfl⟩ : ∃ n ∈ [1, 2, 2, 3, 3, 3, 4, 4, 5, 6], d = .int ((n : Nat) : Int) := nDs_mem (l := [1, 2, 2, 3, 3, 3, 4, 4, 5, 6]) hd
    obtain ⟨m, hm, rfl⟩ : ∃ m ∈ [1, 2, 3, 4, 5, 6, 7, 8, 8, 12], f = .int ((m : Nat) : Int) := nDs_mem (l := [1, 2, 3, 4, 5, 6, 7, 8, 8, 12]) hf
    simp [e1, hr, e2, e3, e4]
    simp at hn hm
    exact ⟨⟨2 + s, n, m, ⟨rfl, rfl, rfl⟩, by omega, by omega, by omega, by omega, by omega⟩, k1.trans (k2.trans (k3.trans k4))⟩
/-- the shared list of numbers -/
structure Cod (M : MH) (j : Nat) (k : Int) (n : Nat) (cs : List Int) : Prop where
  at_ : lstAt M j = some ((iDs cs).map .dat)
  cds : Cds k n cs
  ne : cs ≠ []
  len : cs.length ≤ 1000
theorem law_shelf_ok {M : MH} (hb : Bag M) {k : Int} {n m : Nat} (k2 : k = 2 ∨ k = 3) (n1 : 1 ≤ n) (n6 : n ≤ 6) (m1 : 1 ≤ m) (m32 : m ≤ 32) :
    Ok (fn__law_shelf [.loc 1, .dat (.int k), .dat (.int n), .dat (.int m)] M) fun v M' => (∃ rows, v = .v (.dat (shD k rows)) ∧ Asc k n rows) ∧ Kp M M' := by
  apply go__law_shelf
  unfold tm__law_shelf
  obtain ⟨v, M1, e1, ⟨r, rfl, r0, r1⟩, k1, l1⟩ := (law_draw_ok hb (below := 4) (by omega) (by omega)).ex
  have hM := hb.lt
  have pk := pow_small k2 n6
  have new : ∀ {M' : MH} {cs : List Int}, Kp M M' → Cds k n cs → cs ≠ [] → cs.length ≤ 1000 → Kp M (M' ++ [.lst ((iDs cs).map .dat)]) ∧ Cod (M' ++ [.lst ((iDs cs).map .dat)]) M'.length k n cs ∧ M.length ≤ M'.length := fun {M' cs} kp hc ne hl =>
    ⟨kp.newO _, ⟨lstAt_eq (by simp), hc, ne, hl⟩, kp.le⟩
  refine Rs.seq [some (.v (.loc 1)), some (.v (.dat (.int k))), some (.v (.dat (.int n))), some (.v (.dat (.int m))), some (.v (.dat (.int r))), none, none, none] M1 (by simp [e1]) ?_
  refine Rs_seqQ (fun st M' => ∃ j cs, st = [some (.v (.loc 1)), some (.v (.dat (.int k))), some (.v (.dat (.int n))), some (.v (.dat (.int m))), some (.v (.dat (.int r))), some (.v (.loc j)), none, none] ∧ Kp M M' ∧ Cod M' j k n cs ∧ M.length ≤ j) ?_ ?_
  · have h4 : r = 0 ∨ r ≠ 0 := by omega
    rcases h4 with rfl | h0
    · rcases k2 with rfl | rfl
      · obtain ⟨v, M2, e2, cs, rfl, kp, hc, ne, hl⟩ := (law_shaped_ok k1.bag n1 n6).ex
        obtain ⟨a1, a2, a3⟩ := new (k1.trans kp) hc ne hl
        exact Nx.by_ ⟨_, cs, rfl, a1, a2, a3⟩ (by simp [e2])
      · obtain ⟨v, M2, e2, ⟨s, rfl, s0, s1⟩, kp, l2⟩ := (law_draw_ok k1.bag (below := 3) (by omega) (by omega)).ex
        obtain ⟨v, M3, e3, cs, rfl, rfl, hc, ne, hl⟩ := (law_turning_ok M2 (st := 1 + s) (by omega) (by omega) n1 n6).ex
        obtain ⟨a1, a2, a3⟩ := new (k1.trans kp) hc ne hl
        exact Nx.by_ ⟨_, cs, rfl, a1, a2, a3⟩ (by simp [e2, e3])
    · by_cases h1 : r = 1 ∧ 1 < n
      · obtain ⟨rfl, hn⟩ := h1
        obtain ⟨v, M2, e2, cs, rfl, kp, hc, ne, hl⟩ := (law_beside_ok k1.bag k2 hn n6 m1 m32).ex
        obtain ⟨a1, a2, a3⟩ := new (k1.trans kp) hc ne hl
        exact Nx.by_ ⟨_, cs, rfl, a1, a2, a3⟩ (by simp [e2, show (1 : Int) < n by omega])
      · obtain ⟨v, M2, e2, cs, rfl, kp, hc, ne, hl⟩ := (law_drawn_ok k1.bag k2 n6 m1 (show m ≤ 1000 by omega)).ex
        obtain ⟨a1, a2, a3⟩ := new (k1.trans kp) hc ne (by omega)
        refine Nx.by_ ⟨_, cs, rfl, a1, a2, a3⟩ ?_
        by_cases hr1 : r = 1
        · have hn : ¬ 1 < n := fun h => h1 ⟨hr1, h⟩
          simp [h0, hr1, show ¬ (1 : Int) < n by omega, e2]
        · simp [h0, hr1, e2]
  · rintro st M2 ⟨j, cs, rfl, kp, hc, hj⟩
    have h2j : 2 ≤ j := by omega
    have hcl := hc.len
    have hrg : rgSm 0 ((cs.length : Int) - (m : Int)) = true := rgSm_int (by omega) (by omega) (by omega) (by omega)
    refine Rs_seqQ (fun st M' => ∃ t6 cs, st = [some (.v (.loc 1)), some (.v (.dat (.int k))), some (.v (.dat (.int n))), some (.v (.dat (.int m))), some (.v (.dat (.int r))), some (.v (.loc j)), t6, none] ∧ Kp M M' ∧ Cod M' j k n cs ∧ cs.length ≤ m) ?_ ?_
    · refine Nx.opq fun Q hQ => ?_
      simp [-w_lpopAt, deref_loc, hc.at_, datAll_dat, hrg]
      refine Nx_fo (fun i st M' => ∃ t6 cs', st = [some (.v (.loc 1)), some (.v (.dat (.int k))), some (.v (.dat (.int n))), some (.v (.dat (.int m))), some (.v (.dat (.int r))), some (.v (.loc j)), t6, none] ∧ Kp M M' ∧ Cod M' j k n cs' ∧ cs'.length + i = cs.length) ?_ ?_ ?_
      · exact ⟨_, cs, rfl, kp, hc, rfl⟩
      · rintro i d st M3 hd ⟨t6, cs', rfl, kp3, hc3, hl⟩
        obtain ⟨rfl, hi⟩ := rgD_get hd
        obtain ⟨v, M4, e, p, c, M5, hp, hpc, rfl, kp5, hl5, rfl⟩ := (popd_ok kp3.bag (st := [some (.v (.loc 1)), some (.v (.dat (.int k))), some (.v (.dat (.int n))), some (.v (.dat (.int m))), some (.v (.dat (.int r))), some (.v (.loc j)), some (.v (.dat (.int (0 + (i : Int))))), none]) (i := 5) (n := j) (cs := cs') rfl rfl hc3.at_ h2j hc3.ne (by have := hc3.len; omega)).ex
        have hlen : (cs'.eraseIdx p).length + 1 = cs'.length := by
          rw [List.length_eraseIdx, if_pos hp]
          omega
        refine Nx.by_ ⟨some (.v (.dat (.int (0 + (i : Int))))), cs'.eraseIdx p, rfl, (kp3.trans kp5).setN h2j hj _, ⟨lstAt_eq (List.getElem?_set_self ?_), hc3.cds.erase p, ?_, ?_⟩, ?_⟩ (by simp [-w_lpopAt, -Int.zero_add, e])
        · rw [hl5]
          exact (List.getElem?_eq_some_iff.mp (lstAt_inv hc3.at_)).1
        · intro e
          rw [e] at hlen
          simp at hlen
          omega
        · have := hc3.len
          omega
        · omega
      · rintro st M3 ⟨t6, cs', rfl, kp3, hc3, hl⟩
        rw [rgD_length] at hl
        exact hQ _ _ ⟨_, cs', rfl, kp3, hc3, by omega⟩
    · rintro st M3 ⟨t6, cs, rfl, kp3, hc3, hl3⟩
      obtain ⟨v, M4, e4, ⟨x, rfl, x0, x1⟩, k4, l4⟩ := (law_draw_ok kp3.bag (below := k ^ n) (by omega) (by omega)).ex
      have jlt : ∀ {M' : MH} {cs : List Int}, Cod M' j k n cs → j < M'.length := fun h => (List.getElem?_eq_some_iff.mp (lstAt_inv h.at_)).1
      have keep : ∀ {M' M'' : MH} {cs : List Int}, Kp M' M'' → Cod M' j k n cs → Cod M'' j k n cs := fun {M' M'' cs} kk h => ⟨lstAt_eq ((kk.old j h2j (jlt h)).trans (lstAt_inv h.at_)), h.cds, h.ne, h.len⟩
      have hc4 := keep k4 hc3
      refine Rs.seq [some (.v (.loc 1)), some (.v (.dat (.int k))), some (.v (.dat (.int n))), some (.v (.dat (.int m))), some (.v (.dat (.int r))), some (.v (.loc j)), t6, some (.v (.dat (.int x)))] M4 (by simp [law_power_eq k n (by omega) (by omega) (by omega), e4]) ?_
      refine Rs_seqQ (fun st M' => ∃ cs, st = [some (.v (.loc 1)), some (.v (.dat (.int k))), some (.v (.dat (.int n))), some (.v (.dat (.int m))), some (.v (.dat (.int r))), some (.v (.loc j)), t6, some (.v (.dat (.int x)))] ∧ Kp M M' ∧ Cod M' j k n cs ∧ cs.length ≤ m) ?_ ?_
      · obtain ⟨v, M5, e5, ⟨y, rfl, y0, y1⟩, k5, l5⟩ := (law_draw_ok k4.bag (below := 3) (by omega) (by omega)).ex
        have hc5 := keep k5 hc4
        have kp5 := kp3.trans (k4.trans k5)
        have hel : ∀ M', Kp M M' → Cod M' j k n cs → Nx (tmIf (bAnd (toB (eOp2 dGt (eFn gLen (aCons (eVar 5) aNil)) (eC (.int 1)))) (toB (eOp2 dEq (eF (xCall fn__law_draw (aCons (eVar 0) (aCons (eC (.int 4)) aNil)))) (eC (.int 0))))) (tmDo (eLPopAt (eVar 5) (eF (xCall fn__law_draw (aCons (eVar 0) (aCons (eFn gLen (aCons (eVar 5) aNil)) aNil)))))) tmNil [some (.v (.loc 1)), some (.v (.dat (.int k))), some (.v (.dat (.int n))), some (.v (.dat (.int m))), some (.v (.dat (.int r))), some (.v (.loc j)), t6, some (.v (.dat (.int x)))] M') fun st M' => ∃ cs, st = [some (.v (.loc 1)), some (.v (.dat (.int k))), some (.v (.dat (.int n))), some (.v (.dat (.int m))), some (.v (.dat (.int r))), some (.v (.loc j)), t6, some (.v (.dat (.int x)))] ∧ Kp M M' ∧ Cod M' j k n cs ∧ cs.length ≤ m := by
          intro M' kp' hc'
          by_cases h1 : (1 : Int) < cs.length
          · obtain ⟨v, M6, e6, ⟨z, rfl, z0, z1⟩, k6, l6⟩ := (law_draw_ok kp'.bag (below := 4) (by omega) (by omega)).ex
            have hc6 := keep k6 hc'
            by_cases hz : z = 0
            · obtain ⟨v, M7, e7, p, c, M8, hp, hpc, rfl, kp8, hl8, rfl⟩ := (popd_ok k6.bag (st := [some (.v (.loc 1)), some (.v (.dat (.int k))), some (.v (.dat (.int n))), some (.v (.dat (.int m))), some (.v (.dat (.int r))), some (.v (.loc j)), t6, some (.v (.dat (.int x)))]) (i := 5) (n := j) (cs := cs) rfl rfl hc6.at_ h2j hc6.ne (by have := hc6.len; omega)).ex
              have hlen : (cs.eraseIdx p).length + 1 = cs.length := by
                rw [List.length_eraseIdx, if_pos hp]
                omega
              refine Nx.by_ ⟨cs.eraseIdx p, rfl, ((kp'.trans k6).trans kp8).setN h2j hj _, ⟨lstAt_eq (List.getElem?_set_self ?_), hc6.cds.erase p, ?_, ?_⟩, ?_⟩ (by simp [-w_lpopAt, deref_loc, hc'.at_, datAll_dat, h1, e6, hz, e7])
              · rw [hl8]
                exact jlt hc6
              · intro e
                rw [e] at hlen
                simp at hlen
                omega
              · have := hc6.len
                omega
              · omega
            · exact Nx.by_ ⟨cs, rfl, kp'.trans k6, hc6, hl3⟩ (by simp [-w_lpopAt, deref_loc, hc'.at_, datAll_dat, h1, e6, hz])
          · exact Nx.by_ ⟨cs, rfl, kp', hc', hl3⟩ (by simp [-w_lpopAt, deref_loc, hc'.at_, datAll_dat, h1])
        refine Nx.tif (decide (y = 0) && (!(cs.contains x) && decide (cs.length < m))) M5 ?_ (fun h => ?_) fun _ => hel M5 kp5 hc5
        · by_cases hy : y = 0
          · by_cases hm1 : x ∈ cs <;> simp [deref_loc, hc4.at_, hc5.at_, datAll_dat, e5, hy, hm1]
          · simp [e5, hy]
        · simp at h
          obtain ⟨hy, hm1, hm2⟩ := h
          have hl5 := hc5.len
          refine Nx.by_ ⟨cs ++ [x], rfl, kp5.setN h2j hj _, ⟨lstAt_eq (List.getElem?_set_self (jlt hc5)), hc5.cds.snoc hm1 x0 x1, by simp, by simp; omega⟩, by simp; omega⟩ ?_
          simp [hc5.at_, iDs_append, show cs.length < 16777216 by omega]
      · rintro st M5 ⟨cs, rfl, kp5, hc5, hl5⟩
        have e := law_rows_of_eq (k := k) (n := n) (by omega) (by omega) (by omega) hc5.at_ hc5.len
        exact Rs.by_ ⟨⟨_, rfl, hc5.cds.asc k2 n1 n6 hc5.ne (by omega)⟩, kp5⟩ (by simp [e, shD]; rfl)
end K06

set_option Elab.async false
set_option linter.all false
set_option maxRecDepth 100000
set_option maxHeartbeats 4000000
namespace K06
open PySem PySem.Spec PyProof.Rows L2 Mn

theorem is_tuple_eq (M : MH) {ds : List PyData} {n : Nat} (h : ds.length = n) : fn_is_tuple [.dat (.tuple ds), .dat (.int n)] M = .ok (.v (.dat (.bool true))) M := by
  refine Ok.eq (go_is_tuple ?_)
  unfold tm_is_tuple
  simp [h]
theorem is_integer_eq (M : MH) (x : Int) : fn_is_integer [.dat (.int x)] M = .ok (.v (.dat (.bool true))) M := by
  refine Ok.eq (go_is_integer ?_)
  unfold tm_is_integer
  simp
theorem is_whole_eq (M : MH) {x lo hi : Int} (h1 : lo ≤ x) (h2 : x ≤ hi) : fn_is_whole [.dat (.int x), .dat (.int lo), .dat (.int hi)] M = .ok (.v (.dat (.bool true))) M := by
  refine Ok.eq (go_is_whole ?_)
  unfold tm_is_whole
  simp [is_integer_eq, h1, h2]
theorem is_row_of_eq (M : MH) {k : Int} {n : Nat} {r : List Int} (hr : r.length = n ∧ ∀ x ∈ r, 0 ≤ x ∧ x < k) (hn : n ≤ 1000) : fn_is_row_of [.dat (.int k), .dat (.int n), .dat (rwD r)] M = .ok (.v (.dat (.bool true))) M := by
  refine Ok.eq (go_is_row_of ?_)
  unfold tm_is_row_of
  have hc : lcGo [(some (Sl.v (Val.dat (PyData.int k)))), (some (Sl.v (Val.dat (PyData.int n)))), (some (Sl.v (Val.dat (rwD r)))), none] (tgN 3) cYes (eF (xCall fn_is_whole (aCons (eVar 3) (aCons (eC (.int 0)) (aCons (eOp2 dSub (eVar 0) (eC (.int 1))) aNil))))) [] (iDs r) M = .ok (r.map fun _ => .bool true) M := by
    rw [lc_ints (fun _ => true) (fun _ => .bool true)]
    · rw [filter_tt]
    · intro x hx
      have := hr.2 x hx
      exact ⟨_, rfl, rfl, fun _ => by simp [is_whole_eq M (x := x) (lo := 0) (hi := k - 1) (by omega) (by omega)]⟩
    · show r.length ≤ 16777216
      omega
  have ht := is_tuple_eq M (ds := iDs r) (n := n) (by rw [iDs_length, hr.1])
  unfold rwD at hc ⊢
  simp [ht, hc]
theorem shelf_error_eq (M : MH) {k : Int} {n : Nat} {rows : List (List Int)} (h : Asc k n rows) : fn_shelf_error [.dat (shD k rows)] M = .ok (.v (.dat .none)) M := by
  refine Ok.eq (go_shelf_error ?_)
  unfold tm_shelf_error
  have hs := h.shf
  have k2 := hs.k2
  have hl := hs.len
  have hpos := List.length_pos_iff.mpr hs.ne
  have e1 := is_tuple_eq M (ds := [.int k, .tuple (rows.map rwD)]) (n := 2) rfl
  have e2 := is_whole_eq M (x := k) (lo := 2) (hi := 3) (by omega) (by omega)
  have e22 : ((2 : Nat) : Int) = 2 := rfl
  rw [e22] at e1
  obtain ⟨r0, hr0⟩ : ∃ r0, rows[0]? = some r0 := ⟨rows[0], List.getElem?_eq_getElem hpos⟩
  have hrow : ∀ r ∈ rows, r.length = n ∧ ∀ x ∈ r, 0 ≤ x ∧ x < k := hs.row
  have hr0l := (hrow r0 (List.mem_of_getElem? hr0)).1
  have n1 := hs.n1
  have n6 := hs.n6
  have hR : (rows.map rwD).length = rows.length := by simp
  have hR0 : (rows.map rwD)[0]? = some (rwD r0) := by rw [List.getElem?_map, hr0]; rfl
  unfold shD
  refine Rs.iff0 M (by simp [e1, e2]) ?_
  ((first | with_reducible refine Rs.go (fun zP hzP => ?_) | with_reducible refine Rs.gos (fun zP hzP => ?_) | with_reducible refine Nx.go (fun zP hzP => ?_)); simp [-List.map_map]; refine hzP _ _ ?_; clear hzP zP)
  have i1 : (1 : Int) ≤ rows.length := by omega
  have i2 : (rows.length : Int) ≤ 32 := by omega
  refine Rs.iff0 M (by simp [i1, i2]) ?_
  refine Rs.seq [(some (Sl.v (Val.dat (.tuple [.int k, .tuple (rows.map rwD)])))), (some (Sl.v (Val.dat (PyData.int k)))), (some (Sl.v (Val.dat (.tuple (rows.map rwD))))), (some (Sl.v (Val.dat (PyData.int n)))), none, none] M ?_ ?_
  · generalize rows.map rwD = R at hR hR0
    have hp : 0 < R.length := by omega
    have hL : R[0] = rwD r0 := by
      have := List.getElem?_eq_getElem hp
      rw [hR0] at this
      exact (Option.some.inj this).symm
    have hix : atI R 0 = some (rwD r0) := by rw [atI_pos R (by omega)]; simpa using hR0
    simp [hix, gLen_rw, hr0l, rwD]
  refine Rs.ford (ds := enD 0 (rows.map rwD)) (M1 := M) (fun i st M' => ∃ a b, st = [(some (Sl.v (Val.dat (.tuple [.int k, .tuple (rows.map rwD)])))), (some (Sl.v (Val.dat (PyData.int k)))), (some (Sl.v (Val.dat (.tuple (rows.map rwD))))), (some (Sl.v (Val.dat (PyData.int n)))), a, b] ∧ M' = M) ?_ ⟨_, _, rfl, rfl⟩ ?_ ?_
  · generalize rows.map rwD = R
    simp
  · rintro i d st M' hd ⟨a, b, rfl, rfl⟩
    rw [enD_get, List.getElem?_map] at hd
    cases hg : rows[i]? with
    | none => rw [hg] at hd; simp at hd
    | some r =>
      rw [hg] at hd
      simp at hd
      subst hd
      have hr := hrow r (List.mem_of_getElem? hg)
      have ee := is_row_of_eq M' (k := k) (n := n) hr (by omega)
      have j1 : (1 : Int) ≤ n := by omega
      have j2 : (n : Int) ≤ 6 := by omega
      refine Fw.nx_ (st := [(some (Sl.v (Val.dat (.tuple [.int k, .tuple (rows.map rwD)])))), (some (Sl.v (Val.dat (PyData.int k)))), (some (Sl.v (Val.dat (.tuple (rows.map rwD))))), (some (Sl.v (Val.dat (PyData.int n)))), (some (Sl.v (Val.dat (PyData.int i)))), (some (Sl.v (Val.dat (rwD r))))]) ⟨_, _, rfl, rfl⟩ ?_
      generalize rows.map rwD = R
      simp [ee, n1, n6, j1, j2]
  · rintro st M' ⟨a, b, rfl, rfl⟩
    refine Rs.ford (ds := rgD 1 (rows.length : Int)) (M1 := M') (fun i st M'' => ∃ a b, st = [(some (Sl.v (Val.dat (.tuple [.int k, .tuple (rows.map rwD)])))), (some (Sl.v (Val.dat (PyData.int k)))), (some (Sl.v (Val.dat (.tuple (rows.map rwD))))), (some (Sl.v (Val.dat (PyData.int n)))), a, b] ∧ M'' = M') ?_ ⟨_, _, rfl, rfl⟩ ?_ ?_
    · generalize rows.map rwD = R at hR
      simp [hR, rgSm_int (a := 1) (b := (rows.length : Int)) (by omega) (by omega) (by omega) (by omega)]
    · rintro i d st M'' hd ⟨a, b, rfl, rfl⟩
      obtain ⟨rfl, hi⟩ := rgD_get hd
      have hi : i + 1 < rows.length := by omega
      obtain ⟨p, hp⟩ : ∃ p, rows[i]? = some p := ⟨rows[i], List.getElem?_eq_getElem (by omega)⟩
      obtain ⟨q, hq⟩ : ∃ q, rows[i + 1]? = some q := ⟨rows[i + 1], List.getElem?_eq_getElem hi⟩
      have hlt : Ltx p q := by
        have := List.pairwise_iff_getElem.mp h.up i (i + 1) (by omega) hi (by omega)
        rw [List.getElem?_eq_getElem (by omega)] at hp
        rw [List.getElem?_eq_getElem hi] at hq
        cases hp
        cases hq
        exact this
      have a1 : atI (rows.map rwD) (1 + (i : Int)) = some (rwD q) := by
        rw [atI_pos _ (by omega), List.getElem?_map, show (1 + (i : Int)).toNat = i + 1 by omega, hq]
        rfl
      have a2 : atI (rows.map rwD) (i : Int) = some (rwD p) := by
        rw [atI_pos _ (by omega), List.getElem?_map, show ((i : Int)).toNat = i by omega, hp]
        rfl
      have hle : dLeT (rwD q) (rwD p) = some (.bool false) := by
        show (intsOf (iDs q)).bind (fun ns => (intsOf (iDs p)).map fun ms => PyData.bool (leX ns ms)) = _
        rw [intsOf_ints, intsOf_ints, bind_some_n]
        show some (PyData.bool (leX q p)) = _
        rw [leX_no hlt]
      refine Fw.nx_ (st := [(some (Sl.v (Val.dat (.tuple [.int k, .tuple (rows.map rwD)])))), (some (Sl.v (Val.dat (PyData.int k)))), (some (Sl.v (Val.dat (.tuple (rows.map rwD))))), (some (Sl.v (Val.dat (PyData.int n)))), (some (Sl.v (Val.dat (PyData.int (1 + (i : Int)))))), b]) ⟨_, _, rfl, rfl⟩ ?_
      have a3 : (1 + (i : Int)) - 1 = (i : Int) := by omega
      generalize rows.map rwD = R at a1 a2
      simp [a1, a2, a3, hle, -dLeT_rows]
    · rintro st M'' ⟨a, b, rfl, rfl⟩
      exact Rs.rt ⟨rfl, rfl⟩ (by simp)
end K06

set_option Elab.async false
set_option linter.all false
set_option maxRecDepth 100000
set_option maxHeartbeats 4000000
namespace K06
open PySem PySem.Spec PyProof.Rows L2 Mn TL

abbrev fig : Str := PySem.Str.ofString "012345"
abbrev emp : Str := PySem.Str.ofString ""
theorem tl_fig : tl fig = [48, 49, 50, 51, 52, 53] := by decide +kernel
theorem in_fig {x : Int} {t : Str} {ds : List Nat} (ht : tl t = ds) (h0 : 0 ≤ x) (h1 : x < 10) (hx : 48 + x.toNat ∈ ds) : dIn (.str (dg x)) (.str t) = some (.bool true) := by
  show some (PyData.bool (!(Builtin.Str.occurrences t (dg x) 0 t.length 1).isEmpty)) = _
  rw [dg_eq h0 h1, PyProof.Rows.empty_one]
  have : decide (48 + x.toNat ∈ t.cps.toList) = true := decide_eq_true (by
    have e : t.cps.toList = ds := ht
    rw [e]
    exact hx)
  rw [this]
  rfl
theorem cut2 : tl (cutS fig none (some 2)) = [48, 49] := by decide +kernel
theorem cut3 : tl (cutS fig none (some 3)) = [48, 49, 50] := by decide +kernel
theorem in_cut {k x : Int} (k2 : k = 2 ∨ k = 3) (h0 : 0 ≤ x) (h1 : x < k) : dIn (.str (dg x)) (.str (cutS fig none (some k))) = some (.bool true) := by
  rcases k2 with rfl | rfl
  · refine in_fig cut2 h0 (by omega) ?_
    have : x.toNat = 0 ∨ x.toNat = 1 := by omega
    rcases this with h | h <;> rw [h] <;> simp
  · refine in_fig cut3 h0 (by omega) ?_
    have : x.toNat = 0 ∨ x.toNat = 1 ∨ x.toNat = 2 := by omega
    rcases this with h | h | h <;> rw [h] <;> simp
theorem fig_len : fig.length = 6 := by decide +kernel
theorem sl_fig (k : Int) : slD (.str fig) none (some k) = some (.v (.dat (.str (cutS fig none (some k))))) := by
  show (if fig.length ≤ SL then some (Sl.v (.dat (.str (cutS fig none (some k))))) else none) = _
  rw [if_pos (by rw [fig_len]; decide)]
theorem digs {k : Int} (k2 : k = 2 ∨ k = 3) {n : Nat} {r : List Int} (hr : r.length = n ∧ ∀ x ∈ r, 0 ≤ x ∧ x < k) : Dgs r := fun x hx => by have := hr.2 x hx; omega
theorem is_line_eq (M : MH) {k : Int} {n : Nat} (k2 : k = 2 ∨ k = 3) (n1 : 1 ≤ n) (n6 : n ≤ 6) {r : List Int} (hr : r.length = n ∧ ∀ x ∈ r, 0 ≤ x ∧ x < k) : fn_is_line_of [.dat (.str (rwS r)), .dat (.int k)] M = .ok (.v (.dat (.bool true))) M := by
  refine Ok.eq (go_is_line_of ?_)
  unfold tm_is_line_of
  have hd := digs k2 hr
  have hl : (rwS r).length = n := by rw [rwS_len hd, hr.1]
  have hc : lcGo [(some (Sl.v (Val.dat (.str (rwS r))))), (some (Sl.v (Val.dat (PyData.int k)))), none] (tgN 2) cYes (eOp2 dIn (eVar 2) (eF (xSl (eC (.str fig)) oNone (oSome (eVar 1))))) [] (sgD (rwS r)) M = .ok (r.map fun _ => .bool true) M := by
    rw [sgD_rwS hd, lc_mapE (e := fun x => .str (dg x)) (p := fun _ => true) (F := fun _ => .bool true)]
    · rw [filter_tt]
      simp
    · intro x hx
      have h := hr.2 x hx
      have hi := in_cut k2 h.1 h.2
      exact ⟨_, rfl, rfl, fun _ => by simp [-dIn, sl_fig, hi]⟩
    · show 0 + r.length ≤ 16777216
      omega
  have j1 : (1 : Int) ≤ n := by omega
  have j2 : (n : Int) ≤ 6 := by omega
  simp [hl, show n ≤ 16777216 by omega, n1, n6, j1, j2, hc]
/-- the line of a shelf -/
def shT (k : Int) (rows : List (List Int)) : Str := Txt.join blk (dg k :: rows.map rwS)
theorem row_text {M : MH} {st : MSt} {g : Tgt} {f : Ex Val} {r : List Int} (hd : Dgs r) (hl : r.length ≤ 1000) (hf : ∀ x : Int, 0 ≤ x → x < 10 → ∃ st1, g (.v (.dat (.int x))) st = some st1 ∧ (gStr [.int x] = some (.str (dg x)) → f st1 M = .ok (.dat (.str (dg x))) M)) :
    lcGo st g cYes f [] (iDs r) M = .ok (r.map fun x => .str (dg x)) M := by
  rw [lc_ints (fun _ => true) (fun x => .str (dg x))]
  · rw [filter_tt]
  · intro x hx
    have h := hd x hx
    obtain ⟨st1, e1, e2⟩ := hf x h.1 h.2
    exact ⟨st1, e1, rfl, fun _ => e2 (gStr_dg h.1 (by omega))⟩
  · show r.length ≤ 16777216
    omega
theorem parts_le {k : Int} {n : Nat} {rows : List (List Int)} (h : Asc k n rows) : ∀ y ∈ dg k :: rows.map rwS, y.length ≤ 6 := fun y hy => by
  have k2 := h.shf.k2
  rcases List.mem_cons.mp hy with rfl | hy
  · rw [dg_len (by omega) (by omega)]
    decide
  · obtain ⟨r, hr, rfl⟩ := List.mem_map.mp hy
    rw [rwS_len (digs k2 (h.shf.row r hr)), (h.shf.row r hr).1]
    exact h.shf.n6
theorem shelf_text_eq (M : MH) {k : Int} {n : Nat} {rows : List (List Int)} (h : Asc k n rows) : fn_shelf_text [.dat (shD k rows)] M = .ok (.v (.dat (.str (shT k rows)))) M := by
  refine Ok.eq (go_shelf_text ?_)
  unfold tm_shelf_text
  have k2 := h.shf.k2
  have hl := h.shf.len
  have n6 := h.shf.n6
  have hk := gStr_dg (x := k) (by omega) (by omega)
  have hc : lcGo [(some (Sl.v (Val.dat (shD k rows)))), none, none] (tgN 2) cYes (eM1 gJoin (eC (.str emp)) (eF (xLcA FU [1] (eVar 2) (tgN 1) cYes (eFn gStr (aCons (eVar 1) aNil))))) [] (rows.map rwD) M = .ok ((rows.map rwS).map .str) M := by
    rw [lc_mapE (e := rwD) (p := fun _ => true) (F := fun r => .str (rwS r))]
    · rw [filter_tt]
      simp
    · intro r hr
      have hd := digs k2 (h.shf.row r hr)
      have hrl := (h.shf.row r hr).1
      have hi := row_text (M := M) (st := [(some (Sl.v (Val.dat (shD k rows)))), none, (some (Sl.v (Val.dat (rwD r))))]) (g := tgN 1) (f := eFn gStr (aCons (eVar 1) aNil)) hd (by omega) (fun x _ _ => ⟨_, rfl, fun e => by simp [e]⟩)
      have hj := gJoin_rw hd (by omega)
      refine ⟨_, rfl, rfl, fun _ => ?_⟩
      unfold rwD at hi ⊢
      simp [hi, hj]
    · show 0 + rows.length ≤ 16777216
      omega
  have hj := gJoin_fit (a := blk) (ys := dg k :: rows.map rwS) (m := 6) (parts_le h) (by decide +kernel) (by simp; omega) (by decide)
  have hS : ((rows.map rwS).map PyData.str).length = rows.length := by simp
  have e1 := at1_sh0 k rows
  have e2 := at1_sh1 k rows
  rw [List.map_cons] at hj
  unfold shT
  generalize shD k rows = S at hc e1 e2
  generalize (rows.map rwS).map PyData.str = T at hc hS hj
  generalize rows.map rwD = R at hc e2
  simp [e1, e2, hk, hc, show 1 + T.length ≤ 16777216 by omega, hj]
end K06

set_option Elab.async false
set_option linter.all false
set_option maxRecDepth 100000
set_option maxHeartbeats 4000000
namespace K06
open PySem PySem.Spec PyProof.Rows L2 Mn TL

theorem joinL_snoc (S : List Nat) : ∀ (p : List Nat) (ps : List (List Nat)) (q : List Nat), joinL S (p :: ps ++ [q]) = joinL S (p :: ps) ++ (S ++ q)
  | p, [], q => rfl
  | p, x :: r, q => by
    show p ++ (S ++ joinL S (x :: r ++ [q])) = p ++ (S ++ joinL S (x :: r)) ++ (S ++ q)
    rw [joinL_snoc S x r q]
    simp
theorem join_snoc (p : Str) (ps : List Str) (q : Str) : Txt.join blk (p :: ps ++ [q]) = Txt.join blk (p :: ps) ++ blk ++ q := by
  refine ext_tl ?_
  rw [join_eq, join_eq, tl_append, tl_append, tl_join, tl_join, List.map_append, List.map_cons, List.map_singleton, joinL_snoc]
  simp
theorem shelf_line_eq (M : MH) {k : Int} {n : Nat} {rows : List (List Int)} (h : Asc k n rows) : fn__law_shelf_line [.dat (shD k rows)] M = .ok (.v (.dat (.str (shT k rows)))) M := by
  refine Ok.eq (go__law_shelf_line ?_)
  unfold tm__law_shelf_line
  have k2 := h.shf.k2
  have hl := h.shf.len
  have n6 := h.shf.n6
  have hk := gStr_dg (x := k) (by omega) (by omega)
  have e1 := at1_sh0 k rows
  have e2 := at1_sh1 k rows
  refine Rs.seq [(some (Sl.v (Val.dat (shD k rows)))), (some (Sl.v (Val.dat (.str (dg k))))), none, none] M ?_ ?_
  · generalize shD k rows = S at e1 e2
    simp [e1, hk]
  refine Rs.forA (ds := rows.map rwD) (M1 := M) (v := .dat (.tuple (rows.map rwD))) (fun i st M' => ∃ a, st = [(some (Sl.v (Val.dat (shD k rows)))), (some (Sl.v (Val.dat (.str (Txt.join blk (dg k :: (rows.take i).map rwS)))))), a, none] ∧ M' = M) (.inr rfl) ?_ ⟨none, rfl, rfl⟩ ?_ ?_
  · generalize rows.map rwD = R at e2
    generalize shD k rows = S at e2
    simp [e2]
  · rintro i d st M' hd ⟨a, rfl, rfl⟩
    rw [List.getElem?_map] at hd
    obtain ⟨r, hr, rfl⟩ := Option.map_eq_some_iff.mp hd
    have hrow := h.shf.row r (List.mem_of_getElem? hr)
    have hdg := digs k2 hrow
    have hi := row_text (M := M') (st := [(some (Sl.v (Val.dat (shD k rows)))), (some (Sl.v (Val.dat (.str (Txt.join blk (dg k :: (rows.take i).map rwS)))))), (some (Sl.v (Val.dat (rwD r)))), none]) (g := tgN 3) (f := eFn gStr (aCons (eVar 3) aNil)) hdg (by omega) (fun x _ _ => ⟨_, rfl, fun e => by simp [e]⟩)
    have hj := gJoin_rw hdg (by omega)
    have htk : rows.take (i + 1) = rows.take i ++ [r] := by rw [List.take_add_one, hr]; rfl
    have hs : Txt.join blk (dg k :: (rows.take (i + 1)).map rwS) = Txt.join blk (dg k :: (rows.take i).map rwS) ++ blk ++ rwS r := by
      rw [htk, List.map_append, List.map_singleton]
      exact join_snoc _ _ _
    have hlen : (Txt.join blk (dg k :: (rows.take i).map rwS)).length ≤ 300 := by
      refine Nat.le_trans (join_len (m := 6) fun y hy => parts_le h y ?_) ?_
      · rcases List.mem_cons.mp hy with rfl | hy
        · exact List.mem_cons_self
        · obtain ⟨q, hq, rfl⟩ := List.mem_map.mp hy
          exact List.mem_cons_of_mem _ (List.mem_map.mpr ⟨q, List.mem_of_mem_take hq, rfl⟩)
      · have : (rows.take i).length ≤ 32 := (by rw [List.length_take]; omega)
        rw [List.length_cons, List.length_map]
        omega
    have hbl : blk.length = 1 := rfl
    have hrl : (rwS r).length ≤ 6 := by rw [rwS_len hdg, hrow.1]; exact n6
    rw [w_tgN, ob_some]
    refine Nx.by_ (st := [(some (Sl.v (Val.dat (shD k rows)))), (some (Sl.v (Val.dat (.str (Txt.join blk (dg k :: (rows.take (i + 1)).map rwS)))))), (some (Sl.v (Val.dat (rwD r)))), none]) ⟨_, rfl, rfl⟩ ?_
    rw [hs]
    generalize Txt.join blk (dg k :: (rows.take i).map rwS) = T at hi hlen
    have hT2 : (T ++ blk).length ≤ 301 := by
      rw [len_tl] at hlen ⊢
      rw [tl_append, List.length_append]
      have : (tl blk).length = 1 := rfl
      omega
    have a1 : dAdd (.str T) (.str blk) = some (.v (.dat (.str (T ++ blk)))) := by
      show (if T.length + blk.length ≤ SL then some (Sl.v (.dat (.str (T ++ blk)))) else none) = _
      rw [if_pos]
      show _ ≤ 16777216
      omega
    have a2 : dAdd (.str (T ++ blk)) (.str (rwS r)) = some (.v (.dat (.str (T ++ blk ++ rwS r)))) := by
      show (if (T ++ blk).length + (rwS r).length ≤ SL then some (Sl.v (.dat (.str (T ++ blk ++ rwS r)))) else none) = _
      rw [if_pos]
      show _ ≤ 16777216
      omega
    generalize T ++ blk ++ rwS r = U at a2
    generalize T ++ blk = V at a1 a2
    generalize shD k rows = S at hi
    unfold rwD at hi ⊢
    simp [-dAdd, a1, hi, hj, a2]
  · rintro st M' ⟨a, rfl, rfl⟩
    rw [List.length_map, List.take_length]
    exact Rs.by_ (st := [(some (Sl.v (Val.dat (shD k rows)))), (some (Sl.v (Val.dat (.str (Txt.join blk (dg k :: rows.map rwS)))))), a, none]) ⟨rfl, rfl⟩ (by unfold shT; generalize shD k rows = S; simp)
theorem not_in_two {k : Int} (k2 : k = 2 ∨ k = 3) : dNotIn (.str (dg k)) (.tuple [.str (PySem.Str.ofString "2"), .str (PySem.Str.ofString "3")]) = some (.bool false) := by
  rcases k2 with rfl | rfl
  · kernel_rfl
  · kernel_rfl
theorem read_shelf_eq (M : MH) {k : Int} {n : Nat} {rows : List (List Int)} (h : Asc k n rows) : fn_read_shelf [.dat (.str (shT k rows))] M = .ok (.v (.dat (shD k rows))) M := by
  refine Ok.eq (go_read_shelf ?_)
  unfold tm_read_shelf
  have k2 := h.shf.k2
  have hl := h.shf.len
  have n1 := h.shf.n1
  have n6 := h.shf.n6
  have hne := List.length_pos_iff.mpr h.shf.ne
  have hsp : Txt.split (shT k rows) blk = dg k :: rows.map rwS := split_blk (by simp) fun p hp => by
    rcases List.mem_cons.mp hp with rfl | hp
    · exact free_dg (by omega) (by omega)
    · obtain ⟨r, hr, rfl⟩ := List.mem_map.mp hp
      exact free_rwS (digs k2 (h.shf.row r hr))
  have hT : (shT k rows).length + 2 ≤ SL := by
    have := join_len (parts_le h)
    rw [List.length_cons, List.length_map] at this
    unfold shT
    show _ ≤ 16777216
    omega
  have hbl : (PySem.Str.ofString " ").length = 1 := rfl
  have hR : ((rows.map rwS).map PyData.str).length = rows.length := by simp
  have hint := intText_dg (x := k) (by omega) (by omega)
  have hni := not_in_two k2
  have hen : enD 0 ((rows.map rwS).map PyData.str) = enD 0 (rows.map fun r => PyData.str (rwS r)) := by rw [List.map_map]; rfl
  have hsh := shelf_error_eq M h
  refine Rs.seq [(some (Sl.v (Val.dat (.str (shT k rows))))), (some (Sl.own (.str (dg k) :: (rows.map rwS).map .str))), none, none, none, none, none, none, none] M ?_ ?_
  · generalize shT k rows = T at hsp hT
    generalize rows.map rwS = S at hsp
    have hT' : T.length ≤ 16777214 := by have : T.length + 2 ≤ 16777216 := hT; omega
    simp [hsp, hT', hbl]
  have hlast : ∀ a b, Rs (tmSeq (tmAs (xV (eTup (aCons (eVar 2) (aCons (eFn gTuple (aCons (eVar 3) aNil)) aNil)))) (tgN 7))
      (tmSeq (tmAs (xCall fn_shelf_error (aCons (eVar 7) aNil)) (tgN 8)) (tmSeq (tmIf (toB (eOp2 dNotN (eVar 8) (eC .none))) tmNo tmNil) (tmRv 7)))
      [(some (Sl.v (Val.dat (.str (shT k rows))))), (some (Sl.own (.str (dg k) :: (rows.map rwS).map .str))), (some (Sl.v (Val.dat (PyData.int k)))), (some (Sl.own (rows.map rwD))), a, b, none, none, none] M) fun v M' => v = .v (.dat (shD k rows)) ∧ M' = M := by
    intro a b
    refine Rs.seq [(some (Sl.v (Val.dat (.str (shT k rows))))), (some (Sl.own (.str (dg k) :: (rows.map rwS).map .str))), (some (Sl.v (Val.dat (PyData.int k)))), (some (Sl.own (rows.map rwD))), a, b, none, (some (Sl.v (Val.dat (shD k rows)))), none] M ?_ ?_
    · generalize rows.map rwS = S
      generalize shT k rows = T
      unfold shD
      generalize rows.map rwD = R
      simp
    refine Rs.seq [(some (Sl.v (Val.dat (.str (shT k rows))))), (some (Sl.own (.str (dg k) :: (rows.map rwS).map .str))), (some (Sl.v (Val.dat (PyData.int k)))), (some (Sl.own (rows.map rwD))), a, b, none, (some (Sl.v (Val.dat (shD k rows)))), (some (Sl.v (Val.dat .none)))] M ?_ ?_
    · generalize rows.map rwS = S
      generalize shT k rows = T
      generalize rows.map rwD = R
      generalize shD k rows = D at hsh
      simp [hsh]
    generalize rows.map rwS = S
    generalize shT k rows = T
    generalize rows.map rwD = R
    generalize shD k rows = D
    refine Rs.iff0 M (by simp) ?_
    exact Rs.by_ (st := [(some (Sl.v (Val.dat (.str T)))), (some (Sl.own (.str (dg k) :: S.map .str))), (some (Sl.v (Val.dat (PyData.int k)))), (some (Sl.own R)), a, b, none, (some (Sl.v (Val.dat D))), (some (Sl.v (Val.dat .none)))]) ⟨rfl, rfl⟩ (by simp)
  generalize hTT : shT k rows = T at hlast
  clear hTT hT hsp hsh
  generalize hSS : (rows.map rwS).map PyData.str = S at hlast hR hen
  refine Rs.iff0 M (by simp [-dNotIn, hni]) ?_
  have c1 : ¬ S.length = 0 := by omega
  have c2 : ¬ (S.length : Int) = 0 := by omega
  have c3 : ¬ S.length + 1 = 1 := by omega
  have c4 : ¬ (S.length : Int) + 1 = 1 := by omega
  refine Rs.iff0 M (by simp [c1, c2, c3, c4]) ?_
  refine Rs.seq [(some (Sl.v (Val.dat (.str T)))), (some (Sl.own (.str (dg k) :: S))), (some (Sl.v (Val.dat (PyData.int k)))), (some (Sl.own ([]))), none, none, none, none, none] M ?_ ?_
  · simp [hint]
  refine Rs.for_ (ds := enD 0 (rows.map fun r => PyData.str (rwS r))) (M1 := M) (fun i st M' => ∃ a b, st = [(some (Sl.v (Val.dat (.str T)))), (some (Sl.own (.str (dg k) :: S))), (some (Sl.v (Val.dat (PyData.int k)))), (some (Sl.own ((rows.take i).map rwD))), a, b, none, none, none] ∧ M' = M) ?_ ⟨none, none, rfl, rfl⟩ ?_ ?_
  · have e : slD (.list (.str (dg k) :: S)) (some 1) none = some (.own S) := by
      have := cutD_lo (PyData.str (dg k) :: S) 1
      show some (Sl.own (cutD (PyData.str (dg k) :: S) (some 1) none)) = _
      rw [show (some (1 : Int)) = some ((1 : Nat) : Int) from rfl, this]
      rfl
    simp [e, hen]
  · rintro i d st M' hd ⟨a, b, rfl, rfl⟩
    rw [enD_get, List.getElem?_map] at hd
    cases hg : rows[i]? with
    | none => rw [hg] at hd; simp at hd
    | some r =>
      rw [hg] at hd
      simp at hd
      subst hd
      have hi := (List.getElem?_eq_some_iff.mp hg).1
      have hrow := h.shf.row r (List.mem_of_getElem? hg)
      have hdg := digs k2 hrow
      have ee := is_line_eq M' k2 n1 n6 hrow
      have j1 : ¬ (i : Int) = 32 := by omega
      have j2 : ¬ i = 32 := by omega
      have htk : rows.take (i + 1) = rows.take i ++ [r] := by rw [List.take_add_one, hg]; rfl
      have hc : lcGo [(some (Sl.v (Val.dat (.str T)))), (some (Sl.own (.str (dg k) :: S))), (some (Sl.v (Val.dat (PyData.int k)))), (some (Sl.own ((rows.take i).map rwD))), (some (Sl.v (Val.dat (PyData.int i)))), (some (Sl.v (Val.dat (.str (rwS r))))), none, none, none] (tgN 6) cYes (eFn gIntS (aCons (eVar 6) aNil)) [] (sgD (rwS r)) M' = .ok (iDs r) M' := by
        rw [sgD_rwS hdg, lc_mapE (e := fun x => .str (dg x)) (p := fun _ => true) (F := fun x => .int x)]
        · rw [filter_tt]
          simp
        · intro x hx
          have := hdg x hx
          have hx := intText_dg (x := x) (by omega) (by omega)
          exact ⟨_, rfl, rfl, fun _ => by simp [hx]⟩
        · show 0 + r.length ≤ 16777216
          omega
      have htl : ((rows.take i).map rwD).length ≤ 32 := by
        rw [List.length_map]
        exact (by rw [List.length_take]; omega)
      refine Nx.by_ (st := [(some (Sl.v (Val.dat (.str T)))), (some (Sl.own (.str (dg k) :: S))), (some (Sl.v (Val.dat (PyData.int k)))), (some (Sl.own ((rows.take (i + 1)).map rwD))), (some (Sl.v (Val.dat (PyData.int i)))), (some (Sl.v (Val.dat (.str (rwS r))))), none, none, none]) ⟨_, _, rfl, rfl⟩ ?_
      rw [htk, List.map_append]
      generalize (rows.take i).map rwD = R at hc htl
      simp [ee, j1, j2, hc, rwD, show R.length < 16777216 by omega]
  · rintro st M' ⟨a, b, rfl, rfl⟩
    have : (enD 0 (rows.map fun r => PyData.str (rwS r))).length = rows.length := by rw [enD_length, List.length_map]
    rw [this, List.take_length]
    exact hlast a b
end K06

set_option Elab.async false
set_option linter.all false
set_option maxRecDepth 100000
set_option maxHeartbeats 4000000
namespace K06
open PySem PySem.Spec PyProof.Rows L2 Mn TL

theorem dNe_text {a b : Str} (ha : PySem.PyData.strOk a = true) (hb : PySem.PyData.strOk b = true) : dNe (.str a) (.str b) = some (.bool (!decide (a = b))) := by
  have h := dEq_str ha hb
  unfold dEq at h
  unfold dNe
  by_cases hc : SeqAt.shaped (.str a) = true ∧ SeqAt.shaped (.str b) = true
  · rw [if_pos hc] at h ⊢
    have := PyData.bool.inj (Option.some.inj h)
    rw [this]
  · rw [if_neg hc] at h
    cases h
abbrev eqs : Str := PySem.Str.ofString "="
def pT (q : Nat × Int) : Str := dg (q.1 : Int) ++ eqs ++ dg q.2
abbrev prD (q : Nat × Int) : PyData := .tuple [.int (q.1 : Int), .int q.2]
def smT (s : List (Nat × Int)) : Str := Txt.join blk (s.map pT)
abbrev Pr (q : Nat × Int) : Prop := q.1 < 6 ∧ 0 ≤ q.2 ∧ q.2 < 3
theorem tl_pT {q : Nat × Int} (h : Pr q) : tl (pT q) = [48 + q.1, 61, 48 + q.2.toNat] := by
  unfold pT
  rw [tl_append, tl_append, tl_dg (by omega) (by omega), tl_dg (by omega) (by omega)]
  show [48 + (q.1 : Int).toNat] ++ [61] ++ _ = _
  simp
theorem pT_len {q : Nat × Int} (h : Pr q) : (pT q).length = 3 := by
  rw [len_tl, tl_pT h]
  rfl
theorem pT_at {q : Nat × Int} (h : Pr q) : at1 (.str (pT q)) 0 = some (.str (dg (q.1 : Int))) ∧ at1 (.str (pT q)) 1 = some (.str eqs) ∧ at1 (.str (pT q)) 2 = some (.str (dg q.2)) := by
  have e : (pT q).cps.toList = [48 + q.1, 61, 48 + q.2.toNat] := tl_pT h
  have go : ∀ i : Int, at1 (.str (pT q)) i = (atI [48 + q.1, 61, 48 + q.2.toNat] i).map fun c => .str ⟨#[c]⟩ := fun i => by
    show (if (pT q).length ≤ SL then (atI (pT q).cps.toList i).map fun c => PyData.str ⟨#[c]⟩ else none) = _
    rw [if_pos (by rw [pT_len h]; decide), e]
  rw [go, go, go, atI_pos _ (by omega), atI_pos _ (by omega), atI_pos _ (by omega), dg_eq (by omega) (by omega), dg_eq (by omega) (by omega)]
  refine ⟨by simp, rfl, rfl⟩
theorem gStr_p {q : Nat × Int} (h : Pr q) : gStr [.int (q.1 : Int)] = some (.str (dg (q.1 : Int))) ∧ gStr [.int q.2] = some (.str (dg q.2)) := ⟨gStr_dg (by omega) (by omega), gStr_dg (by omega) (by omega)⟩
theorem pT_add {q : Nat × Int} (h : Pr q) : dAdd (.str (dg (q.1 : Int))) (.str eqs) = some (.v (.dat (.str (dg (q.1 : Int) ++ eqs)))) ∧ dAdd (.str (dg (q.1 : Int) ++ eqs)) (.str (dg q.2)) = some (.v (.dat (.str (pT q)))) := by
  have l1 := dg_len (x := (q.1 : Int)) (by omega) (by omega)
  have l2 := dg_len (x := q.2) (by omega) (by omega)
  have l3 : eqs.length = 1 := rfl
  have l4 : (dg (q.1 : Int) ++ eqs).length = 2 := by
    rw [len_tl, tl_append, List.length_append, ← len_tl, ← len_tl, l1, l3]
  constructor
  · show (if (dg (q.1 : Int)).length + eqs.length ≤ SL then some (Sl.v (.dat (.str (dg (q.1 : Int) ++ eqs)))) else none) = _
    rw [if_pos (by rw [l1, l3]; decide)]
  · show (if (dg (q.1 : Int) ++ eqs).length + (dg q.2).length ≤ SL then some (Sl.v (.dat (.str (dg (q.1 : Int) ++ eqs ++ dg q.2)))) else none) = _
    rw [if_pos (by rw [l4, l2]; decide)]
    rfl
theorem sample_text_eq (M : MH) {s : List (Nat × Int)} (h : ∀ q ∈ s, Pr q) (hl : s.length ≤ 60) : fn_sample_text [.dat (.tuple (smD s))] M = .ok (.v (.dat (.str (smT s)))) M := by
  refine Ok.eq (go_sample_text ?_)
  unfold tm_sample_text
  have hc : lcGo [(some (Sl.v (Val.dat (.tuple (smD s))))), none, none] (tgT 2 (tgsCons (tgN 1) (tgsCons (tgN 2) tgsNil))) cYes (eF (xOp2 dAdd (eF (xOp2 dAdd (eFn gStr (aCons (eVar 1) aNil)) (eC (.str eqs)))) (eFn gStr (aCons (eVar 2) aNil)))) [] (s.map prD) M = .ok ((s.map pT).map .str) M := by
    rw [lc_mapE (e := prD) (p := fun _ => true) (F := fun q => .str (pT q))]
    · rw [filter_tt]
      simp
    · intro q hq
      obtain ⟨a1, a2⟩ := gStr_p (h q hq)
      obtain ⟨b1, b2⟩ := pT_add (h q hq)
      refine ⟨_, rfl, rfl, fun _ => ?_⟩
      generalize pT q = T at b2
      generalize dg (q.1 : Int) ++ eqs = U at b1 b2
      simp [-dAdd, a1, a2, b1, b2]
    · show 0 + s.length ≤ 16777216
      omega
  have hj := gJoin_fit (a := blk) (ys := s.map pT) (m := 3) (fun y hy => by
    obtain ⟨q, hq, rfl⟩ := List.mem_map.mp hy
    rw [pT_len (h q hq)]
    exact Nat.le_refl _) (by decide +kernel) (by simp; omega) (by decide)
  have e : smD s = s.map prD := rfl
  unfold smT
  rw [e] at hc ⊢
  generalize s.map prD = S at hc
  generalize (s.map pT).map PyData.str = T at hc hj
  simp [hc, hj]
theorem sample_line_fn : fn__law_sample_line = fn_sample_text := rfl
theorem is_pair_eq (M : MH) {q : Nat × Int} (h : Pr q) : fn_is_pair_of [.dat (.str (pT q))] M = .ok (.v (.dat (.bool true))) M := by
  refine Ok.eq (go_is_pair_of ?_)
  unfold tm_is_pair_of
  obtain ⟨a1, a2, a3⟩ := pT_at h
  have hl := pT_len h
  have he : dEq (.str eqs) (.str eqs) = some (.bool true) := by
    rw [dEq_str (by decide +kernel) (by decide +kernel), decide_eq_true rfl]
  have i1 := in_fig (x := (q.1 : Int)) tl_fig (by omega) (by omega) (by
    have : q.1 = 0 ∨ q.1 = 1 ∨ q.1 = 2 ∨ q.1 = 3 ∨ q.1 = 4 ∨ q.1 = 5 := by omega
    rcases this with h | h | h | h | h | h <;> rw [h] <;> simp)
  have i2 := in_cut (k := 3) (x := q.2) (.inr rfl) h.2.1 h.2.2
  generalize pT q = T at a1 a2 a3 hl
  have e3 : dEq (.int 3) (.int 3) = some (.bool true) := by simp
  simp [-dEq, -dIn, e3, hl, a1, a2, a3, he, i1, sl_fig, i2]
theorem smT_split {s : List (Nat × Int)} (h : ∀ q ∈ s, Pr q) (hne : s ≠ []) : Txt.split (smT s) blk = s.map pT := split_blk (by simpa using hne) fun p hp => by
  obtain ⟨q, hq, rfl⟩ := List.mem_map.mp hp
  rw [tl_pT (h q hq)]
  have := h q hq
  simp
  omega
theorem smT_ne {s : List (Nat × Int)} (h : ∀ q ∈ s, Pr q) (hne : s ≠ []) : smT s ≠ emp := fun e => by
  have h1 := smT_split h hne
  rw [e] at h1
  cases s with
  | nil => exact hne rfl
  | cons q r =>
    have h2 : Txt.split emp blk = [emp] := by decide +kernel
    rw [h2] at h1
    have := (List.cons.inj h1).1
    have l := pT_len (h q (by simp))
    rw [← this] at l
    exact absurd l (by decide +kernel)
theorem joinL_mem {S : List Nat} {c : Nat} : ∀ {ps : List (List Nat)}, c ∈ joinL S ps → c ∈ S ∨ ∃ p ∈ ps, c ∈ p
  | [], h => by cases h
  | [p], h => .inr ⟨p, by simp, h⟩
  | p :: q :: r, h => by
    have h : c ∈ p ++ (S ++ joinL S (q :: r)) := h
    rcases List.mem_append.mp h with h | h
    · exact .inr ⟨p, by simp, h⟩
    · rcases List.mem_append.mp h with h | h
      · exact .inl h
      · rcases joinL_mem h with h | ⟨z, hz, h⟩
        · exact .inl h
        · exact .inr ⟨z, List.mem_cons_of_mem _ hz, h⟩
theorem strOk_join {ps : List Str} (h : ∀ p ∈ ps, ∀ c ∈ tl p, c < 128) : PySem.PyData.strOk (Txt.join blk ps) = true := by
  unfold PySem.PyData.strOk
  rw [← Array.all_toList, List.all_eq_true]
  intro c hc
  have hc : c ∈ tl (Txt.join blk ps) := hc
  rw [join_eq, tl_join] at hc
  refine decide_eq_true ?_
  rcases joinL_mem hc with h1 | ⟨z, hz, h1⟩
  · have h1 : c ∈ [32] := h1
    rcases List.mem_singleton.mp h1 with rfl
    decide
  · obtain ⟨p, hp, rfl⟩ := List.mem_map.mp hz
    have := h p hp c h1
    omega
theorem tl_dgs {r : List Int} (h : Dgs r) : ∀ c ∈ tl (rwS r), c < 128 := fun c hc => by
  rw [tl_rwS h] at hc
  obtain ⟨x, hx, rfl⟩ := List.mem_map.mp hc
  have := h x hx
  omega
theorem shT_ok {k : Int} {n : Nat} {rows : List (List Int)} (h : Asc k n rows) : PySem.PyData.strOk (shT k rows) = true := strOk_join fun p hp c hc => by
  have k2 := h.shf.k2
  rcases List.mem_cons.mp hp with rfl | hp
  · rw [tl_dg (by omega) (by omega)] at hc
    rcases List.mem_singleton.mp hc with rfl
    omega
  · obtain ⟨r, hr, rfl⟩ := List.mem_map.mp hp
    exact tl_dgs (digs k2 (h.shf.row r hr)) c hc
theorem smT_ok {s : List (Nat × Int)} (h : ∀ q ∈ s, Pr q) : PySem.PyData.strOk (smT s) = true := strOk_join fun p hp c hc => by
  obtain ⟨q, hq, rfl⟩ := List.mem_map.mp hp
  have hp := h q hq
  rw [tl_pT hp] at hc
  simp only [List.mem_cons, List.not_mem_nil, or_false] at hc
  omega
theorem read_sample_eq (M : MH) {s : List (Nat × Int)} (h : ∀ q ∈ s, Pr q) (hl : s.length ≤ 60) : fn_read_sample [.dat (.str (smT s))] M = .ok (.v (.dat (.tuple (smD s)))) M := by
  refine Ok.eq (go_read_sample ?_)
  unfold tm_read_sample
  have hne := dNe_text (a := smT s) (b := emp) (smT_ok h) (by decide +kernel)
  have hT : (smT s).length ≤ 16777214 := by
    have := join_len (ys := s.map pT) (m := 3) fun y hy => by
      obtain ⟨q, hq, rfl⟩ := List.mem_map.mp hy
      rw [pT_len (h q hq)]
      exact Nat.le_refl _
    rw [List.length_map] at this
    unfold smT
    omega
  have hbl : (PySem.Str.ofString " ").length = 1 := rfl
  refine Rs.iff0 M (by simp) ?_
  ((first | with_reducible refine Rs.go (fun zP hzP => ?_) | with_reducible refine Rs.gos (fun zP hzP => ?_) | with_reducible refine Nx.go (fun zP hzP => ?_)); simp [-List.map_map]; refine hzP _ _ ?_; clear hzP zP)
  refine Rs.for_ (ds := enD 0 (s.map fun q => PyData.str (pT q))) (M1 := M) (fun i st M' => ∃ a b, st = [(some (Sl.v (Val.dat (.str (smT s))))), (some (Sl.own ((s.take i).map prD))), a, b] ∧ M' = M) ?_ ⟨none, none, rfl, rfl⟩ ?_ ?_
  · by_cases he : s = []
    · subst he
      have hn : dNe (.str (smT [])) (.str emp) = some (.bool false) := by rw [hne]; rfl
      generalize smT [] = T at hn
      simp [-dNe, hn]
    · have hsp := smT_split h he
      have hn : dNe (.str (smT s)) (.str emp) = some (.bool true) := by rw [hne, decide_eq_false (smT_ne h he)]; rfl
      have hen : (s.map fun q => PyData.str (pT q)) = (s.map pT).map .str := by rw [List.map_map]; rfl
      rw [hen]
      generalize s.map pT = S at hsp
      generalize smT s = T at hn hsp hT
      simp [-dNe, hn, hsp, hT, hbl]
  · rintro i d st M' hd ⟨a, b, rfl, rfl⟩
    rw [enD_get, List.getElem?_map] at hd
    cases hg : s[i]? with
    | none => rw [hg] at hd; simp at hd
    | some q =>
      rw [hg] at hd
      simp at hd
      subst hd
      have hi := (List.getElem?_eq_some_iff.mp hg).1
      have hq := h q (List.mem_of_getElem? hg)
      have ee := is_pair_eq M' hq
      have j1 : ¬ (i : Int) = 60 := by omega
      have j2 : ¬ i = 60 := by omega
      have htk : s.take (i + 1) = s.take i ++ [q] := by rw [List.take_add_one, hg]; rfl
      obtain ⟨a1, a2, a3⟩ := pT_at hq
      have b1 := intText_dg (x := (q.1 : Int)) (by omega) (by omega)
      have b2 := intText_dg (x := q.2) (by omega) (by omega)
      have htl : ((s.take i).map prD).length ≤ 60 := by
        rw [List.length_map, List.length_take]
        omega
      refine Nx.by_ (st := [(some (Sl.v (Val.dat (.str (smT s))))), (some (Sl.own ((s.take (i + 1)).map prD))), (some (Sl.v (Val.dat (PyData.int i)))), (some (Sl.v (Val.dat (.str (pT q)))))]) ⟨_, _, rfl, rfl⟩ ?_
      rw [htk, List.map_append]
      generalize (s.take i).map prD = R at htl
      generalize smT s = T
      generalize pT q = U at ee a1 a3
      simp [ee, j1, j2, a1, a3, b1, b2, show R.length < 16777216 by omega]
  · rintro st M' ⟨a, b, rfl, rfl⟩
    have : (enD 0 (s.map fun q => PyData.str (pT q))).length = s.length := by rw [enD_length, List.length_map]
    rw [this, List.take_length]
    have e : smD s = s.map prD := rfl
    rw [e]
    generalize s.map prD = S
    exact Rs.rt ⟨rfl, rfl⟩ (by simp)
end K06

set_option Elab.async false
set_option linter.all false
set_option maxRecDepth 100000
set_option maxHeartbeats 4000000
namespace K06
open PySem PySem.Spec PyProof.Rows L2 Mn

theorem cutD_neg {α : Type} (ds : List α) (m : Nat) (hm : 0 < m) : Mn.cutD ds (some (-(m : Int))) none = ds.drop (ds.length - m) := by
  unfold Mn.cutD
  rw [HT.sIx_none]
  have e : HT.sIx ds.length 0 (some (-(m : Int))) = ds.length - m := by
    show (if (-(m : Int)) < 0 then ((-(m : Int)) + (ds.length : Int)).toNat else min (-(m : Int)).toNat ds.length) = _
    rw [if_pos (by omega)]
    omega
  rw [e, List.take_of_length_le (by rw [List.length_drop]; omega)]
theorem cutD_mid {α : Type} (ds : List α) (a b : Nat) (h : b ≤ ds.length) : Mn.cutD ds (some (a : Int)) (some (b : Int)) = (ds.drop a).take (b - a) := by
  unfold Mn.cutD
  rw [HT.sIx_nat, HT.sIx_nat]
  by_cases ha : a ≤ ds.length
  · rw [Nat.min_eq_left ha, Nat.min_eq_left h]
  · rw [Nat.min_eq_left h, Nat.min_eq_right (show ds.length ≤ a by omega), List.drop_eq_nil_of_le (Nat.le_refl _), List.drop_eq_nil_of_le (show ds.length ≤ a by omega)]
    simp
/-- a row's number -/
def numR (k : Int) (r : List Int) : Int := r.foldl (fun a x => a * k + x) 0
theorem numR_snoc (k : Int) (r : List Int) (x : Int) : numR k (r ++ [x]) = numR k r * k + x := by simp [numR]
theorem numR_row {k : Int} (hk : 0 < k) : ∀ (n : Nat) (r : List Int), r.length = n → (∀ x ∈ r, 0 ≤ x ∧ x < k) → 0 ≤ numR k r ∧ numR k r < k ^ n ∧ rowI k n (numR k r) = r
  | 0, r, h, _ => by
    rw [List.length_eq_zero_iff.mp h]
    exact ⟨by simp [numR], by simp [numR], rfl⟩
  | n + 1, r, h, hx => by
    have hne : r ≠ [] := fun e => by rw [e] at h; cases h
    obtain ⟨q, x, rfl⟩ : ∃ q x, r = q ++ [x] := ⟨r.dropLast, r.getLast hne, (List.dropLast_concat_getLast hne).symm⟩
    have hq : q.length = n := by simpa using h
    have hxx := hx x (by simp)
    obtain ⟨h1, h2, h3⟩ := numR_row hk n q hq fun y hy => hx y (by simp [hy])
    rw [numR_snoc, rowI_succ]
    have d : (numR k q * k + x) / k = numR k q := by
      rw [Int.add_comm, Int.add_mul_ediv_right _ _ (by omega), Int.ediv_eq_zero_of_lt hxx.1 hxx.2, Int.zero_add]
    have m : (numR k q * k + x) % k = x := by
      rw [Int.add_comm, Int.add_mul_emod_self_right, Int.emod_eq_of_lt hxx.1 hxx.2]
    rw [d, m, h3]
    refine ⟨Int.add_nonneg (Int.mul_nonneg h1 (by omega)) hxx.1, ?_, rfl⟩
    rw [Int.pow_succ]
    have : (numR k q + 1) * k ≤ k ^ n * k := Int.mul_le_mul_of_nonneg_right (by omega) (by omega)
    rw [Int.add_mul] at this
    omega
theorem nums_cds {k : Int} {n : Nat} {rows : List (List Int)} (h : Asc k n rows) : Cds k n (rows.map (numR k)) := by
  have k2 := h.shf.k2
  have one := fun r (hr : r ∈ rows) => numR_row (k := k) (by omega) n r (h.shf.row r hr).1 (h.shf.row r hr).2
  refine ⟨?_, fun c hc => ?_⟩
  · rw [List.nodup_iff_pairwise_ne, List.pairwise_map]
    refine (List.nodup_iff_pairwise_ne.mp h.shf.nd).imp_of_mem fun {a b} ha hb hab e => hab ?_
    rw [← (one a ha).2.2, ← (one b hb).2.2, e]
  · obtain ⟨r, hr, rfl⟩ := List.mem_map.mp hc
    exact ⟨(one r hr).1, (one r hr).2.1⟩
theorem numbers_eq (M : MH) {k : Int} {n : Nat} {rows : List (List Int)} (h : Asc k n rows) : fn__law_numbers [.dat (shD k rows)] M = .ok (.own (iDs (rows.map (numR k)))) M := by
  refine Ok.eq (go__law_numbers ?_)
  unfold tm__law_numbers
  have k2 := h.shf.k2
  have hl := h.shf.len
  have n6 := h.shf.n6
  have pk := pow_small (k := k) (n := n) k2 n6
  have e1 := at1_sh0 k rows
  have e2 := at1_sh1 k rows
  ((first | with_reducible refine Rs.go (fun zP hzP => ?_) | with_reducible refine Rs.gos (fun zP hzP => ?_) | with_reducible refine Nx.go (fun zP hzP => ?_)); simp [-List.map_map]; refine hzP _ _ ?_; clear hzP zP)
  refine Rs.forA (ds := rows.map rwD) (M1 := M) (v := .dat (.tuple (rows.map rwD))) (fun i st M' => ∃ a b c, st = [(some (Sl.v (Val.dat (shD k rows)))), (some (Sl.own (iDs ((rows.take i).map (numR k))))), a, b, c] ∧ M' = M) (.inr rfl) ?_ ⟨none, none, none, rfl, rfl⟩ ?_ ?_
  · generalize rows.map rwD = R at e2
    generalize shD k rows = S at e2
    simp [e2]
  · rintro i d st M' hd ⟨a, b, c, rfl, rfl⟩
    rw [List.getElem?_map] at hd
    obtain ⟨r, hr, rfl⟩ := Option.map_eq_some_iff.mp hd
    have hrow := h.shf.row r (List.mem_of_getElem? hr)
    have htk : rows.take (i + 1) = rows.take i ++ [r] := by rw [List.take_add_one, hr]; rfl
    have hL : ((rows.take i).map (numR k)).length ≤ 32 := by
      rw [List.length_map, List.length_take]
      omega
    rw [w_tgN, ob_some]
    rw [htk, List.map_append, List.map_singleton]
    generalize (rows.take i).map (numR k) = C at hL
    generalize shD k rows = S at e1
    ((first | with_reducible refine Rs.go (fun zP hzP => ?_) | with_reducible refine Rs.gos (fun zP hzP => ?_) | with_reducible refine Nx.go (fun zP hzP => ?_)); simp [-List.map_map]; refine hzP _ _ ?_; clear hzP zP)
    refine Nx_seqQ (fun st M'' => (∃ c, st = [(some (Sl.v (Val.dat S))), (some (Sl.own (iDs C))), (some (Sl.v (Val.dat (rwD r)))), (some (Sl.v (Val.dat (PyData.int (numR k r))))), c]) ∧ M'' = M') ?_ ?_
    · refine Nx.opq fun Q hQ => ?_
      rw [w_fora]
      simp only [w_var, List.getElem?_cons_succ, List.getElem?_cons_zero, ot_ok]
      unfold rwD
      rw [foA_tuple]
      refine Nx_fo (fun j st M'' => (∃ c, st = [(some (Sl.v (Val.dat S))), (some (Sl.own (iDs C))), (some (Sl.v (Val.dat (.tuple (iDs r))))), (some (Sl.v (Val.dat (PyData.int (numR k (r.take j)))))), c]) ∧ M'' = M') ⟨⟨_, rfl⟩, rfl⟩ ?_ ?_
      · rintro j d st M'' hd ⟨⟨c, rfl⟩, rfl⟩
        rw [iDs_get?] at hd
        obtain ⟨x, hx, rfl⟩ := Option.map_eq_some_iff.mp hd
        have hxx := hrow.2 x (List.mem_of_getElem? hx)
        have htx : r.take (j + 1) = r.take j ++ [x] := by rw [List.take_add_one, hx]; rfl
        have hs := numR_snoc k (r.take j) x
        refine Nx.by_ ⟨⟨(some (Sl.v (Val.dat (PyData.int x)))), rfl⟩, rfl⟩ ?_
        rw [htx, hs]
        simp [e1, show -18446744073709551616 < k by omega, show k < 18446744073709551616 by omega]
      · rintro st M'' ⟨⟨c, rfl⟩, rfl⟩
        rw [iDs_length, List.take_length]
        exact hQ _ _ ⟨⟨_, rfl⟩, rfl⟩
    · rintro st M'' ⟨⟨c, rfl⟩, rfl⟩
      refine Nx.by_ ⟨(some (Sl.v (Val.dat (rwD r)))), (some (Sl.v (Val.dat (PyData.int (numR k r))))), c, rfl, rfl⟩ ?_
      simp [iDs_append, show C.length < 16777216 by omega]
  · rintro st M' ⟨a, b, c, rfl, rfl⟩
    rw [List.length_map, List.take_length]
    exact Rs.by_ (st := [(some (Sl.v (Val.dat (shD k rows)))), (some (Sl.own (iDs (rows.map (numR k))))), a, b, c]) ⟨rfl, rfl⟩ (by generalize shD k rows = S; simp)
end K06

set_option Elab.async false
set_option linter.all false
set_option maxRecDepth 100000
set_option maxHeartbeats 4000000
namespace K06
open PySem PySem.Spec PyProof.Rows L2 Mn

abbrev shp (p : Int × List (List Int)) : PyData := shD p.1 p.2
abbrev AscL (L : List (Int × List (List Int))) : Prop := ∀ p ∈ L, ∃ n, Asc p.1 n p.2
theorem AscL.app {L : List (Int × List (List Int))} (h : AscL L) {k : Int} {n : Nat} {rows : List (List Int)} (ha : Asc k n rows) : AscL (L ++ [(k, rows)]) := fun p hp => by
  rcases List.mem_append.mp hp with hp | hp
  · exact h p hp
  · rcases List.mem_singleton.mp hp with rfl
    exact ⟨n, ha⟩
abbrev Sn (k : Int) (n p : Nat) (rows : List (List Int)) (cs : List Int) (L : List (Int × List (List Int))) (a b : Option Sl) : MSt := [(some (Sl.v (Val.loc 1))), (some (Sl.v (Val.dat (shD k rows)))), (some (Sl.v (Val.dat (PyData.int k)))), (some (Sl.v (Val.dat (.tuple (rows.map rwD))))), (some (Sl.v (Val.dat (PyData.int n)))), (some (Sl.own (iDs cs))), (some (Sl.v (Val.dat (PyData.int p)))), (some (Sl.own (L.map shp))), a, b]
theorem app_sn {k : Int} {n p : Nat} {rows : List (List Int)} {cs : List Int} {L : List (Int × List (List Int))} {a b : Option Sl} {f : Ex Val} {M M' : MH} {q : Int × List (List Int)} (hl : L.length ≤ 100) (he : f (Sn k n p rows cs L a b) M = .ok (.dat (shp q)) M') :
    tmApp 7 f (Sn k n p rows cs L a b) M = some (.nx, Sn k n p rows cs (L ++ [q]) a b, M') := by
  have e : (L ++ [q]).map shp = L.map shp ++ [shp q] := by simp
  have hl2 : (L.map shp).length < 16777216 := by rw [List.length_map]; omega
  unfold Sn at he ⊢
  rw [e]
  generalize L.map shp = D at he hl2
  generalize shp q = s at he
  generalize shD k rows = S at he
  generalize rows.map rwD = R at he
  simp [he, hl2]
theorem near_ok {M : MH} (hb : Bag M) {k : Int} {n : Nat} {rows : List (List Int)} (h : Asc k n rows) : Ok (fn__law_near_shelves [.loc 1, .dat (shD k rows)] M) fun v M' => (∃ L, v = .own (L.map shp) ∧ AscL L ∧ L.length ≤ 9) ∧ Kp M M' := by
  apply go__law_near_shelves
  unfold tm__law_near_shelves
  have k2 := h.shf.k2
  have hl := h.shf.len
  have n1 := h.shf.n1
  have n6 := h.shf.n6
  have pk := pow_small (k := k) (n := n) k2 n6
  have hpos := List.length_pos_iff.mpr h.shf.ne
  have e1 := at1_sh0 k rows
  have e2 := at1_sh1 k rows
  obtain ⟨r0, hr0⟩ : ∃ r0, rows[0]? = some r0 := ⟨rows[0], List.getElem?_eq_getElem hpos⟩
  have hr0l := (h.shf.row r0 (List.mem_of_getElem? hr0)).1
  have hix : atI (rows.map rwD) 0 = some (rwD r0) := by
    rw [atI_pos _ (by omega), List.getElem?_map]
    show Option.map rwD rows[0]? = _
    rw [hr0]
    rfl
  have hnum := numbers_eq M h
  have hcd := nums_cds h
  have hcl : (rows.map (numR k)).length = rows.length := by simp
  generalize rows.map (numR k) = cs at hnum hcd hcl
  have hRl : (rows.map rwD).length = rows.length := by simp
  refine Rs.seq [(some (Sl.v (Val.loc 1))), (some (Sl.v (Val.dat (shD k rows)))), (some (Sl.v (Val.dat (PyData.int k)))), (some (Sl.v (Val.dat (.tuple (rows.map rwD))))), (some (Sl.v (Val.dat (PyData.int n)))), (some (Sl.own (iDs cs))), none, none, none, none] M ?_ ?_
  · generalize shD k rows = S at e1 e2 hnum
    generalize rows.map rwD = R at e2 hix
    simp [-gLen, e1, e2, hix, gLen_rw, hr0l, hnum]
  obtain ⟨v, M1, d1, ⟨p, rfl, p0, p1⟩, k1, l1⟩ := (law_draw_ok hb (below := (rows.length : Int)) (by omega) (by omega)).ex
  obtain ⟨p, rfl⟩ := nat_of p0
  refine Rs.seq (Sn k n p rows cs [(k, rows), (k, rows.take 1), (k, rows.drop (rows.length - 1))] none none) M1 ?_ ?_
  · have c1 : Mn.cutD (rows.map rwD) (some (-1)) none = (rows.map rwD).drop (rows.length - 1) := by
      have := cutD_neg (rows.map rwD) 1 (by decide)
      rw [hRl] at this
      exact this
    unfold Sn
    have c2 : [(k, rows), (k, rows.take 1), (k, rows.drop (rows.length - 1))].map shp = [shD k rows, .tuple [.int k, .tuple ((rows.map rwD).take 1)], .tuple [.int k, .tuple ((rows.map rwD).drop (rows.length - 1))]] := by
      simp [shp, shD, List.map_take, List.map_drop]
    rw [c2]
    generalize shD k rows = S
    generalize rows.map rwD = R at c1 hRl
    simp [-List.map_take, -List.map_drop, hRl, d1, c1]
  have A0 : AscL [(k, rows), (k, rows.take 1), (k, rows.drop (rows.length - 1))] := fun q hq => by
    simp only [List.mem_cons, List.not_mem_nil, or_false] at hq
    rcases hq with rfl | rfl | rfl
    · exact ⟨n, h⟩
    · refine ⟨n, h.sub (List.take_sublist _ _) fun e => ?_⟩
      have := congrArg List.length e
      rw [List.length_take, List.length_nil] at this
      omega
    · refine ⟨n, h.sub (List.drop_sublist _ _) fun e => ?_⟩
      have := congrArg List.length e
      rw [List.length_drop, List.length_nil] at this
      omega
  refine Rs_seqQ (fun st M' => ∃ L, st = Sn k n p rows cs L none none ∧ AscL L ∧ L.length ≤ 4 ∧ M' = M1) ?_ ?_
  · by_cases hk : k = 2
    · subst hk
      refine Nx.tif true M1 (by simp) (fun _ => ?_) (fun h => by cases h)
      refine Nx.by_ ⟨_, rfl, A0.app h.three, by simp, rfl⟩ (app_sn (by simp) (by
        show _ = Out.ok (Val.dat (.tuple [.int 3, .tuple (rows.map rwD)])) M1
        unfold Sn
        generalize List.map shp _ = D
        generalize rows.map rwD = R
        simp))
    · refine Nx.tif false M1 (by simp [hk]) (fun h => by cases h) (fun _ => ?_)
      exact Nx.by_ ⟨_, rfl, A0, by simp, rfl⟩ rfl
  clear A0
  rintro st M' ⟨L, rfl, hL, hLl, rfl⟩
  have hers : (rows.map rwD).take p ++ (rows.map rwD).drop (p + 1) = (rows.eraseIdx p).map rwD := by
    rw [List.eraseIdx_eq_take_drop_succ, List.map_append, List.map_take, List.map_drop]
  have hp1 : (p : Int) + 1 = ((p + 1 : Nat) : Int) := by omega
  have sp1 : ∀ ds : List PyData, Mn.cutD ds none (some (p : Int)) = ds.take p := fun ds => cutD_hi ds p
  have sp2 : ∀ ds : List PyData, Mn.cutD ds (some ((p : Int) + 1)) none = ds.drop (p + 1) := fun ds => by rw [hp1]; exact cutD_lo ds (p + 1)
  refine Rs_seqQ (fun st M2 => ∃ L, st = Sn k n p rows cs L none none ∧ AscL L ∧ L.length ≤ 5 ∧ M2 = M') ?_ ?_
  · by_cases hk : 1 < rows.length
    · have hk' : (1 : Int) < rows.length := by omega
      refine Nx.tif true M' (by unfold Sn; generalize rows.map rwD = R at hRl; generalize L.map shp = D; simp [hRl, hk, hk']) (fun _ => ?_) (fun h => by cases h)
      have ha : Asc k n (rows.eraseIdx p) := h.sub (List.eraseIdx_sublist _ _) fun e => by
        have := congrArg List.length e
        rw [List.length_eraseIdx] at this
        split at this <;> simp at this <;> omega
      refine Nx.by_ ⟨_, rfl, hL.app ha, by simp; omega, rfl⟩ (app_sn (by omega) ?_)
      show _ = Out.ok (Val.dat (.tuple [.int k, .tuple ((rows.eraseIdx p).map rwD)])) M'
      rw [← hers]
      unfold Sn
      have hs : ((rows.map rwD).take p).length + ((rows.map rwD).drop (p + 1)).length ≤ 16777216 := by
        rw [List.length_take, List.length_drop, hRl]
        omega
      generalize rows.map rwD = R at hs
      generalize L.map shp = D
      rw [List.length_take, List.length_drop] at hs
      simp [sp1, sp2, hs]
    · have hk' : ¬ (1 : Int) < rows.length := by omega
      refine Nx.tif false M' (by unfold Sn; generalize rows.map rwD = R at hRl; generalize L.map shp = D; simp [hRl, hk, hk']) (fun h => by cases h) (fun _ => ?_)
      exact Nx.by_ ⟨_, rfl, hL, by omega, rfl⟩ rfl
  clear hL hLl L
  rintro st M' ⟨L, rfl, hL, hLl, rfl⟩
  obtain ⟨v, M2, d2, ⟨w, rfl, w0, w1⟩, k3, l3⟩ := (law_draw_ok k1.bag (below := k ^ n) (by omega) (by omega)).ex
  have hpow := law_power_eq k n (by omega) (by omega) (by omega) M'
  refine Rs.seq (Sn k n p rows cs L (some (Sl.v (Val.dat (PyData.int w)))) none) M2 ?_ ?_
  · unfold Sn
    generalize L.map shp = D
    generalize shD k rows = S
    generalize rows.map rwD = R
    simp [hpow, d2]
  have kp2 := k1.trans k3
  refine Rs_seqQ (fun st M3 => ∃ L, st = Sn k n p rows cs L (some (Sl.v (Val.dat (PyData.int w)))) none ∧ AscL L ∧ L.length ≤ 7 ∧ M3 = M2) ?_ ?_
  · by_cases hw : w ∈ cs
    · refine Nx.tif false M2 (by unfold Sn; generalize rows.map rwD = R; generalize L.map shp = D; simp [hw]) (fun h => by cases h) (fun _ => ?_)
      exact Nx.by_ ⟨_, rfl, hL, by omega, rfl⟩ rfl
    · refine Nx.tif true M2 (by unfold Sn; generalize rows.map rwD = R; generalize L.map shp = D; simp [hw]) (fun _ => ?_) (fun h => by cases h)
      have hc1 : Cds k n (cs.eraseIdx p ++ [w]) := (hcd.erase p).snoc (fun hm => hw ((List.eraseIdx_sublist _ _).subset hm)) w0 w1
      have hel : (cs.eraseIdx p).length + 1 = cs.length := by rw [List.length_eraseIdx, if_pos (by omega)]; omega
      have ha1 := hc1.asc k2 n1 n6 (by simp) (by simp; omega)
      have r1 := law_rows_of_dat (k := k) (n := n) (by omega) (by omega) (by omega) (M := M2) (cs := cs.eraseIdx p ++ [w]) (by simp; omega)
      have hce : (iDs cs).take p ++ (iDs cs).drop (p + 1) ++ [.int w] = iDs (cs.eraseIdx p ++ [w]) := by
        rw [List.eraseIdx_eq_take_drop_succ, iDs_append, iDs_append, iDs_take, iDs_drop]
        rfl
      refine Nx_seqQ (fun st M3 => ∃ L, st = Sn k n p rows cs L (some (Sl.v (Val.dat (PyData.int w)))) none ∧ AscL L ∧ L.length ≤ 6 ∧ M3 = M2) ?_ ?_
      · refine Nx.frzv ?_
        refine Nx.by_ ⟨_, rfl, hL.app ha1, by simp; omega, rfl⟩ (app_sn (by omega) ?_)
        show _ = Out.ok (Val.dat (.tuple [.int k, .tuple (((sortI (cs.eraseIdx p ++ [w])).map (rowI k n)).map rwD)])) M2
        rw [← hce, List.append_assoc] at r1
        unfold Sn
        have hs : ((iDs cs).take p).length + ((iDs cs).drop (p + 1)).length + 1 ≤ 16777216 := by
          rw [List.length_take, List.length_drop, iDs_length]
          omega
        generalize (((sortI (cs.eraseIdx p ++ [w])).map (rowI k n)).map rwD) = Z at r1
        generalize iDs cs = C at hs r1
        generalize L.map shp = D
        generalize rows.map rwD = R
        rw [List.length_take, List.length_drop] at hs
        simp [sp1, sp2, show min p C.length + (C.length - (p + 1)) ≤ 16777216 by omega, hs, r1]
      · rintro st M3 ⟨L, rfl, hL, hLl, rfl⟩
        by_cases hk : cs.length < 32
        · have hk' : (cs.length : Int) < 32 := by omega
          refine Nx.tif true M3 (by unfold Sn; generalize rows.map rwD = R; generalize L.map shp = D; simp [hk, hk']) (fun _ => ?_) (fun h => by cases h)
          have hc2 : Cds k n (cs ++ [w]) := hcd.snoc hw w0 w1
          have ha2 := hc2.asc k2 n1 n6 (by simp) (by simp; omega)
          have r2 := law_rows_of_dat (k := k) (n := n) (by omega) (by omega) (by omega) (M := M3) (cs := cs ++ [w]) (by simp; omega)
          have hce : iDs cs ++ [.int w] = iDs (cs ++ [w]) := by rw [iDs_append]; rfl
          refine Nx.frzv ?_
          refine Nx.by_ ⟨_, rfl, hL.app ha2, by simp; omega, rfl⟩ (app_sn (by omega) ?_)
          show _ = Out.ok (Val.dat (.tuple [.int k, .tuple (((sortI (cs ++ [w])).map (rowI k n)).map rwD)])) M3
          rw [← hce] at r2
          unfold Sn
          have hs : (iDs cs).length + 1 ≤ 16777216 := by
            rw [iDs_length]
            omega
          generalize (((sortI (cs ++ [w])).map (rowI k n)).map rwD) = Z at r2
          generalize iDs cs = C at hs r2
          generalize L.map shp = D
          generalize rows.map rwD = R
          simp [hs, r2]
        · have hk' : ¬ (cs.length : Int) < 32 := by omega
          refine Nx.tif false M3 (by unfold Sn; generalize rows.map rwD = R; generalize L.map shp = D; simp [hk, hk']) (fun h => by cases h) (fun _ => ?_)
          exact Nx.by_ ⟨_, rfl, hL, by omega, rfl⟩ rfl
  clear hL hLl L
  rintro st M3 ⟨L, rfl, hL, hLl, rfl⟩
  obtain ⟨v, M4, d4, ⟨x, rfl, x0, x1⟩, k4, l4⟩ := (law_draw_ok kp2.bag (below := 4) (by omega) (by omega)).ex
  obtain ⟨x, rfl⟩ := nat_of x0
  obtain ⟨v, M5, d5, cs5, rfl, k5, hc5, ne5, l5⟩ := (law_drawn_ok k4.bag (k := 2) (n := n) (m := 1 + x) (.inl rfl) n6 (by omega) (by omega)).ex
  have ha5 := hc5.asc (.inl rfl) n1 n6 ne5 (by omega)
  have r5 := law_rows_of_dat (k := 2) (n := n) (by omega) (by omega) (by omega) (M := M5) (cs := cs5) (by omega)
  have hx1 : (1 : Int) + (x : Int) = ((1 + x : Nat) : Int) := by omega
  refine Rs.seq (Sn k n p rows cs (L ++ [(2, (sortI cs5).map (rowI 2 n))]) (some (Sl.v (Val.dat (PyData.int w)))) none) M5 (app_sn (by omega) ?_) ?_
  · show _ = Out.ok (Val.dat (.tuple [.int 2, .tuple (((sortI cs5).map (rowI 2 n)).map rwD)])) M5
    unfold Sn
    generalize (((sortI cs5).map (rowI 2 n)).map rwD) = Z at r5
    generalize L.map shp = D
    generalize rows.map rwD = R
    simp [d4, hx1, -Int.natCast_add, d5, r5]
  have hL := hL.app ha5
  have hLl : (L ++ [(2, (sortI cs5).map (rowI 2 n))]).length ≤ 8 := by simp; omega
  generalize L ++ [(2, (sortI cs5).map (rowI 2 n))] = L at hL hLl
  have kp5 := (kp2.trans k4).trans k5
  obtain ⟨v, M6, d6, ⟨y, rfl, y0, y1⟩, k6, l6⟩ := (law_draw_ok k5.bag (below := 4) (by omega) (by omega)).ex
  by_cases hy : y = 0
  · subst hy
    obtain ⟨v, M7, d7, ⟨z, rfl, z0, z1⟩, k7, l7⟩ := (law_draw_ok k6.bag (below := 2) (by omega) (by omega)).ex
    obtain ⟨o, ho⟩ : ∃ o, o = 2 + z := ⟨_, rfl⟩
    have o2 : o = 2 ∨ o = 3 := by omega
    obtain ⟨v, M8, d8, cs8, rfl, k8, hc8, ne8, l8⟩ := (law_drawn_ok k7.bag (k := o) (n := 6) (m := 32) o2 (by omega) (by omega) (by omega)).ex
    have ha8 := hc8.asc o2 (by omega) (by omega) ne8 (by omega)
    have r8 := law_rows_of_dat (k := o) (n := 6) (by omega) (by omega) (by omega) (M := M8) (cs := cs8) (by omega)
    have e66 : ((6 : Nat) : Int) = 6 := rfl
    have e32 : ((32 : Nat) : Int) = 32 := rfl
    rw [e66, e32] at d8
    rw [e66] at r8
    refine Rs_seqQ (fun st M3 => ∃ L, st = Sn k n p rows cs L (some (Sl.v (Val.dat (PyData.int w)))) (some (Sl.v (Val.dat (PyData.int o)))) ∧ AscL L ∧ L.length ≤ 9 ∧ M3 = M8) ?_ ?_
    · refine Nx.tif true M6 (by unfold Sn; generalize rows.map rwD = R; generalize L.map shp = D; simp [d6]) (fun _ => ?_) (fun h => by cases h)
      refine Nx.seq (Sn k n p rows cs L (some (Sl.v (Val.dat (PyData.int w)))) (some (Sl.v (Val.dat (PyData.int o))))) M7 (by unfold Sn; generalize rows.map rwD = R; generalize L.map shp = D; simp [d7, ho]) ?_
      refine Nx.frzv ?_
      refine Nx.by_ ⟨_, rfl, hL.app ha8, by simp; omega, rfl⟩ (app_sn (by omega) ?_)
      show _ = Out.ok (Val.dat (.tuple [.int o, .tuple (((sortI cs8).map (rowI o 6)).map rwD)])) M8
      unfold Sn
      generalize (((sortI cs8).map (rowI o 6)).map rwD) = Z at r8
      generalize L.map shp = D
      generalize rows.map rwD = R
      simp [d8, r8]
    · rintro st M9 ⟨L, rfl, hL, hLl, rfl⟩
      exact Rs.by_ (st := Sn k n p rows cs L (some (Sl.v (Val.dat (PyData.int w)))) (some (Sl.v (Val.dat (PyData.int o))))) ⟨⟨L, rfl, hL, hLl⟩, ((kp5.trans k6).trans k7).trans k8⟩ (by unfold Sn; generalize rows.map rwD = R; generalize L.map shp = D; simp)
  · refine Rs.iff0 M6 (by unfold Sn; generalize rows.map rwD = R; generalize L.map shp = D; simp [d6, hy]) ?_
    exact Rs.by_ (st := Sn k n p rows cs L (some (Sl.v (Val.dat (PyData.int w)))) none) ⟨⟨L, rfl, hL, by omega⟩, kp5.trans k6⟩ (by unfold Sn; generalize rows.map rwD = R; generalize L.map shp = D; simp)
end K06

set_option Elab.async false
set_option linter.all false
set_option maxRecDepth 100000
set_option maxHeartbeats 4000000
namespace K06
open PySem PySem.Spec PyProof.Rows L2 Mn

abbrev smp (s : List (Nat × Int)) : PyData := .tuple (smD s)
abbrev SmL (T : List (List (Nat × Int))) : Prop := ∀ s ∈ T, (∀ q ∈ s, Pr q) ∧ s.length ≤ 60
theorem smD_app (s t : List (Nat × Int)) : smD s ++ smD t = smD (s ++ t) := by simp [smD]
theorem smD_drop (s : List (Nat × Int)) (a : Nat) : (smD s).drop a = smD (s.drop a) := by simp [smD, List.map_drop]
theorem mulE_sm (t : List (Nat × Int)) (m : Nat) (h1 : 1 ≤ m) (h2 : m ≤ 1000) (hl : t.length ≤ 1000) : dMulE (.tuple (smD t)) (.int m) = some (.v (.dat (.tuple (smD (List.replicate m t).flatten)))) := by
  cases t with
  | nil =>
    have e : (List.replicate m ([] : List (Nat × Int))).flatten = [] := by simp
    rw [e]
    show (if 1 ≤ (m : Int) ∧ (m : Int) ≤ 1000 then some (Sl.v (.dat (.tuple []))) else none) = _
    rw [if_pos (by omega)]
    rfl
  | cons q r =>
    have e : dMulE (.tuple (smD (q :: r))) (.int m) = dMul (.tuple (smD (q :: r))) (.int m) := rfl
    rw [e]
    show (if (m : Int) = 1 then some (Sl.v (.dat (.tuple (smD (q :: r))))) else if smD (q :: r) ≠ [] ∧ 2 ≤ (m : Int) ∧ (m : Int) ≤ 1000 ∧ (smD (q :: r)).length ≤ 1000 then some (Sl.v (.dat (.tuple (List.replicate (m : Int).toNat (smD (q :: r))).flatten))) else none) = _
    by_cases hm : m = 1
    · subst hm
      rw [if_pos (show ((1 : Nat) : Int) = 1 from rfl)]
      simp
    · rw [if_neg (by omega), if_pos ⟨by simp [smD], by omega, by omega, by rw [smD_length]; exact hl⟩]
      simp [smD, List.map_flatten]
abbrev St (n m k : Nat) (s : List (Nat × Int)) (x : Option Sl) (T : List (List (Nat × Int))) (a b c d : Option Sl) : MSt := [(some (Sl.v (Val.loc 1))), (some (Sl.v (Val.dat (PyData.int n)))), (some (Sl.v (Val.dat (PyData.int m)))), (some (Sl.v (Val.dat (PyData.int k)))), (some (Sl.v (Val.dat (.tuple (smD s))))), x, (some (Sl.own (T.map smp))), (some (Sl.v (Val.dat (prD (5, 2))))), a, b, c, d]
theorem app_st {n m k : Nat} {s : List (Nat × Int)} {x a b c d : Option Sl} {T : List (List (Nat × Int))} {f : Ex Val} {M M' : MH} {t : List (Nat × Int)} (hl : T.length ≤ 100) (he : f (St n m k s x T a b c d) M = .ok (.dat (smp t)) M') :
    tmApp 6 f (St n m k s x T a b c d) M = some (.nx, St n m k s x (T ++ [t]) a b c d, M') := by
  have e : (T ++ [t]).map smp = T.map smp ++ [smp t] := by simp
  have hl2 : (T.map smp).length < 16777216 := by rw [List.length_map]; omega
  unfold St at he ⊢
  rw [e]
  generalize T.map smp = D at he hl2
  generalize smp t = z at he
  generalize smD s = S at he
  simp [he, hl2]
theorem SmL.app {T : List (List (Nat × Int))} (h : SmL T) {s : List (Nat × Int)} (hs : ∀ q ∈ s, Pr q) (hl : s.length ≤ 60) : SmL (T ++ [s]) := fun t ht => by
  rcases List.mem_append.mp ht with ht | ht
  · exact h t ht
  · rcases List.mem_singleton.mp ht with rfl
    exact ⟨hs, hl⟩
theorem rep_mem {m : Nat} {t : List (Nat × Int)} {q : Nat × Int} (h : q ∈ (List.replicate m t).flatten) : q ∈ t := by
  obtain ⟨l, hl, hq⟩ := List.mem_flatten.mp h
  rw [(List.mem_replicate.mp hl).2] at hq
  exact hq
theorem near_samples_ok {M : MH} (hb : Bag M) : Ok (fn__law_near_samples [.loc 1] M) fun v M' => (∃ T, v = .own (T.map smp) ∧ SmL T ∧ T.length ≤ 30) ∧ Kp M M' := by
  apply go__law_near_samples
  unfold tm__law_near_samples
  obtain ⟨v, M1, e1, ⟨f, hf, rfl⟩, k1, l1⟩ := (law_pick_ok hb (ds := nDs [0, 1, 2, 3, 4, 5, 8, 12, 31, 59, 60]) (by simp [nDs]) (by simp [nDs])).ex
  obtain ⟨n, hn, rfl⟩ := nDs_mem hf
  have n60 : n ≤ 60 := by
    simp only [List.mem_cons, List.not_mem_nil, or_false] at hn
    omega
  have eD : nDs [0, 1, 2, 3, 4, 5, 8, 12, 31, 59, 60] = [.int 0, .int 1, .int 2, .int 3, .int 4, .int 5, .int 8, .int 12, .int 31, .int 59, .int 60] := rfl
  rw [eD] at e1
  ((first | with_reducible refine Rs.go (fun zP hzP => ?_) | with_reducible refine Rs.gos (fun zP hzP => ?_) | with_reducible refine Nx.go (fun zP hzP => ?_)); simp [-List.map_map, e1]; refine hzP _ _ ?_; clear hzP zP)
  obtain ⟨v, M2, e2, ⟨a, rfl, a0, a1⟩, k2, l2⟩ := (law_draw_ok k1.bag (below := 6) (by omega) (by omega)).ex
  obtain ⟨a, rfl⟩ := nat_of a0
  obtain ⟨v, M3, e3, ⟨b, rfl, b0, b1⟩, k3, l3⟩ := (law_draw_ok k2.bag (below := 2) (by omega) (by omega)).ex
  obtain ⟨b, rfl⟩ := nat_of b0
  obtain ⟨m, hm⟩ : ∃ m : Nat, m = 1 + a := ⟨_, rfl⟩
  obtain ⟨k, hk⟩ : ∃ k : Nat, k = 2 + b := ⟨_, rfl⟩
  have hm1 : (1 : Int) + (a : Int) = (m : Int) := by omega
  have hk1 : (2 : Int) + (b : Int) = (k : Int) := by omega
  have kp3 := (k1.trans k2).trans k3
  refine Rs.seq [(some (Sl.v (Val.loc 1))), (some (Sl.v (Val.dat (PyData.int n)))), (some (Sl.v (Val.dat (PyData.int m)))), (some (Sl.v (Val.dat (PyData.int k)))), none, none, none, none, none, none, none, none] M3 (by simp [e2, e3, hm1, hk1]) ?_
  obtain ⟨out, M4, e4, ⟨k4, s, rfl, hl, hx⟩, _⟩ := lc_inv (st := [(some (Sl.v (Val.loc 1))), (some (Sl.v (Val.dat (PyData.int n)))), (some (Sl.v (Val.dat (PyData.int m)))), (some (Sl.v (Val.dat (PyData.int k)))), none, none, none, none, none, none, none, none]) (g := tgN 5) (c := cYes) (f := eTup (aCons (eF (xCall fn__law_draw (aCons (eVar 0) (aCons (eVar 2) aNil)))) (aCons (eF (xCall fn__law_draw (aCons (eVar 0) (aCons (eVar 3) aNil)))) aNil))) (fun i acc M' => Kp M3 M' ∧ ∃ s : List (Nat × Int), acc = smD s ∧ s.length = i ∧ ∀ q ∈ s, Pr q) (ds := rgD 0 (n : Int)) (M := M3) ⟨Kp.refl kp3.bag, [], rfl, rfl, fun r h => (by cases h)⟩ (by rw [rgD_length]; unfold SL; omega) (by
    rintro i d acc M' hd hacc ⟨k5, s, rfl, rfl, hx⟩
    obtain ⟨v, M6, e6, ⟨x, rfl, x0, x1⟩, k6, l6⟩ := (law_draw_ok k5.bag (below := (m : Int)) (by omega) (by omega)).ex
    obtain ⟨x, rfl⟩ := nat_of x0
    obtain ⟨v, M7, e7, ⟨y, rfl, y0, y1⟩, k7, l7⟩ := (law_draw_ok k6.bag (below := (k : Int)) (by omega) (by omega)).ex
    refine ⟨_, rfl, .inr ⟨M', M7, prD (x, y), rfl, by simp [e6, e7], (k5.trans k6).trans k7, s ++ [(x, y)], by rw [← smD_app]; rfl, by simp, fun q hq => ?_⟩⟩
    rcases List.mem_append.mp hq with hq | hq
    · exact hx q hq
    · rcases List.mem_singleton.mp hq with rfl
      exact ⟨by show x < 6; omega, y0, by show y < 3; omega⟩)
  rw [rgD_length] at hl
  have hl : s.length = n := by simpa using hl
  have kp4 := kp3.trans k4
  refine Rs.frzv (Rs.frzv ?_)
  refine Rs.seq [(some (Sl.v (Val.loc 1))), (some (Sl.v (Val.dat (PyData.int n)))), (some (Sl.v (Val.dat (PyData.int m)))), (some (Sl.v (Val.dat (PyData.int k)))), (some (Sl.v (Val.dat (.tuple (smD s))))), none, none, none, none, none, none, none] M4 ?_ ?_
  · generalize smD s = S at e4
    simp [rgSm_nat (show n < 4611686018427387904 by omega), e4]
  have hdl : (smD s).dropLast = smD s.dropLast := by simp [smD, List.map_dropLast]
  have h30 : (smD s).take 30 = smD (s.take 30) := smD_take s 30
  have hd1 := smD_drop s 1
  have hrv := smD_rev s
  have hmul := mulE_sm (s.take 30) 2 (by decide) (by decide) (by rw [List.length_take]; omega)
  have c30 : ∀ ds : List PyData, Mn.cutD ds none (some 30) = ds.take 30 := fun ds => cutD_hi ds 30
  have sl : (smD s).length = n := by rw [smD_length, hl]
  refine Rs.seq (St n m k s none [s, [], s.drop 1, s.dropLast, s.reverse, (List.replicate 2 (s.take 30)).flatten] none none none none) M4 ?_ ?_
  · have e22 : ((2 : Nat) : Int) = 2 := rfl
    rw [e22, ← h30] at hmul
    have c2 : [s, [], s.drop 1, s.dropLast, s.reverse, (List.replicate 2 (s.take 30)).flatten].map smp = [.tuple (smD s), .tuple [], .tuple ((smD s).drop 1), .tuple (smD s).dropLast, .tuple (smD s).reverse, .tuple (smD (List.replicate 2 (s.take 30)).flatten)] := by
      rw [hdl, hd1, hrv]
      rfl
    unfold St
    rw [c2]
    generalize smD (List.replicate 2 (s.take 30)).flatten = Z at hmul
    generalize smD s = S at hmul sl
    simp [-dMulE, c30, hmul, sl, show n ≤ 16777216 by omega]
  have T0 : SmL [s, [], s.drop 1, s.dropLast, s.reverse, (List.replicate 2 (s.take 30)).flatten] := fun t ht => by
    simp only [List.mem_cons, List.not_mem_nil, or_false] at ht
    rcases ht with rfl | rfl | rfl | rfl | rfl | rfl
    · exact ⟨hx, by omega⟩
    · exact ⟨fun q hq => (by cases hq), by simp⟩
    · exact ⟨fun q hq => hx q (List.mem_of_mem_drop hq), by rw [List.length_drop]; omega⟩
    · exact ⟨fun q hq => hx q (List.dropLast_subset _ hq), by rw [List.length_dropLast]; omega⟩
    · exact ⟨fun q hq => hx q (List.mem_reverse.mp hq), by rw [List.length_reverse]; omega⟩
    · refine ⟨fun q hq => hx q (List.mem_of_mem_take (rep_mem hq)), ?_⟩
      rw [List.length_flatten]
      simp
      omega
  refine Rs_seqQ (fun st M' => ∃ T a b c d, st = St n m k s none T a b c d ∧ SmL T ∧ T.length ≤ 20 ∧ Kp M M') ?_ ?_
  · by_cases hn0 : n = 0
    · refine Nx.tif false M4 (by unfold St; generalize smD s = S; generalize List.map smp _ = D; simp [hn0]) (fun h => by cases h) (fun _ => ?_)
      exact Nx.by_ ⟨_, none, none, none, none, rfl, T0, by simp, kp4⟩ rfl
    · have hn1 : 0 < n := by omega
      have hn1' : (0 : Int) < n := by omega
      refine Nx.tif true M4 (by unfold St; generalize smD s = S; generalize List.map smp _ = D; simp [hn1, hn1']) (fun _ => ?_) (fun h => by cases h)
      obtain ⟨v, M5, e5, ⟨p, rfl, p0, p1⟩, k5, l5⟩ := (law_draw_ok kp4.bag (below := (n : Int)) (by omega) (by omega)).ex
      obtain ⟨p, rfl⟩ := nat_of p0
      have hp : p < s.length := by omega
      obtain ⟨q, hq⟩ : ∃ q, s[p]? = some q := ⟨s[p], List.getElem?_eq_getElem hp⟩
      have hqP := hx q (List.mem_of_getElem? hq)
      obtain ⟨x, y⟩ := q
      obtain ⟨y, rfl⟩ := nat_of hqP.2.1
      have hx6 : x < 6 := hqP.1
      have hy3 : y < 3 := by have := hqP.2.2; simp at this; omega
      have hat : atI (smD s) (p : Int) = some (prD (x, (y : Int))) := by
        rw [atI_pos _ (by omega), smD_get?, show ((p : Int)).toNat = p by omega, hq]
        rfl
      refine Nx_seqQ (fun st M' => st = St n m k s none [s, [], s.drop 1, s.dropLast, s.reverse, (List.replicate 2 (s.take 30)).flatten] (some (Sl.v (Val.dat (PyData.int p)))) none none none ∧ M' = M5) ?_ ?_
      · refine Nx.frzv (Nx.by_ ⟨rfl, rfl⟩ ?_)
        unfold St
        generalize smD s = S
        generalize List.map smp _ = D
        simp [e5]
      rintro st M' ⟨rfl, rfl⟩
      have T0l : [s, [], s.drop 1, s.dropLast, s.reverse, (List.replicate 2 (s.take 30)).flatten].length = 6 := rfl
      generalize [s, [], s.drop 1, s.dropLast, s.reverse, (List.replicate 2 (s.take 30)).flatten] = T at T0 T0l
      have sp1 : ∀ ds : List PyData, Mn.cutD ds none (some (p : Int)) = ds.take p := fun ds => cutD_hi ds p
      have sp2 : ∀ ds : List PyData, Mn.cutD ds (some ((p : Int) + 1)) none = ds.drop (p + 1) := fun ds => cutD_lo ds (p + 1)
      refine Nx.seq (St n m k s none T (some (Sl.v (Val.dat (PyData.int p)))) (some (Sl.v (Val.dat (PyData.int x)))) (some (Sl.v (Val.dat (PyData.int y)))) none) M' ?_ ?_
      · unfold St
        generalize smD s = S at hat
        generalize T.map smp = D
        simp [hat]
      have hx1 : ((x : Int) + 1) % 6 = (((x + 1) % 6 : Nat) : Int) := by omega
      have hev : eF (xLst (aCons (eTup (aCons (eVar 9) (aCons (eOp2 dMod (eFn gInt (aCons (eF (xOp2 dAdd (eVar 10) (eC (.int 1)))) aNil)) (eC (.int 3))) aNil))) (aCons (eTup (aCons (eOp2 dMod (eFn gInt (aCons (eF (xOp2 dAdd (eVar 9) (eC (.int 1)))) aNil)) (eC (.int 6))) (aCons (eVar 10) aNil))) (aCons (eVar 7) (aCons (eTup (aCons (eVar 10) (aCons (eVar 10) aNil))) aNil))))) (St n m k s none T (some (Sl.v (Val.dat (PyData.int p)))) (some (Sl.v (Val.dat (PyData.int x)))) (some (Sl.v (Val.dat (PyData.int y)))) none) M' = .ok (.dat (.list ([(x, ((y : Int) + 1) % 3), ((x + 1) % 6, (y : Int)), (5, 2), (y, (y : Int))].map prD))) M' := by
        unfold St
        generalize smD s = S
        generalize T.map smp = D
        simp
      have hP4 : ∀ q ∈ [(x, ((y : Int) + 1) % 3), ((x + 1) % 6, (y : Int)), (5, 2), (y, (y : Int))], Pr q := fun q hq => by
        simp only [List.mem_cons, List.not_mem_nil, or_false] at hq
        rcases hq with rfl | rfl | rfl | rfl
        · exact ⟨hx6, by show 0 ≤ ((y : Int) + 1) % 3; omega, by show ((y : Int) + 1) % 3 < 3; omega⟩
        · exact ⟨by show (x + 1) % 6 < 6; omega, by show 0 ≤ (y : Int); omega, by show (y : Int) < 3; omega⟩
        · exact ⟨by decide, by decide, by decide⟩
        · exact ⟨by show y < 6; omega, by show 0 ≤ (y : Int); omega, by show (y : Int) < 3; omega⟩
      refine Nx_seqQ (fun st M2 => ∃ T t, st = St n m k s none T (some (Sl.v (Val.dat (PyData.int p)))) (some (Sl.v (Val.dat (PyData.int x)))) (some (Sl.v (Val.dat (PyData.int y)))) t ∧ SmL T ∧ T.length = 10 ∧ M2 = M') ?_ ?_
      · rw [w_fora, hev, ot_ok, foA_list]
        have h4 : ([(x, ((y : Int) + 1) % 3), ((x + 1) % 6, (y : Int)), (5, 2), (y, (y : Int))] : List (Nat × Int)).length = 4 := rfl
        generalize [(x, ((y : Int) + 1) % 3), ((x + 1) % 6, (y : Int)), (5, 2), (y, (y : Int))] = P4 at hP4 h4
        refine Nx_fo (fun i st M2 => ∃ T t, st = St n m k s none T (some (Sl.v (Val.dat (PyData.int p)))) (some (Sl.v (Val.dat (PyData.int x)))) (some (Sl.v (Val.dat (PyData.int y)))) t ∧ SmL T ∧ T.length = 6 + i ∧ M2 = M') ⟨T, none, rfl, T0, T0l, rfl⟩ ?_ ?_
        · rintro i d st M2 hd ⟨T, t, rfl, hT, hTl, rfl⟩
          rw [List.getElem?_map] at hd
          obtain ⟨q, hq, rfl⟩ := Option.map_eq_some_iff.mp hd
          have hi := (List.getElem?_eq_some_iff.mp hq).1
          have hqp := hP4 q (List.mem_of_getElem? hq)
          have hall : ∀ z ∈ s.take p ++ [q] ++ s.drop (p + 1), Pr z := fun z hz => by
            rcases List.mem_append.mp hz with hz | hz
            · rcases List.mem_append.mp hz with hz | hz
              · exact hx z (List.mem_of_mem_take hz)
              · rcases List.mem_singleton.mp hz with rfl
                exact hqp
            · exact hx z (List.mem_of_mem_drop hz)
          have hln : (s.take p ++ [q] ++ s.drop (p + 1)).length ≤ 60 := by simp; omega
          refine Nx.by_ ⟨_, (some (Sl.v (Val.dat (prD q)))), rfl, hT.app hall hln, by simp; omega, rfl⟩ (app_st (by omega) ?_)
          show _ = Out.ok (Val.dat (.tuple (smD (s.take p ++ [q] ++ s.drop (p + 1))))) M2
          have e : smD (s.take p ++ [q] ++ s.drop (p + 1)) = (smD s).take p ++ [prD q] ++ (smD s).drop (p + 1) := by
            rw [← smD_app, ← smD_app, smD_take, smD_drop]
            rfl
          rw [e]
          unfold St
          have hs1 : ((smD s).take p).length + 1 ≤ 16777216 := by rw [List.length_take]; omega
          have hs2 : ((smD s).take p ++ [prD q]).length + ((smD s).drop (p + 1)).length ≤ 16777216 := by
            rw [List.length_append, List.length_take, List.length_drop, sl]
            simp
            omega
          generalize T.map smp = D
          generalize smD s = S at hs1 hs2
          generalize prD q = z at hs2
          rw [List.length_take] at hs1
          simp at hs2
          simp [sp1, sp2, hs1, hs2]
        · rintro st M2 ⟨T, t, rfl, hT, hTl, rfl⟩
          rw [List.length_map, h4] at hTl
          exact ⟨T, t, rfl, hT, hTl, rfl⟩
      clear T0 T0l hev
      rintro st M2 ⟨T, t, rfl, hT, hTl, rfl⟩
      have hmid : ∀ ds : List PyData, ds.length = n → Mn.cutD ds (some (p : Int)) (some ((p : Int) + 1)) = (ds.drop p).take 1 := fun ds hds => by
        have := cutD_mid ds p (p + 1) (by omega)
        rw [show ((p + 1 : Nat) : Int) = (p : Int) + 1 by omega] at this
        rw [this]
        congr 1
        omega
      have hneg : ∀ ds : List PyData, Mn.cutD ds (some (-60)) none = ds.drop (ds.length - 60) := fun ds => cutD_neg ds 60 (by decide)
      obtain ⟨big, hbig⟩ : ∃ big, big = s ++ (s.drop p).take 1 := ⟨_, rfl⟩
      have hbl : big.length ≤ 61 := by rw [hbig, List.length_append, List.length_take]; omega
      have hbm : ∀ z ∈ big, Pr z := fun z hz => by
        rw [hbig] at hz
        rcases List.mem_append.mp hz with hz | hz
        · exact hx z hz
        · exact hx z (List.mem_of_mem_drop (List.mem_of_mem_take hz))
      refine Nx.seq (St n m k s none (T ++ [big.drop (big.length - 60)]) (some (Sl.v (Val.dat (PyData.int p)))) (some (Sl.v (Val.dat (PyData.int x)))) (some (Sl.v (Val.dat (PyData.int y)))) t) M2 (app_st (by omega) ?_) ?_
      · show _ = Out.ok (Val.dat (.tuple (smD (big.drop (big.length - 60))))) M2
        have e : smD (big.drop (big.length - 60)) = (smD s ++ ((smD s).drop p).take 1).drop ((smD s ++ ((smD s).drop p).take 1).length - 60) := by
          have e2 : smD s ++ ((smD s).drop p).take 1 = smD big := by rw [hbig, ← smD_app, smD_drop, smD_take]
          rw [e2, smD_drop, smD_length]
        rw [e]
        unfold St
        generalize T.map smp = D
        have hm := hmid (smD s) sl
        have hs1 : (smD s).length + (((smD s).drop p).take 1).length ≤ 16777216 := by rw [List.length_take]; omega
        generalize smD s = S at hm hs1
        generalize (S.drop p).take 1 = S2 at hm hs1
        have hn := hneg (S ++ S2)
        have hap : dAdd (.tuple S) (.tuple S2) = some (.v (.dat (.tuple (S ++ S2)))) := by
          show (if S.length + S2.length ≤ SL then some (Sl.v (.dat (.tuple (S ++ S2)))) else none) = _
          rw [if_pos hs1]
        generalize S ++ S2 = U at hn hap
        have hp1 : dAdd (.int (p : Int)) (.int 1) = some (.v (.dat (.int ((p : Int) + 1)))) := by simp
        simp [-dAdd, hp1, hm, hap, hn]
      have hT := hT.app (s := big.drop (big.length - 60)) (fun z hz => hbm z (List.mem_of_mem_drop hz)) (by rw [List.length_drop]; omega)
      have hTl : (T ++ [big.drop (big.length - 60)]).length = 11 := by simp [hTl]
      generalize T ++ [big.drop (big.length - 60)] = T at hT hTl
      have hm60 := mulE_sm s 60 (by decide) (by decide) (by omega)
      have e60 : ((60 : Nat) : Int) = 60 := rfl
      rw [e60] at hm60
      have ht60 := smD_take (List.replicate 60 s).flatten 60
      refine Nx.by_ ⟨_, _, _, _, _, rfl, hT.app (s := ((List.replicate 60 s).flatten).take 60) (fun z hz => hx z (rep_mem (List.mem_of_mem_take hz))) (by rw [List.length_take]; omega), by simp; omega, kp4.trans k5⟩ (app_st (a := (some (Sl.v (Val.dat (PyData.int p))))) (b := (some (Sl.v (Val.dat (PyData.int x))))) (c := (some (Sl.v (Val.dat (PyData.int y))))) (d := t) (by omega) ?_)
      show _ = Out.ok (Val.dat (.tuple (smD (((List.replicate 60 s).flatten).take 60)))) M2
      rw [← ht60]
      unfold St
      generalize T.map smp = D
      generalize smD (List.replicate 60 s).flatten = B at hm60
      generalize smD s = S at hm60
      simp [-dMulE, hm60]
  · rintro st M' ⟨T, a, b, c, d, rfl, hT, hTl, kp⟩
    obtain ⟨v, M5, e5, ⟨w, rfl, w0, w1⟩, k5, l5⟩ := (law_draw_ok kp.bag (below := 60) (by omega) (by omega)).ex
    obtain ⟨w, rfl⟩ := nat_of w0
    have hmw := mulE_sm [(5, 2)] (1 + w) (by omega) (by omega) (by simp)
    have hw1 : (1 : Int) + (w : Int) = ((1 + w : Nat) : Int) := by omega
    have hF : SmL (T ++ [(List.replicate (1 + w) [((5 : Nat), (2 : Int))]).flatten, [(0, 0)], [(0, 0), (0, 1)], [(0, 1), (0, 0)]]) := fun t ht => by
      rcases List.mem_append.mp ht with ht | ht
      · exact hT t ht
      · simp only [List.mem_cons, List.not_mem_nil, or_false] at ht
        rcases ht with rfl | rfl | rfl | rfl
        · refine ⟨fun z hz => ?_, ?_⟩
          · rcases List.mem_singleton.mp (rep_mem hz) with rfl
            exact ⟨by decide, by decide, by decide⟩
          · rw [List.length_flatten]
            simp
            omega
        · exact ⟨by decide, by decide⟩
        · exact ⟨by decide, by decide⟩
        · exact ⟨by decide, by decide⟩
    refine Rs.rt ⟨⟨_, rfl, hF, by simp; omega⟩, kp.trans k5⟩ ?_
    rw [List.map_append]
    have c2 : [(List.replicate (1 + w) [((5 : Nat), (2 : Int))]).flatten, [(0, 0)], [(0, 0), (0, 1)], [(0, 1), (0, 0)]].map smp = [.tuple (smD (List.replicate (1 + w) [((5 : Nat), (2 : Int))]).flatten), .tuple [.tuple [.int 0, .int 0]], .tuple [.tuple [.int 0, .int 0], .tuple [.int 0, .int 1]], .tuple [.tuple [.int 0, .int 1], .tuple [.int 0, .int 0]]] := rfl
    rw [c2]
    have hTm : (T.map smp).length ≤ 20 := by rw [List.length_map]; omega
    have hmw : dMulE (.tuple [prD (5, 2)]) (.int ((1 + w : Nat) : Int)) = some (.v (.dat (.tuple (smD (List.replicate (1 + w) [((5 : Nat), (2 : Int))]).flatten)))) := hmw
    generalize smD (List.replicate (1 + w) [((5 : Nat), (2 : Int))]).flatten = Z at hmw
    unfold St
    generalize T.map smp = D at hTm
    generalize prD (5, 2) = z at hmw
    simp [-dMulE, -Int.natCast_add, e5, hw1, hmw, show D.length + 4 ≤ 16777216 by omega]
end K06

set_option Elab.async false
set_option linter.all false
set_option maxRecDepth 100000
set_option maxHeartbeats 4000000
namespace K06
open PySem PySem.Spec PyProof.Rows L2 Mn

theorem dEq_self {a : Str} (h : PySem.PyData.strOk a = true) : dEq (.str a) (.str a) = some (.bool true) := by
  rw [dEq_str h h, decide_eq_true rfl]
theorem same_str (M : MH) {a : Str} (h : PySem.PyData.strOk a = true) : fn__law_is_same RD [.dat (.str a), .dat (.str a)] M = .ok (.v (.dat (.bool true))) M := by
  refine Ok.eq (go__law_is_same ?_)
  unfold tm__law_is_same
  simp [-dEq, dEq_self h]
theorem same_dat (M : MH) {d : PyData} (h : Gd 11 d) : fn__law_is_same RD [.dat d, .dat d] M = .ok (.v (.dat (.bool true))) M := law_same_eq 11 M h
theorem smD_gd (s : List (Nat × Int)) : ∀ d ∈ smD s, Gd 1 d := fun d hd => by
  obtain ⟨q, _, rfl⟩ := List.mem_map.mp hd
  refine .tup (fun d hd => ?_) (by simp [SL])
  simp only [List.mem_cons, List.not_mem_nil, or_false] at hd
  rcases hd with rfl | rfl
  · exact .int _
  · exact .int _
theorem sm_gd {s : List (Nat × Int)} (hl : s.length ≤ 60) : Gd 2 (smp s) := .tup (smD_gd s) (by rw [smD_length]; unfold SL; omega)
theorem shelf_told (M : MH) {k : Int} {n : Nat} {rows : List (List Int)} (h : Asc k n rows) (b : Bool) : fn__law_is_shelf_told [.dat (shD k rows), .dat (.str (shT k rows)), .dat (.bool b)] M = .ok (.v (.dat (.bool true))) M := by
  refine Ok.eq (go__law_is_shelf_told ?_)
  unfold tm__law_is_shelf_told
  have e1 := read_shelf_eq M h
  have e2 := shelf_text_eq M h
  have e3 := same_dat M (h.shf.gd.mono (show 3 ≤ 11 by decide))
  have e4 := same_str M (shT_ok h)
  generalize shD k rows = S at e1 e2 e3
  generalize shT k rows = T at e1 e2 e4
  cases b <;> simp [e1, e2, e3, e4]
theorem sample_told (M : MH) {s : List (Nat × Int)} (h : ∀ q ∈ s, Pr q) (hl : s.length ≤ 60) (b : Bool) : fn__law_is_sample_told [.dat (smp s), .dat (.str (smT s)), .dat (.bool b)] M = .ok (.v (.dat (.bool true))) M := by
  refine Ok.eq (go__law_is_sample_told ?_)
  unfold tm__law_is_sample_told
  have e1 := read_sample_eq M h hl
  have e2 := sample_text_eq M h hl
  have e3 := same_dat M ((sm_gd hl).mono (show 2 ≤ 11 by decide))
  have e4 := same_str M (smT_ok h)
  unfold smp at e3 ⊢
  generalize PyData.tuple (smD s) = S at e1 e2 e3
  generalize smT s = T at e1 e2 e4
  cases b <;> simp [e1, e2, e3, e4]
theorem unlike_eq (M : MH) {α : Type} [DecidableEq α] {L : List α} {e : α → PyData} {t : α → Str} (he : ∀ x ∈ L, ∀ y ∈ L, dEq (e x) (e y) = some (.bool (decide (x = y)))) (ht : ∀ x ∈ L, PySem.PyData.strOk (t x) = true) (hi : ∀ x ∈ L, ∀ y ∈ L, t x = t y → x = y) (hl : L.length ≤ 1000) :
    fn__law_are_unlike [.dat (.list (L.map e)), .dat (.list (L.map fun x => .str (t x)))] M = .ok (.v (.dat (.bool true))) M := by
  refine Ok.eq (go__law_are_unlike ?_)
  unfold tm__law_are_unlike
  refine Rs.ford (ds := enD 0 (L.map e)) (M1 := M) (fun i st M' => ∃ a b c, st = [(some (Sl.v (Val.dat (.list (L.map e))))), (some (Sl.v (Val.dat (.list (L.map fun x => .str (t x)))))), a, b, c] ∧ M' = M) ?_ ⟨none, none, none, rfl, rfl⟩ ?_ ?_
  · generalize L.map e = A
    generalize L.map (fun x => PyData.str (t x)) = B
    simp
  · rintro i d st M' hd ⟨a, b, c, rfl, rfl⟩
    rw [enD_get, List.getElem?_map] at hd
    cases hg : L[i]? with
    | none => rw [hg] at hd; simp at hd
    | some y =>
      rw [hg] at hd
      simp at hd
      subst hd
      have hil := (List.getElem?_eq_some_iff.mp hg).1
      have hy := List.mem_of_getElem? hg
      refine Fw.of_nx ?_
      refine Nx.opq fun Q hQ => ?_
      have ht1 : (tgT 2 (tgsCons (tgN 2) (tgsCons (tgN 3) tgsNil))) (.v (.dat (pairD (.int (i : Int)) (e y)))) [(some (Sl.v (Val.dat (.list (L.map e))))), (some (Sl.v (Val.dat (.list (L.map fun x => .str (t x)))))), a, b, c] = some [(some (Sl.v (Val.dat (.list (L.map e))))), (some (Sl.v (Val.dat (.list (L.map fun x => .str (t x)))))), (some (Sl.v (Val.dat (PyData.int i)))), (some (Sl.v (Val.dat (e y)))), c] := by
        generalize L.map e = A
        generalize L.map (fun x => PyData.str (t x)) = B
        simp
      rw [ht1, ob_some]
      refine Nx.for_ (ds := rgD 0 (i : Int)) (M1 := M') (fun j st M'' => (∃ c, st = [(some (Sl.v (Val.dat (.list (L.map e))))), (some (Sl.v (Val.dat (.list (L.map fun x => .str (t x)))))), (some (Sl.v (Val.dat (PyData.int i)))), (some (Sl.v (Val.dat (e y)))), c]) ∧ M'' = M') ?_ ⟨⟨_, rfl⟩, rfl⟩ ?_ ?_
      · generalize L.map e = A
        generalize L.map (fun x => PyData.str (t x)) = B
        simp [rgSm_nat (show i < 4611686018427387904 by omega)]
      · rintro j d st M'' hd ⟨⟨c, rfl⟩, rfl⟩
        obtain ⟨rfl, hj⟩ := rgD_get hd
        have hj : j < i := by simpa using hj
        obtain ⟨x, hx⟩ : ∃ x, L[j]? = some x := ⟨L[j], List.getElem?_eq_getElem (by omega)⟩
        have hxm := List.mem_of_getElem? hx
        have a1 : atI (L.map e) (j : Int) = some (e x) := by
          rw [atI_pos _ (by omega), List.getElem?_map, show ((j : Int)).toNat = j by omega, hx]
          rfl
        have a2 : atI (L.map fun x => PyData.str (t x)) (j : Int) = some (.str (t x)) := by
          rw [atI_pos _ (by omega), List.getElem?_map, show ((j : Int)).toNat = j by omega, hx]
          rfl
        have a3 : atI (L.map fun x => PyData.str (t x)) (i : Int) = some (.str (t y)) := by
          rw [atI_pos _ (by omega), List.getElem?_map, show ((i : Int)).toNat = i by omega, hg]
          rfl
        have q1 := he x hxm y hy
        have q2 := dEq_str (ht x hxm) (ht y hy)
        have q3 : decide (t x = t y) = decide (x = y) := by
          by_cases hxy : x = y
          · rw [hxy]
            simp
          · rw [decide_eq_false hxy, decide_eq_false fun h => hxy (hi x hxm y hy h)]
        rw [q3] at q2
        generalize decide (x = y) = B0 at q1 q2
        have q4 : dNe (.bool B0) (.bool B0) = some (.bool false) := by cases B0 <;> simp
        rw [Int.zero_add]
        refine Nx.by_ ⟨⟨(some (Sl.v (Val.dat (PyData.int j)))), rfl⟩, rfl⟩ ?_
        generalize L.map e = A at a1
        generalize L.map (fun x => PyData.str (t x)) = B at a2 a3
        generalize e x = E1 at a1 q1
        generalize e y = E2 at q1
        generalize t x = T1 at a2 q2
        generalize t y = T2 at a3 q2
        simp [-dEq, -dNe, a1, a2, a3, q1, q2, q4]
      · rintro st M'' ⟨⟨c, rfl⟩, rfl⟩
        exact hQ _ _ ⟨_, _, _, rfl, rfl⟩
  · rintro st M' ⟨a, b, c, rfl, rfl⟩
    exact Rs.rt ⟨rfl, rfl⟩ (by simp)
theorem shp_eq {L : List (Int × List (List Int))} (h : AscL L) : ∀ x ∈ L, ∀ y ∈ L, dEq (shp x) (shp y) = some (.bool (decide (x = y))) := fun x hx y hy => by
  obtain ⟨n, hx⟩ := h x hx
  obtain ⟨m, hy⟩ := h y hy
  unfold dEq
  rw [if_pos ⟨hx.shf.gd.sh.shaped, hy.shf.gd.sh.shaped⟩, eqv_sh]
  congr 2
  refine decide_eq_decide.mpr ?_
  rw [Prod.ext_iff]
theorem smp_eq {T : List (List (Nat × Int))} (h : SmL T) : ∀ x ∈ T, ∀ y ∈ T, dEq (smp x) (smp y) = some (.bool (decide (x = y))) := fun x hx y hy => by
  unfold dEq
  rw [if_pos ⟨(sm_gd (h x hx).2).sh.shaped, (sm_gd (h y hy).2).sh.shaped⟩, eqv_sm]
theorem shD_inj {k k' : Int} {rows rows' : List (List Int)} (h : shD k rows = shD k' rows') : k = k' ∧ rows = rows' := by
  have := eqv_sh k k' rows rows'
  rw [h, eqv_sh] at this
  simpa using this.symm
theorem shT_inj {k k' : Int} {n n' : Nat} {rows rows' : List (List Int)} (h : Asc k n rows) (h' : Asc k' n' rows') (e : shT k rows = shT k' rows') : k = k' ∧ rows = rows' := by
  have a := read_shelf_eq [] h
  rw [e, read_shelf_eq [] h'] at a
  injection a with a
  injection a with a
  injection a with a
  exact shD_inj a.symm
theorem smT_inj {s t : List (Nat × Int)} (h : (∀ q ∈ s, Pr q) ∧ s.length ≤ 60) (h' : (∀ q ∈ t, Pr q) ∧ t.length ≤ 60) (e : smT s = smT t) : s = t := by
  have a := read_sample_eq [] h.1 h.2
  rw [e, read_sample_eq [] h'.1 h'.2] at a
  injection a with a
  injection a with a
  injection a with a
  have := eqv_sm s t
  rw [a, eqv_sm] at this
  simpa using this.symm
end K06

set_option Elab.async false
set_option linter.all false
set_option maxRecDepth 100000
set_option maxHeartbeats 4000000
namespace K06
open PySem PySem.Spec PyProof.Rows L2 Mn

theorem Rs.frzo {i : Nat} {f k : Mn.Tm} {st : MSt} {M : MH} {ds : List PyData} {Q : Sl → MH → Prop} (q : Rs (tmSeq f k (st.set i (some (.v (.dat (.list ds))))) M) Q) (h : st[i]? = some (some (.own ds)) := by rfl) : Rs (tmSeq (tmFrz i f) k st M) Q := by
  rw [w_seq, frz_o M h]
  rw [w_seq] at q
  exact q
theorem zp_rev {α : Type} (f g : α → PyData) (L : List α) : zpD (L.map f).reverse (L.map g).reverse = L.reverse.map fun x => pairD (f x) (g x) := by
  rw [zpD, ← List.map_reverse, ← List.map_reverse, List.zipWith_map]
  induction L.reverse with
  | nil => rfl
  | cons x l ih => simp [ih]
theorem slf_shelves {L : List (Int × List (List Int))} (h : AscL L) (hl : L.length ≤ 9) : Slf (.list (L.map shp)) := by
  refine Sf.slfS (n := 4) (L := 16842) ((Sf.lst (n := 3) (L := 1869) (K := 9) (fun d hd => ?_) (by rw [List.length_map]; exact hl)).mono (by decide) (by decide)) rfl (by decide) (by decide)
  obtain ⟨p, hp, rfl⟩ := List.mem_map.mp hd
  obtain ⟨n, hn⟩ := h p hp
  have k2 := hn.shf.k2
  obtain ⟨k, rows⟩ := p
  obtain ⟨k, rfl⟩ : ∃ m : Nat, k = (m : Int) := ⟨k.toNat, by simp at k2; omega⟩
  exact Sf.shelf hn.shf
abbrev txS (p : Int × List (List Int)) : Str := shT p.1 p.2
abbrev W (ns : List Int) (k : Int) (n m : Nat) (A B : List PyData) (z : Str) (C D : List PyData) (a b c d e : Option Sl) : MSt :=
  [some (.v (.ro (iDs ns))), (some (Sl.v (Val.loc 1))), (some (Sl.v (Val.dat (PyData.int k)))), (some (Sl.v (Val.dat (PyData.int n)))), (some (Sl.v (Val.dat (PyData.int m)))), (some (Sl.v (Val.dat (.list A)))), (some (Sl.v (Val.dat (.list B)))), (some (Sl.v (Val.dat (.str z)))), (some (Sl.own C)), a, (some (Sl.own D)), b, c, d, e]
theorem law_plain (ns : List Int) (hns : ns.length ≤ 63) : ∃ M, fn_law [.ro (ns.map .int)] [] = .ok (.v (.dat (.bool true))) M := by
  suffices h : Ok (fn_law [.ro (ns.map .int)] []) fun v M' => v = .v (.dat (.bool true)) by
    obtain ⟨v, M', e, rfl⟩ := h.ex
    exact ⟨M', e⟩
  have ens : ns.map PyData.int = iDs ns := rfl
  rw [ens]
  refine go_law ?_
  unfold tm_law
  obtain ⟨v, M1, e1, rfl, hb1⟩ := (law_own_bag_ok hns).ex
  rw [ens] at e1
  refine Rs.seq [some (.v (.ro (iDs ns))), (some (Sl.v (Val.loc 1))), none, none, none, none, none, none, none, none, none, none, none, none, none] M1 (by simp [e1]) ?_
  obtain ⟨v, M2, e2, ⟨k, n, m, rfl, k2, n1, n6, m1, m32⟩, kp2⟩ := (law_sizes_ok hb1).ex
  refine Rs.frzv ?_
  refine Rs.seq [some (.v (.ro (iDs ns))), (some (Sl.v (Val.loc 1))), (some (Sl.v (Val.dat (PyData.int k)))), (some (Sl.v (Val.dat (PyData.int n)))), (some (Sl.v (Val.dat (PyData.int m)))), none, none, none, none, none, none, none, none, none, none] M2 (by simp [e2]) ?_
  obtain ⟨v, M3, e3, ⟨rows, rfl, hrows⟩, kp3⟩ := (law_shelf_ok kp2.bag k2 n1 n6 m1 m32).ex
  obtain ⟨v, M4, e4, ⟨L, rfl, hL, hLl⟩, kp4⟩ := (near_ok kp3.bag hrows).ex
  refine Rs.frzv ?_
  refine Rs.seq [some (.v (.ro (iDs ns))), (some (Sl.v (Val.loc 1))), (some (Sl.v (Val.dat (PyData.int k)))), (some (Sl.v (Val.dat (PyData.int n)))), (some (Sl.v (Val.dat (PyData.int m)))), (some (Sl.own (L.map shp))), none, none, none, none, none, none, none, none, none] M4 ?_ ?_
  · generalize shD k rows = S at e3 e4
    generalize L.map shp = D at e4
    simp [e3, e4]
  obtain ⟨v, M5, e5, ⟨T, rfl, hT, hTl⟩, kp5⟩ := (near_samples_ok kp4.bag).ex
  have hslf := slf_shelves hL hLl
  obtain ⟨z, hz1, hz2⟩ := hslf.rp
  refine Rs.frzv ?_
  refine Rs.seq [some (.v (.ro (iDs ns))), (some (Sl.v (Val.loc 1))), (some (Sl.v (Val.dat (PyData.int k)))), (some (Sl.v (Val.dat (PyData.int n)))), (some (Sl.v (Val.dat (PyData.int m)))), (some (Sl.own (L.map shp))), (some (Sl.own (T.map smp))), (some (Sl.v (Val.dat (.str z)))), none, none, none, none, none, none, none] M5 ?_ ?_
  · generalize L.map shp = D at hz1
    generalize T.map smp = E at e5
    simp [e5, hz1]
  have hA : (L.map shp).length = L.length := by simp
  have hB : (T.map smp).length = T.length := by simp
  have hc1 : ∀ (st : MSt) (g : Tgt), (∀ d, ∃ st1, g (.v (.dat d)) st = some st1 ∧ st1[9]? = some (some (.v (.dat d)))) → lcGo st g cYes (eF (xCall fn__law_shelf_line (aCons (eVar 9) aNil))) [] (L.map shp) M5 = .ok (L.map fun p => .str (txS p)) M5 := fun st g hg => by
    rw [lc_mapE (e := shp) (p := fun _ => true) (F := fun p => .str (txS p))]
    · rw [filter_tt]
      simp
    · intro p hp
      obtain ⟨q, hq⟩ := hL p hp
      obtain ⟨st1, g1, g2⟩ := hg (shp p)
      have hh := shelf_line_eq M5 hq
      exact ⟨st1, g1, rfl, fun _ => by simp [g2, hh]⟩
    · show 0 + L.length ≤ 16777216
      omega
  have hc2 : ∀ (st : MSt) (g : Tgt), (∀ d, ∃ st1, g (.v (.dat d)) st = some st1 ∧ st1[11]? = some (some (.v (.dat d)))) → lcGo st g cYes (eF (xCall fn__law_sample_line (aCons (eVar 11) aNil))) [] (T.map smp) M5 = .ok (T.map fun s => .str (smT s)) M5 := fun st g hg => by
    rw [lc_mapE (e := smp) (p := fun _ => true) (F := fun p => .str (smT p))]
    · rw [filter_tt]
      simp
    · intro p hp
      obtain ⟨h1, h2⟩ := hT p hp
      obtain ⟨st1, g1, g2⟩ := hg (smp p)
      have hh := sample_text_eq M5 h1 h2
      rw [← sample_line_fn] at hh
      exact ⟨st1, g1, rfl, fun _ => by simp [g2, hh]⟩
    · show 0 + T.length ≤ 16777216
      omega
  refine Rs.seq [some (.v (.ro (iDs ns))), (some (Sl.v (Val.loc 1))), (some (Sl.v (Val.dat (PyData.int k)))), (some (Sl.v (Val.dat (PyData.int n)))), (some (Sl.v (Val.dat (PyData.int m)))), (some (Sl.own (L.map shp))), (some (Sl.own (T.map smp))), (some (Sl.v (Val.dat (.str z)))), (some (Sl.own (L.map fun p => .str (txS p)))), none, none, none, none, none, none] M5 ?_ ?_
  · have hc := hc1 [some (.v (.ro (iDs ns))), (some (Sl.v (Val.loc 1))), (some (Sl.v (Val.dat (PyData.int k)))), (some (Sl.v (Val.dat (PyData.int n)))), (some (Sl.v (Val.dat (PyData.int m)))), (some (Sl.own (L.map shp))), (some (Sl.own (T.map smp))), (some (Sl.v (Val.dat (.str z)))), none, none, none, none, none, none, none] (tgN 9) (fun d => ⟨_, rfl, rfl⟩)
    generalize (L.map fun p => PyData.str (txS p)) = C at hc
    generalize T.map smp = E at hc
    generalize L.map shp = D at hc
    simp [hc]
  refine Rs.seq [some (.v (.ro (iDs ns))), (some (Sl.v (Val.loc 1))), (some (Sl.v (Val.dat (PyData.int k)))), (some (Sl.v (Val.dat (PyData.int n)))), (some (Sl.v (Val.dat (PyData.int m)))), (some (Sl.own (L.map shp))), (some (Sl.own (T.map smp))), (some (Sl.v (Val.dat (.str z)))), (some (Sl.own (L.map fun p => .str (txS p)))), none, (some (Sl.own (T.map fun s => .str (smT s)))), none, none, none, none] M5 ?_ ?_
  · have hc := hc2 [some (.v (.ro (iDs ns))), (some (Sl.v (Val.loc 1))), (some (Sl.v (Val.dat (PyData.int k)))), (some (Sl.v (Val.dat (PyData.int n)))), (some (Sl.v (Val.dat (PyData.int m)))), (some (Sl.own (L.map shp))), (some (Sl.own (T.map smp))), (some (Sl.v (Val.dat (.str z)))), (some (Sl.own (L.map fun p => .str (txS p)))), none, none, none, none, none, none] (tgN 11) (fun d => ⟨_, rfl, rfl⟩)
    generalize (L.map fun p => PyData.str (txS p)) = C at hc
    generalize (T.map fun s => PyData.str (smT s)) = F at hc
    generalize T.map smp = E at hc
    generalize L.map shp = D at hc
    simp [hc]
  refine Rs.frzo (ds := L.map shp) ?_
  refine Rs.ford (ds := enD 0 (L.map shp)) (M1 := M5) (fun i st M' => ∃ a c, st = [some (.v (.ro (iDs ns))), (some (Sl.v (Val.loc 1))), (some (Sl.v (Val.dat (PyData.int k)))), (some (Sl.v (Val.dat (PyData.int n)))), (some (Sl.v (Val.dat (PyData.int m)))), (some (Sl.v (Val.dat (.list (L.map shp))))), (some (Sl.own (T.map smp))), (some (Sl.v (Val.dat (.str z)))), (some (Sl.own (L.map fun p => .str (txS p)))), a, (some (Sl.own (T.map fun s => .str (smT s)))), none, c, none, none] ∧ M' = M5) ?_ ⟨none, none, rfl, rfl⟩ ?_ ?_
  · generalize (L.map fun p => PyData.str (txS p)) = C
    generalize (T.map fun s => PyData.str (smT s)) = F
    generalize T.map smp = E
    generalize L.map shp = D
    simp
  · rintro i d st M' hd ⟨a, c, rfl, rfl⟩
    rw [enD_get, List.getElem?_map] at hd
    cases hg : L[i]? with
    | none => rw [hg] at hd; simp at hd
    | some p =>
      rw [hg] at hd
      simp at hd
      subst hd
      obtain ⟨q, hq⟩ := hL p (List.mem_of_getElem? hg)
      have a1 : atI (L.map fun p => PyData.str (txS p)) (i : Int) = some (.str (txS p)) := by
        rw [atI_pos _ (by omega), List.getElem?_map, show ((i : Int)).toNat = i by omega, hg]
        rfl
      have hh := shelf_told M' hq
      have hb : dEq (.int (i : Int)) (.int 1) = some (.bool (decide ((i : Int) = 1))) := by simp; rfl
      have hh2 := hh (decide ((i : Int) = 1))
      refine Fw.nx_ (st := [some (.v (.ro (iDs ns))), (some (Sl.v (Val.loc 1))), (some (Sl.v (Val.dat (PyData.int k)))), (some (Sl.v (Val.dat (PyData.int n)))), (some (Sl.v (Val.dat (PyData.int m)))), (some (Sl.v (Val.dat (.list (L.map shp))))), (some (Sl.own (T.map smp))), (some (Sl.v (Val.dat (.str z)))), (some (Sl.own (L.map fun p => .str (txS p)))), (some (Sl.v (Val.dat (shp p)))), (some (Sl.own (T.map fun s => .str (smT s)))), none, (some (Sl.v (Val.dat (PyData.int i)))), none, none]) ⟨_, _, rfl, rfl⟩ ?_
      generalize decide ((i : Int) = 1) = B0 at hb hh2
      unfold txS at a1
      generalize (L.map fun p => PyData.str (txS p)) = C at a1
      generalize (T.map fun s => PyData.str (smT s)) = F
      generalize T.map smp = E
      generalize L.map shp = D
      generalize shT p.1 p.2 = tx at a1 hh2
      unfold shp
      generalize shD p.1 p.2 = sh at hh2
      simp [-dEq, a1, hb, hh2]
  rintro st M' ⟨a, c, rfl, rfl⟩
  refine Rs.frzo (ds := T.map smp) ?_
  refine Rs.ford (ds := enD 0 (T.map smp)) (M1 := M') (fun i st M'' => ∃ a b c, st = W ns k n m (L.map shp) (T.map smp) z (L.map fun p => .str (txS p)) (T.map fun s => .str (smT s)) a b c none none ∧ M'' = M') ?_ ⟨a, none, c, rfl, rfl⟩ ?_ ?_
  · generalize (L.map fun p => PyData.str (txS p)) = C
    generalize (T.map fun s => PyData.str (smT s)) = F
    generalize T.map smp = E
    generalize L.map shp = D
    simp
  · rintro i d st M'' hd ⟨a, b, c, rfl, rfl⟩
    rw [enD_get, List.getElem?_map] at hd
    cases hg : T[i]? with
    | none => rw [hg] at hd; simp at hd
    | some s =>
      rw [hg] at hd
      simp at hd
      subst hd
      obtain ⟨h1, h2⟩ := hT s (List.mem_of_getElem? hg)
      have a1 : atI (T.map fun s => PyData.str (smT s)) (i : Int) = some (.str (smT s)) := by
        rw [atI_pos _ (by omega), List.getElem?_map, show ((i : Int)).toNat = i by omega, hg]
        rfl
      have hb : dEq (.int (i : Int)) (.int 1) = some (.bool (decide ((i : Int) = 1))) := by simp; rfl
      have hh2 := sample_told M'' h1 h2 (decide ((i : Int) = 1))
      refine Fw.nx_ (st := W ns k n m (L.map shp) (T.map smp) z (L.map fun p => .str (txS p)) (T.map fun s => .str (smT s)) a (some (Sl.v (Val.dat (smp s)))) (some (Sl.v (Val.dat (PyData.int i)))) none none) ⟨_, _, _, rfl, rfl⟩ ?_
      generalize decide ((i : Int) = 1) = B0 at hb hh2
      unfold W
      generalize (L.map fun p => PyData.str (txS p)) = C
      generalize (T.map fun s => PyData.str (smT s)) = F at a1
      generalize T.map smp = E
      generalize L.map shp = D
      generalize smT s = tx at a1 hh2
      generalize smp s = sh at hh2
      simp [-dEq, a1, hb, hh2]
  clear a c
  rintro st M'' ⟨a, b, c, rfl, rfl⟩
  refine Rs.frzv ?_
  have hu1 := unlike_eq M'' (shp_eq hL) (t := txS) (fun p hp => by
    obtain ⟨q, hq⟩ := hL p hp
    exact shT_ok hq) (fun p hp q hq e => by
    obtain ⟨x, hx⟩ := hL p hp
    obtain ⟨y, hy⟩ := hL q hq
    have := shT_inj hx hy e
    exact Prod.ext_iff.mpr this) (by omega)
  have hu2 := unlike_eq M'' (smp_eq hT) (t := smT) (fun s hs => smT_ok (hT s hs).1) (fun s hs t ht e => smT_inj (hT s hs) (hT t ht) e) (by omega)
  have hc3 : ∀ (st : MSt) (g : Tgt), (∀ d, ∃ st1, g (.v (.dat d)) st = some st1 ∧ st1[9]? = some (some (.v (.dat d)))) → lcGo st g cYes (eF (xCall fn_shelf_text (aCons (eVar 9) aNil))) [] (L.map shp) M'' = .ok (L.map fun p => .str (txS p)) M'' := fun st g hg => by
    rw [lc_mapE (e := shp) (p := fun _ => true) (F := fun p => .str (txS p))]
    · rw [filter_tt]
      simp
    · intro p hp
      obtain ⟨q, hq⟩ := hL p hp
      obtain ⟨st1, g1, g2⟩ := hg (shp p)
      have hh := shelf_text_eq M'' hq
      exact ⟨st1, g1, rfl, fun _ => by simp [g2, hh]⟩
    · show 0 + L.length ≤ 16777216
      omega
  refine Rs.iff0 M'' ?_ ?_
  · have hc := hc3 (W ns k n m (L.map shp) (T.map smp) z (L.map fun p => .str (txS p)) (T.map fun s => .str (smT s)) none b c none none) (tgN 9) (fun d => ⟨_, rfl, rfl⟩)
    unfold W at hc ⊢
    generalize (L.map fun p => PyData.str (txS p)) = C at hc hu1
    generalize (T.map fun s => PyData.str (smT s)) = F at hc
    generalize T.map smp = E at hc
    generalize L.map shp = D at hc hu1
    simp [hc, hu1]
  refine Rs.frzv ?_
  refine Rs.iff0 M'' ?_ ?_
  · have hc := hc2 (W ns k n m (L.map shp) (T.map smp) z (L.map fun p => .str (txS p)) (T.map fun s => .str (smT s)) a none c none none) (tgN 11) (fun d => ⟨_, rfl, rfl⟩)
    rw [sample_line_fn] at hc
    unfold W at hc ⊢
    generalize (L.map fun p => PyData.str (txS p)) = C at hc
    generalize (T.map fun s => PyData.str (smT s)) = F at hc hu2
    generalize T.map smp = E at hc hu2
    generalize L.map shp = D at hc
    simp [hc, hu2]
  refine Rs.ford (ds := L.reverse.map fun p => pairD (shp p) (.str (txS p))) (M1 := M'') (fun i st M3 => ∃ a b c d, st = W ns k n m (L.map shp) (T.map smp) z (L.map fun p => .str (txS p)) (T.map fun s => .str (smT s)) a b c d none ∧ M3 = M'') ?_ ⟨a, b, c, none, rfl, rfl⟩ ?_ ?_
  · have hz := zp_rev shp (fun p => PyData.str (txS p)) L
    unfold W
    generalize (L.reverse.map fun p => pairD (shp p) (PyData.str (txS p))) = Z at hz
    generalize (L.map fun p => PyData.str (txS p)) = C at hz
    generalize (T.map fun s => PyData.str (smT s)) = F
    generalize T.map smp = E
    generalize L.map shp = D at hz
    simp [hz]
  · rintro i d st M3 hd ⟨a, b, c, dd, rfl, rfl⟩
    rw [List.getElem?_map] at hd
    obtain ⟨p, hp, rfl⟩ := Option.map_eq_some_iff.mp hd
    obtain ⟨q, hq⟩ := hL p (List.mem_reverse.mp (List.mem_of_getElem? hp))
    have h1 := read_shelf_eq M3 hq
    have h2 := shelf_text_eq M3 hq
    have h3 := same_dat M3 (hq.shf.gd.mono (show 3 ≤ 11 by decide))
    have h4 := same_str M3 (shT_ok hq)
    refine Fw.nx_ (st := W ns k n m (L.map shp) (T.map smp) z (L.map fun p => .str (txS p)) (T.map fun s => .str (smT s)) (some (Sl.v (Val.dat (shp p)))) b c (some (Sl.v (Val.dat (.str (txS p))))) none) ⟨_, _, _, _, rfl, rfl⟩ ?_
    unfold W txS shp
    generalize (L.map fun p => PyData.str (shT p.1 p.2)) = C
    generalize (T.map fun s => PyData.str (smT s)) = F
    generalize T.map smp = E
    generalize (L.map fun p => shD p.1 p.2) = D
    generalize shT p.1 p.2 = tx at h1 h2 h4
    generalize shD p.1 p.2 = sh at h1 h2 h3
    simp [h1, h2, h3, h4]
  clear a b c
  rintro st M3 ⟨a, b, c, d, rfl, rfl⟩
  refine Rs.ford (ds := T.reverse.map fun s => pairD (smp s) (.str (smT s))) (M1 := M3) (fun i st M4 => ∃ a b c d e, st = W ns k n m (L.map shp) (T.map smp) z (L.map fun p => .str (txS p)) (T.map fun s => .str (smT s)) a b c d e ∧ M4 = M3) ?_ ⟨a, b, c, d, none, rfl, rfl⟩ ?_ ?_
  · have hz := zp_rev smp (fun s => PyData.str (smT s)) T
    unfold W
    generalize (T.reverse.map fun s => pairD (smp s) (PyData.str (smT s))) = Z at hz
    generalize (L.map fun p => PyData.str (txS p)) = C
    generalize (T.map fun s => PyData.str (smT s)) = F at hz
    generalize T.map smp = E at hz
    generalize L.map shp = D
    simp [hz]
  · rintro i dd st M4 hd ⟨a, b, c, d, e, rfl, rfl⟩
    rw [List.getElem?_map] at hd
    obtain ⟨s, hs, rfl⟩ := Option.map_eq_some_iff.mp hd
    obtain ⟨g1, g2⟩ := hT s (List.mem_reverse.mp (List.mem_of_getElem? hs))
    have h1 := read_sample_eq M4 g1 g2
    have h2 := sample_text_eq M4 g1 g2
    have h3 := same_dat M4 ((sm_gd g2).mono (show 2 ≤ 11 by decide))
    have h4 := same_str M4 (smT_ok g1)
    refine Fw.nx_ (st := W ns k n m (L.map shp) (T.map smp) z (L.map fun p => .str (txS p)) (T.map fun s => .str (smT s)) a (some (Sl.v (Val.dat (smp s)))) c d (some (Sl.v (Val.dat (.str (smT s)))))) ⟨_, _, _, _, _, rfl, rfl⟩ ?_
    unfold W smp
    generalize (L.map fun p => PyData.str (txS p)) = C
    generalize (T.map fun s => PyData.str (smT s)) = F
    generalize (T.map fun s => PyData.tuple (smD s)) = E
    generalize L.map shp = D
    generalize smT s = tx at h1 h2 h4
    unfold smp at h3
    generalize PyData.tuple (smD s) = sh at h1 h2 h3
    simp [h1, h2, h3, h4]
  clear a b c d
  rintro st M4 ⟨a, b, c, d, e, rfl, rfl⟩
  refine Rs.rt (M' := M4) rfl ?_
  unfold W
  generalize (L.map fun p => PyData.str (txS p)) = C
  generalize (T.map fun s => PyData.str (smT s)) = F
  generalize T.map smp = E
  generalize L.map shp = D at hz1
  simp [-dEq, hz1, hz2]
end K06

theorem PySem.Challenge.cw_truerows_k06_whole_lines_read_back_holds : PySem.Challenge.rw_truerows_k06_whole_lines_read_back.Holds :=
  K06.ends K06.law_plain
