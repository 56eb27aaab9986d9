import PyProof.Rows.All
import Wide.All
import OpenK.AllK
import Wide.FinOn
import HandS.ForMost
import HandS.ForExc
import HandS.Deep
import HandS.Walk
import HandS.TupAny
import HandS.IsInst
import HandS.Text
import HandS.Wide
import HandS.TupMul
import HandS.Style
import HandS.RaiseMore
import HandS.TupLen
import HandS.More
import HandS.Zip
import KE.GoesEnum
import HandS.Strs
import HandS.SortKw
import HandS.FltList
import KE.KDictPairs
import HandS.Words
import HandS.Ends
import PyProof.ReprRoads
import HandS.SetFor
import PyProof.Rows.SortShellAny
import HandS.SortInts
import PySem.Challenge.RW_edgeshop_k40_known_lists
set_option Elab.async false
set_option linter.all false
set_option autoImplicit false
set_option maxRecDepth 100000
/-! EvCore: values, stores, what a value stands for in the heap; readings by a function of the store. -/
namespace EV
open PySem PySem.Spec PyProof.Rows L2

/-- a value: data that never changes; a cell of the store; a tuple in which cells are met; a tuple that the module's top has written; a list that nobody writes -/
inductive Vl where
  | d (x : PyData)
  | r (l : Nat)
  | t (xs : List Vl)
  | k (xs : List PyData)
  | q (xs : List PyData)
/-- a cell of the store -/
inductive Cell where
  | dead
  | lst (xs : List Vl)
  | dk (kvs : List (Key × Vl))
  | dt (kvs : List (List Key × Vl))
  | ins (C : Str) (fs : List (Str × Vl))
abbrev Sto := List Cell
abbrev Nv := List (Option Vl)
structure Exn where
  cls : Str
  val : Option (Str × Vl)
inductive RE where
  | ok (x : Vl) (S : Sto)
  | exc (e : Exn) (S : Sto)
  | bad
inductive RA where
  | ok (xs : List Vl) (S : Sto)
  | exc (e : Exn) (S : Sto)
  | bad
inductive RS where
  | nx (ρ : Nv) (S : Sto)
  | ret (x : Vl) (S : Sto)
  | bk (ρ : Nv) (S : Sto)
  | ct (ρ : Nv) (S : Sto)
  | exc (e : Exn) (ρ : Nv) (S : Sto)
  | bad

/-- where the store's cells stand, which addresses never change again -/
structure Wd where
  M : List Addr
  F : Addr → Prop
  /-- kept back for whoever makes it -/
  R : Addr → Prop

section
variable (K : PySem.W.Frag)
def KLst (a : Addr) (xs : List V) : Prop := ∃ (o : Obj) (its : Array Value) (n : Nat), K.lookup a = some o ∧ o.cls = .type "list" ∧ o.dict = none ∧ o.data = .seq its n ∧ its.size ≤ sizeLine ∧ Vals xs its.toList
def KTup (a : Addr) (xs : List V) : Prop := ∃ (o : Obj) (its : Array Value) (n : Nat), K.lookup a = some o ∧ o.cls = .type "tuple" ∧ o.dict = none ∧ o.data = .seq its n ∧ its.size ≤ sizeLine ∧ Vals xs its.toList
/-- a list that stays as it is -/
def SqF (F : Addr → Prop) (H : Hp) (a : Addr) (xs : List V) : Prop := KLst K a xs ∨ (F a ∧ Rd H a (.lst xs))
def LsF (F : Addr → Prop) (H : Hp) (a : Addr) (xs : List V) : Prop := F a ∧ H a = some (.lst xs)
def isRefV : V → Bool
  | .ref _ => true
  | _ => false
/-- how a new tuple is told: one of items that are all objects is told with its object -/
def tupO (o : Obj) (xs : List V) : HO := if xs.all isRefV = true then .frz o (.tup xs) else .tup xs
theorem tupO_rd {H : Hp} {a : Addr} {o : Obj} {xs : List V} (h : H a = some (tupO o xs)) : Rd H a (.tup xs) := by
  unfold tupO at h
  split at h
  · exact .inr ⟨o, h⟩
  · exact .inl h
def TpU (F : Addr → Prop) (H : Hp) (a : Addr) (xs : List V) : Prop := F a ∧ Rd H a (.tup xs)
def TpF (F : Addr → Prop) (H : Hp) (a : Addr) (xs : List V) : Prop := F a ∧ ∃ o : Obj, o.dict = none ∧ H a = some (tupO o xs)
def keyD : Key → PyData
  | .inl i => .int i
  | .inr x => .str x
mutual
/-- data at a value, all of it at addresses that never change -/
inductive Fd (F : Addr → Prop) (H : Hp) : V → PyData → Prop
  | non : Fd F H .non .none
  | bl (b : Bool) : Fd F H (.bl b) (.bool b)
  | int (i : Int) : Fd F H (.int i) (.int i)
  | str (x : Str) : Fd F H (.str x) (.str x)
  | lst {a : Addr} {xs : List V} {ds : List PyData} : LsF F H a xs → FdA F H xs ds → Fd F H (.ref a) (.list ds)
  | tup {a : Addr} {xs : List V} {ds : List PyData} : TpF F H a xs → FdA F H xs ds → Fd F H (.ref a) (.tuple ds)
  | dk {a : Addr} {us : List (Key × V)} {ds : List (PyData × PyData)} : F a → H a = some (.dK us) → FdP F H us ds → Fd F H (.ref a) (.dict ds)
inductive FdA (F : Addr → Prop) (H : Hp) : List V → List PyData → Prop
  | nil : FdA F H [] []
  | cons {v : V} {vs : List V} {d : PyData} {ds : List PyData} : Fd F H v d → FdA F H vs ds → FdA F H (v :: vs) (d :: ds)
inductive FdP (F : Addr → Prop) (H : Hp) : List (Key × V) → List (PyData × PyData) → Prop
  | nil : FdP F H [] []
  | cons {k : Key} {v : V} {vs : List (Key × V)} {d : PyData} {ds : List (PyData × PyData)} : Fd F H v d → FdP F H vs ds → FdP F H ((k, v) :: vs) ((keyD k, d) :: ds)
end
end
/-- cells stay where they are, what never changes is the same -/
structure Ex0 (W : Wd) (H : Hp) (W' : Wd) (H' : Hp) : Prop where
  pre : ∀ (l : Nat) (a : Addr), W.M[l]? = some a → W'.M[l]? = some a
  fz : ∀ a, W.F a → W'.F a
  st : ∀ a, W.F a → H' a = H a
/-- the world has gone on: .. what is kept back is the same, too -/
structure Ext (W : Wd) (H : Hp) (W' : Wd) (H' : Hp) : Prop where
  pre : ∀ (l : Nat) (a : Addr), W.M[l]? = some a → W'.M[l]? = some a
  fz : ∀ a, W.F a → W'.F a
  st : ∀ a, W.F a → H' a = H a
  rs : ∀ a, W.R a → W'.R a ∧ H' a = H a
theorem Ext.o {W W' : Wd} {H H' : Hp} (e : Ext W H W' H') : Ex0 W H W' H' := ⟨e.pre, e.fz, e.st⟩
theorem Ext.refl {W : Wd} {H : Hp} : Ext W H W H := ⟨fun _ _ e => e, fun _ e => e, fun _ _ => rfl, fun _ e => ⟨e, rfl⟩⟩
theorem Ext.trans {W W1 W2 : Wd} {H H1 H2 : Hp} (a : Ext W H W1 H1) (b : Ext W1 H1 W2 H2) : Ext W H W2 H2 :=
  ⟨fun l c e => b.pre l c (a.pre l c e), fun c e => b.fz c (a.fz c e), fun c e => (b.st c (a.fz c e)).trans (a.st c e), fun c e => ⟨(b.rs c (a.rs c e).1).1, (b.rs c (a.rs c e).1).2.trans (a.rs c e).2⟩⟩

section
variable {K : PySem.W.Frag} {F F' : Addr → Prop} {H H' : Hp}
theorem LsF.sq {a : Addr} {xs : List V} (h : LsF F H a xs) : SqL K H a xs := .of h.2
theorem TpU.sq {a : Addr} {xs : List V} (h : TpU F H a xs) : SqT K H a xs := .inl h.2
theorem TpF.u {a : Addr} {xs : List V} (h : TpF F H a xs) : TpU F H a xs := ⟨h.1, let ⟨_, _, e⟩ := h.2; tupO_rd e⟩
theorem TpF.sq {a : Addr} {xs : List V} (h : TpF F H a xs) : SqT K H a xs := h.u.sq
theorem TpF.plain {a : Addr} {xs : List V} (h : TpF F H a xs) (hx : xs.all isRefV = false) : H a = some (.tup xs) := by
  obtain ⟨_, o, _, e⟩ := h
  unfold tupO at e
  rw [hx] at e
  exact e
theorem SqF.sq {a : Addr} {xs : List V} (h : SqF K F H a xs) : SqL K H a xs := h.elim .inr fun z => .inl z.2
theorem KTup.sq {a : Addr} {xs : List V} (h : KTup K a xs) : SqT K H a xs := let ⟨o, its, n, h1, h2, _, h3⟩ := h; .inr ⟨o, its, n, h1, h2, h3⟩
theorem Rd.eq {H H' : Hp} {a : Addr} {u : HO} (e : H' a = H a) (h : Rd H a u) : Rd H' a u := by
  unfold Rd at h ⊢
  rw [e]; exact h
theorem LsF.st (hf : ∀ a, F a → F' a) (hs : ∀ a, F a → H' a = H a) {a : Addr} {xs : List V} (h : LsF F H a xs) : LsF F' H' a xs := ⟨hf _ h.1, (hs _ h.1).trans h.2⟩
theorem TpF.st (hf : ∀ a, F a → F' a) (hs : ∀ a, F a → H' a = H a) {a : Addr} {xs : List V} (h : TpF F H a xs) : TpF F' H' a xs := ⟨hf _ h.1, let ⟨o, h1, h2⟩ := h.2; ⟨o, h1, (hs _ h.1).trans h2⟩⟩
theorem SqF.st (hf : ∀ a, F a → F' a) (hs : ∀ a, F a → H' a = H a) {a : Addr} {xs : List V} (h : SqF K F H a xs) : SqF K F' H' a xs := h.elim .inl fun z => .inr ⟨hf _ z.1, Rd.eq (hs _ z.1) z.2⟩
theorem TpU.st (hf : ∀ a, F a → F' a) (hs : ∀ a, F a → H' a = H a) {a : Addr} {xs : List V} (h : TpU F H a xs) : TpU F' H' a xs := ⟨hf _ h.1, Rd.eq (hs _ h.1) h.2⟩
mutual
theorem Fd.st (hf : ∀ a, F a → F' a) (hs : ∀ a, F a → H' a = H a) : ∀ (d : PyData) (v : V), Fd F H v d → Fd F' H' v d
  | .none, _, h => by cases h; exact .non
  | .bool b, _, h => by cases h; exact .bl b
  | .int i, _, h => by cases h; exact .int i
  | .str x, _, h => by cases h; exact .str x
  | .list ds, _, h => by
    cases h with
    | lst h1 h2 => exact .lst (h1.st hf hs) (FdA.st hf hs ds _ h2)
  | .tuple ds, _, h => by
    cases h with
    | tup h1 h2 => exact .tup (h1.st hf hs) (FdA.st hf hs ds _ h2)
  | .dict ds, _, h => by
    cases h with
    | dk h0 h1 h2 => exact .dk (hf _ h0) ((hs _ h0).trans h1) (FdP.st hf hs ds _ h2)
theorem FdA.st (hf : ∀ a, F a → F' a) (hs : ∀ a, F a → H' a = H a) : ∀ (ds : List PyData) (vs : List V), FdA F H vs ds → FdA F' H' vs ds
  | [], _, h => by cases h; exact .nil
  | d :: ds, _, h => by
    cases h with
    | cons h1 h2 => exact .cons (Fd.st hf hs d _ h1) (FdA.st hf hs ds _ h2)
theorem FdP.st (hf : ∀ a, F a → F' a) (hs : ∀ a, F a → H' a = H a) : ∀ (ds : List (PyData × PyData)) (vs : List (Key × V)), FdP F H vs ds → FdP F' H' vs ds
  | [], _, h => by cases h; exact .nil
  | (k, d) :: ds, _, h => by
    cases h with
    | cons h1 h2 => exact .cons (Fd.st hf hs d _ h1) (FdP.st hf hs ds _ h2)
end
mutual
theorem Fd.dp : ∀ (d : PyData) (v : V), d.canLay0 = true → Fd F H v d → Dp K H v d
  | .none, _, _, h => by cases h; exact .non
  | .bool b, _, _, h => by cases h; exact .bl b
  | .int i, _, _, h => by cases h; exact .int i
  | .str x, _, _, h => by cases h; exact .str x
  | .list ds, _, c, h => by
    cases h with
    | lst h1 h2 => exact .lst h1.sq (FdA.dp ds _ c h2)
  | .tuple ds, _, c, h => by
    cases h with
    | tup h1 h2 => exact .tup h1.sq (FdA.dp ds _ c h2)
  | .dict ds, _, c, h => by cases c
theorem FdA.dp : ∀ (ds : List PyData) (vs : List V), PyData.canLayAll0 ds = true → FdA F H vs ds → DpAll K H vs ds
  | [], _, _, h => by cases h; exact .nil
  | d :: ds, _, c, h => by
    cases h with
    | cons h1 h2 =>
      have c' : (PyData.canLay0 d && PyData.canLayAll0 ds) = true := c
      obtain ⟨c1, c2⟩ := Bool.and_eq_true_iff.mp c'
      exact .cons (Fd.dp d _ c1 h1) (FdA.dp ds _ c2 h2)
end
theorem FdA.length {vs : List V} {ds : List PyData} (h : FdA F H vs ds) : vs.length = ds.length := by
  induction ds generalizing vs with
  | nil => cases h; rfl
  | cons d ds ih => cases h with | cons h1 h2 => simp [ih h2]
theorem FdA.get : ∀ {ds : List PyData} {vs : List V} {i : Nat} {v : V}, FdA F H vs ds → vs[i]? = some v → ∃ d, ds[i]? = some d ∧ Fd F H v d
  | _, _, i, v, .nil, e => by simp at e
  | _, _, 0, v, .cons h _, e => by simp at e; subst e; exact ⟨_, rfl, h⟩
  | _, _, i + 1, v, .cons _ t, e => by
    obtain ⟨d, h1, h2⟩ := FdA.get (i := i) t (by simpa using e)
    exact ⟨d, by simpa using h1, h2⟩
theorem FdA.get' : ∀ {ds : List PyData} {vs : List V} {i : Nat} {d : PyData}, FdA F H vs ds → ds[i]? = some d → ∃ v, vs[i]? = some v ∧ Fd F H v d
  | _, _, i, v, .nil, e => by simp at e
  | _, _, 0, v, .cons h _, e => by simp at e; subst e; exact ⟨_, rfl, h⟩
  | _, _, i + 1, v, .cons _ t, e => by
    obtain ⟨d, h1, h2⟩ := FdA.get' (i := i) t (by simpa using e)
    exact ⟨d, by simpa using h1, h2⟩
theorem FdA.append : ∀ {ds es : List PyData} {vs us : List V}, FdA F H vs ds → FdA F H us es → FdA F H (vs ++ us) (ds ++ es)
  | _, _, _, _, .nil, h => h
  | _, _, _, _, .cons h t, s => .cons h (FdA.append t s)
theorem FdA.take : ∀ {ds : List PyData} {vs : List V} (n : Nat), FdA F H vs ds → FdA F H (vs.take n) (ds.take n)
  | _, _, 0, _ => .nil
  | _, _, _ + 1, .nil => .nil
  | _, _, n + 1, .cons r t => .cons r (FdA.take n t)
theorem FdA.drop : ∀ {ds : List PyData} {vs : List V} (n : Nat), FdA F H vs ds → FdA F H (vs.drop n) (ds.drop n)
  | _, _, 0, r => r
  | _, _, _ + 1, .nil => .nil
  | _, _, n + 1, .cons _ t => FdA.drop n t
theorem FdA.reverse {ds : List PyData} {vs : List V} (h : FdA F H vs ds) : FdA F H vs.reverse ds.reverse := by
  induction ds generalizing vs with
  | nil => cases h; exact .nil
  | cons d ds ih => cases h with | cons h1 h2 => simp only [List.reverse_cons]; exact (ih h2).append (.cons h1 .nil)
end

/-! ### what a value stands for -/
mutual
inductive Rep (K : PySem.W.Frag) (W : Wd) (H : Hp) : V → Vl → Prop
  | d {v : V} {x : PyData} : Fd W.F H v x → Rep K W H v (.d x)
  | r {a : Addr} {l : Nat} : W.M[l]? = some a → Rep K W H (.ref a) (.r l)
  | k {a : Addr} {vs : List V} {xs : List PyData} : KTup K a vs → FdA W.F H vs xs → Rep K W H (.ref a) (.k xs)
  | q {a : Addr} {vs : List V} {xs : List PyData} : SqF K W.F H a vs → FdA W.F H vs xs → Rep K W H (.ref a) (.q xs)
  | t {a : Addr} {vs : List V} {xs : List Vl} : TpU W.F H a vs → RepA K W H vs xs → Rep K W H (.ref a) (.t xs)
inductive RepA (K : PySem.W.Frag) (W : Wd) (H : Hp) : List V → List Vl → Prop
  | nil : RepA K W H [] []
  | cons {v : V} {vs : List V} {x : Vl} {xs : List Vl} : Rep K W H v x → RepA K W H vs xs → RepA K W H (v :: vs) (x :: xs)
end
section
variable {K : PySem.W.Frag} {W W' : Wd} {H H' : Hp}
mutual
theorem Rep.ext0 (e : Ex0 W H W' H') : ∀ (x : Vl) (v : V), Rep K W H v x → Rep K W' H' v x
  | .d x, _, h => by cases h with | d h => exact .d (Fd.st e.fz e.st _ _ h)
  | .r l, _, h => by cases h with | r h => exact .r (e.pre _ _ h)
  | .k xs, _, h => by cases h with | k h1 h2 => exact .k h1 (FdA.st e.fz e.st _ _ h2)
  | .q xs, _, h => by cases h with | q h1 h2 => exact .q (h1.st e.fz e.st) (FdA.st e.fz e.st _ _ h2)
  | .t xs, _, h => by cases h with | t h1 h2 => exact .t (h1.st e.fz e.st) (RepA.ext0 e xs _ h2)
theorem RepA.ext0 (e : Ex0 W H W' H') : ∀ (xs : List Vl) (vs : List V), RepA K W H vs xs → RepA K W' H' vs xs
  | [], _, h => by cases h; exact .nil
  | x :: xs, _, h => by cases h with | cons h1 h2 => exact .cons (Rep.ext0 e x _ h1) (RepA.ext0 e xs _ h2)
end
theorem Rep.ext (e : Ext W H W' H') (x : Vl) (v : V) (h : Rep K W H v x) : Rep K W' H' v x := Rep.ext0 e.o x v h
theorem RepA.ext (e : Ext W H W' H') (xs : List Vl) (vs : List V) (h : RepA K W H vs xs) : RepA K W' H' vs xs := RepA.ext0 e.o xs vs h
theorem RepA.length {vs : List V} {xs : List Vl} (h : RepA K W H vs xs) : vs.length = xs.length := by
  induction xs generalizing vs with
  | nil => cases h; rfl
  | cons x xs ih => cases h with | cons h1 h2 => simp [ih h2]
theorem RepA.get : ∀ {xs : List Vl} {vs : List V} {i : Nat} {v : V}, RepA K W H vs xs → vs[i]? = some v → ∃ x, xs[i]? = some x ∧ Rep K W H v x
  | _, _, i, v, .nil, e => by simp at e
  | _, _, 0, v, .cons h _, e => by simp at e; subst e; exact ⟨_, rfl, h⟩
  | _, _, i + 1, v, .cons _ t, e => by
    obtain ⟨d, h1, h2⟩ := RepA.get (i := i) t (by simpa using e)
    exact ⟨d, by simpa using h1, h2⟩
theorem RepA.get' : ∀ {xs : List Vl} {vs : List V} {i : Nat} {x : Vl}, RepA K W H vs xs → xs[i]? = some x → ∃ v, vs[i]? = some v ∧ Rep K W H v x
  | _, _, i, v, .nil, e => by simp at e
  | _, _, 0, v, .cons h _, e => by simp at e; subst e; exact ⟨_, rfl, h⟩
  | _, _, i + 1, v, .cons _ t, e => by
    obtain ⟨d, h1, h2⟩ := RepA.get' (i := i) t (by simpa using e)
    exact ⟨d, by simpa using h1, h2⟩
theorem RepA.append : ∀ {xs ys : List Vl} {vs us : List V}, RepA K W H vs xs → RepA K W H us ys → RepA K W H (vs ++ us) (xs ++ ys)
  | _, _, _, _, .nil, h => h
  | _, _, _, _, .cons h t, s => .cons h (RepA.append t s)
theorem RepA.take : ∀ {xs : List Vl} {vs : List V} (n : Nat), RepA K W H vs xs → RepA K W H (vs.take n) (xs.take n)
  | _, _, 0, _ => .nil
  | _, _, _ + 1, .nil => .nil
  | _, _, n + 1, .cons r t => .cons r (RepA.take n t)
theorem RepA.drop : ∀ {xs : List Vl} {vs : List V} (n : Nat), RepA K W H vs xs → RepA K W H (vs.drop n) (xs.drop n)
  | _, _, 0, r => r
  | _, _, _ + 1, .nil => .nil
  | _, _, n + 1, .cons _ t => RepA.drop n t
theorem RepA.set {x : Vl} {v : V} (r : Rep K W H v x) : ∀ {xs : List Vl} {vs : List V} (i : Nat), RepA K W H vs xs → RepA K W H (vs.set i v) (xs.set i x)
  | _, _, _, .nil => .nil
  | _, _, 0, .cons _ t => .cons r t
  | _, _, i + 1, .cons q t => .cons q (RepA.set r i t)
theorem RepA.ofD : ∀ {ds : List PyData} {vs : List V}, FdA W.F H vs ds → RepA K W H vs (ds.map .d)
  | _, _, .nil => .nil
  | _, _, .cons h t => .cons (.d h) (RepA.ofD t)
end
/-- data alone -/
def allD : List Vl → Option (List PyData)
  | [] => some []
  | .d x :: r => (allD r).map (x :: ·)
  | _ :: _ => none
@[simp] theorem allD_map (ds : List PyData) : allD (ds.map .d) = some ds := by
  induction ds with
  | nil => rfl
  | cons d ds ih => simp [allD, ih]
theorem allD_some : ∀ {xs : List Vl} {ds : List PyData}, allD xs = some ds → xs = ds.map .d
  | [], ds, h => by cases h; rfl
  | .d x :: r, ds, h => by
    simp only [allD, Option.map_eq_some_iff] at h
    obtain ⟨es, h1, rfl⟩ := h
    rw [allD_some h1]; rfl
  | .r _ :: _, _, h => by cases h
  | .t _ :: _, _, h => by cases h
  | .k _ :: _, _, h => by cases h
  | .q _ :: _, _, h => by cases h
theorem RepA.toD {K : PySem.W.Frag} {W : Wd} {H : Hp} : ∀ {ds : List PyData} {vs : List V}, RepA K W H vs (ds.map .d) → FdA W.F H vs ds
  | [], _, h => by cases h; exact .nil
  | d :: ds, _, h => by
    cases h with
    | cons h1 h2 =>
      cases h1 with
      | d h1 => exact .cons h1 (RepA.toD h2)

/-! ### the store -/
inductive RepK (K : PySem.W.Frag) (W : Wd) (H : Hp) {κ : Type} : List (κ × V) → List (κ × Vl) → Prop
  | nil : RepK K W H [] []
  | cons {k : κ} {v : V} {x : Vl} {us : List (κ × V)} {xs : List (κ × Vl)} : Rep K W H v x → RepK K W H us xs → RepK K W H ((k, v) :: us) ((k, x) :: xs)
theorem RepK.ext0 {K : PySem.W.Frag} {W W' : Wd} {H H' : Hp} {κ : Type} (e : Ex0 W H W' H') : ∀ {us : List (κ × V)} {xs : List (κ × Vl)}, RepK K W H us xs → RepK K W' H' us xs
  | _, _, .nil => .nil
  | _, _, .cons h t => .cons (Rep.ext0 e _ _ h) (RepK.ext0 e t)
theorem RepK.ext {K : PySem.W.Frag} {W W' : Wd} {H H' : Hp} {κ : Type} (e : Ext W H W' H') {us : List (κ × V)} {xs : List (κ × Vl)} (h : RepK K W H us xs) : RepK K W' H' us xs := RepK.ext0 e.o h
def CRep (K : PySem.W.Frag) (mg : Str → Option Value) (W : Wd) (H : Hp) (a : Addr) : Cell → Prop
  | .dead => True
  | .lst xs => ∃ vs, H a = some (.lst vs) ∧ RepA K W H vs xs
  | .dk kvs => ∃ us, H a = some (.dK us) ∧ RepK K W H us kvs
  | .dt kvs => ∃ us, H a = some (.dT us) ∧ RepK K W H us kvs
  | .ins C fs => ∃ c dx us, mg C = some (.ref c) ∧ H a = some (.ins c dx us) ∧ RepK K W H us fs
theorem CRep.ext0 {K : PySem.W.Frag} {mg : Str → Option Value} {W W' : Wd} {H H' : Hp} {a : Addr} (e : Ex0 W H W' H') (h : H' a = H a) : ∀ {c : Cell}, CRep K mg W H a c → CRep K mg W' H' a c
  | .dead, _ => trivial
  | .lst xs, ⟨vs, h1, h2⟩ => ⟨vs, h.trans h1, RepA.ext0 e _ _ h2⟩
  | .dk xs, ⟨vs, h1, h2⟩ => ⟨vs, h.trans h1, RepK.ext0 e h2⟩
  | .dt xs, ⟨vs, h1, h2⟩ => ⟨vs, h.trans h1, RepK.ext0 e h2⟩
  | .ins C fs, ⟨c, dx, us, h0, h1, h2⟩ => ⟨c, dx, us, h0, h.trans h1, RepK.ext0 e h2⟩
theorem CRep.ext {K : PySem.W.Frag} {mg : Str → Option Value} {W W' : Wd} {H H' : Hp} {a : Addr} (e : Ext W H W' H') (h : H' a = H a) {c : Cell} (q : CRep K mg W H a c) : CRep K mg W' H' a c := q.ext0 e.o h
/-- the store is held -/
structure HR (K : PySem.W.Frag) (mg : Str → Option Value) (W : Wd) (S : Sto) (H : Hp) : Prop where
  len : S.length = W.M.length
  nd : W.M.Nodup
  cell : ∀ (l : Nat) (c : Cell) (a : Addr), S[l]? = some c → W.M[l]? = some a → CRep K mg W H a c
  live : ∀ (l : Nat) (c : Cell) (a : Addr), S[l]? = some c → W.M[l]? = some a → c ≠ .dead → ¬ W.F a
  have_ : ∀ a, W.F a → H a ≠ none
  mem : ∀ a, a ∈ W.M → H a ≠ none
  res : ∀ a, W.R a → H a ≠ none ∧ ¬ W.F a ∧ a ∉ W.M
/-- the names' values -/
structure ER (K : PySem.W.Frag) (W : Wd) (H : Hp) (ρ : Nv) (σ : L2.St) : Prop where
  len : ρ.length = σ.length
  at_ : ∀ (i : Nat) (x : Vl), ρ[i]? = some (some x) → ∃ v, σ[i]? = some (some v) ∧ Rep K W H v x
theorem ER.ext0 {K : PySem.W.Frag} {W W' : Wd} {H H' : Hp} {ρ : Nv} {σ : L2.St} (e : Ex0 W H W' H') (h : ER K W H ρ σ) : ER K W' H' ρ σ :=
  ⟨h.len, fun i x q => let ⟨v, h1, h2⟩ := h.at_ i x q; ⟨v, h1, Rep.ext0 e _ _ h2⟩⟩
theorem ER.ext {K : PySem.W.Frag} {W W' : Wd} {H H' : Hp} {ρ : Nv} {σ : L2.St} (e : Ext W H W' H') (h : ER K W H ρ σ) : ER K W' H' ρ σ := h.ext0 e.o
theorem ER.set {K : PySem.W.Frag} {W : Wd} {H : Hp} {ρ : Nv} {σ : L2.St} {v : V} {x : Vl} (h : ER K W H ρ σ) (r : Rep K W H v x) (i : Nat) : ER K W H (ρ.set i (some x)) (σ.set i (some v)) := by
  refine ⟨by simp [h.len], fun j y q => ?_⟩
  by_cases hj : i = j
  · subst hj
    by_cases hi : i < ρ.length
    · rw [List.getElem?_set_self hi] at q
      cases q
      exact ⟨v, by rw [List.getElem?_set_self (by rw [← h.len]; exact hi)], r⟩
    · rw [List.getElem?_eq_none (by simpa using hi)] at q; cases q
  · rw [List.getElem?_set_ne hj] at q ⊢
    exact h.at_ j y q
theorem ER.forget {K : PySem.W.Frag} {W : Wd} {H : Hp} {ρ ρ' : Nv} {σ : L2.St} (h : ER K W H ρ σ) (hl : ρ'.length = ρ.length) (hw : ∀ (i : Nat) x, ρ'[i]? = some (some x) → ρ[i]? = some (some x)) : ER K W H ρ' σ :=
  ⟨hl.trans h.len, fun i x q => h.at_ i x (hw i x q)⟩
section
variable {K : PySem.W.Frag} {mg : Str → Option Value} {W : Wd} {S : Sto} {H : Hp} {p : Addr} {o : HO}
def Wd.fz (W : Wd) (p : Addr) : Wd := ⟨W.M, fun a => W.F a ∨ a = p, W.R⟩
def Wd.push (W : Wd) (p : Addr) : Wd := ⟨W.M ++ [p], W.F, W.R⟩
def Wd.rsv (W : Wd) (p : Addr) : Wd := ⟨W.M, W.F, fun a => W.R a ∨ a = p⟩
def Wd.free (W : Wd) (p : Addr) : Wd := ⟨W.M, W.F, fun a => W.R a ∧ a ≠ p⟩
def Wd.tk (W : Wd) (n : Nat) : Wd := ⟨W.M.take n, W.F, W.R⟩
theorem HR.nF (h : HR K mg W S H) (hp : H p = none) : ¬ W.F p := fun z => h.have_ p z hp
theorem HR.nR (h : HR K mg W S H) (hp : H p = none) : ¬ W.R p := fun z => (h.res p z).1 hp
theorem HR.nM (h : HR K mg W S H) (hp : H p = none) : p ∉ W.M := fun z => h.mem p z hp
theorem ext_fz (h : HR K mg W S H) (hp : H p = none) : Ext W H (W.fz p) (upd H p o) :=
  ⟨fun _ _ e => e, fun _ e => .inl e, fun a e => upd_ne fun z => h.nF hp (z ▸ e), fun a e => ⟨e, upd_ne fun z => h.nR hp (z ▸ e)⟩⟩
theorem ext_push (h : HR K mg W S H) (hp : H p = none) : Ext W H (W.push p) (upd H p o) :=
  ⟨fun l a e => by
    have hl := (List.getElem?_eq_some_iff.mp e).1
    show (W.M ++ [p])[l]? = some a
    rw [List.getElem?_append_left hl]; exact e, fun _ e => e, fun a e => upd_ne fun z => h.nF hp (z ▸ e), fun a e => ⟨e, upd_ne fun z => h.nR hp (z ▸ e)⟩⟩
/-- a new thing that never changes -/
theorem HR.fz (h : HR K mg W S H) (hp : H p = none) : HR K mg (W.fz p) S (upd H p o) where
  len := h.len
  nd := h.nd
  cell := fun l c a h1 h2 => by
    have hm : a ∈ W.M := List.mem_of_getElem? h2
    exact (h.cell l c a h1 h2).ext (ext_fz h hp) (upd_ne fun z => h.nM hp (z ▸ hm))
  live := fun l c a h1 h2 h3 z => z.elim (h.live l c a h1 h2 h3) fun e => h.nM hp (e ▸ List.mem_of_getElem? h2)
  have_ := fun a z => by
    by_cases e : a = p
    · subst e; rw [upd_same]; simp
    · rw [upd_ne e]; exact h.have_ a (z.resolve_right e)
  mem := fun a z => by
    by_cases e : a = p
    · subst e; rw [upd_same]; simp
    · rw [upd_ne e]; exact h.mem a z
  res := fun a z => by
    obtain ⟨r1, r2, r3⟩ := h.res a z
    have e : a ≠ p := fun e => r1 (e ▸ hp)
    exact ⟨by rw [upd_ne e]; exact r1, fun q => q.elim r2 e, r3⟩
/-- a new cell -/
theorem HR.push (h : HR K mg W S H) (hp : H p = none) {c : Cell} (hc : CRep K mg (W.push p) (upd H p o) p c) : HR K mg (W.push p) (S ++ [c]) (upd H p o) where
  len := by simp [Wd.push, h.len]
  nd := by
    refine List.nodup_append.mpr ⟨h.nd, by simp, fun a ha b hb e => ?_⟩
    have : b = p := by simpa using hb
    subst this; subst e; exact h.nM hp ha
  cell := fun l c' a h1 h2 => by
    by_cases hl : l < S.length
    · have hlM : l < W.M.length := by rw [← h.len]; exact hl
      have h2' : (W.M ++ [p])[l]? = some a := h2
      rw [List.getElem?_append_left hl] at h1
      rw [List.getElem?_append_left hlM] at h2'
      exact (h.cell l c' a h1 h2').ext (ext_push h hp) (upd_ne fun z => h.nM hp (z ▸ List.mem_of_getElem? h2'))
    · have hlt := (List.getElem?_eq_some_iff.mp h1).1
      have e : l = S.length := by simp at hlt; omega
      subst e
      have h2' : (W.M ++ [p])[S.length]? = some a := h2
      rw [h.len] at h2'
      simp at h1 h2'
      subst h1; subst h2'
      exact hc
  live := fun l c' a h1 h2 h3 z => by
    have z : W.F a := z
    by_cases hl : l < S.length
    · have hlM : l < W.M.length := by rw [← h.len]; exact hl
      have h2' : (W.M ++ [p])[l]? = some a := h2
      rw [List.getElem?_append_left hl] at h1
      rw [List.getElem?_append_left hlM] at h2'
      exact h.live l c' a h1 h2' h3 z
    · have hlt := (List.getElem?_eq_some_iff.mp h1).1
      have e : l = S.length := by simp at hlt; omega
      subst e
      have h2' : (W.M ++ [p])[S.length]? = some a := h2
      rw [h.len] at h2'
      simp at h2'
      subst h2'
      exact h.nF hp z
  have_ := fun a z => by
    by_cases e : a = p
    · subst e; rw [upd_same]; simp
    · rw [upd_ne e]; exact h.have_ a z
  mem := fun a z => by
    by_cases e : a = p
    · subst e; rw [upd_same]; simp
    · rw [upd_ne e]
      refine h.mem a ?_
      have z' : a ∈ W.M ++ [p] := z
      simpa [e] using z'
  res := fun a z => by
    obtain ⟨r1, r2, r3⟩ := h.res a z
    have e : a ≠ p := fun e => r1 (e ▸ hp)
    refine ⟨by rw [upd_ne e]; exact r1, r2, fun q => ?_⟩
    have q' : a ∈ W.M ++ [p] := q
    simp [r3, e] at q'
/-- a cell is written -/
theorem HR.set (h : HR K mg W S H) {l : Nat} {c c' : Cell} {a : Addr} (h1 : S[l]? = some c) (h2 : W.M[l]? = some a) (h3 : c ≠ .dead) (hc : CRep K mg W (upd H a o) a c') (hd : c' ≠ .dead) : HR K mg W (S.set l c') (upd H a o) ∧ Ext W H W (upd H a o) := by
  have nf := h.live l c a h1 h2 h3
  have ex : Ext W H W (upd H a o) := ⟨fun _ _ e => e, fun _ e => e, fun b e => upd_ne fun z => nf (z ▸ e), fun b e => ⟨e, upd_ne fun z => (h.res b e).2.2 (z ▸ List.mem_of_getElem? h2)⟩⟩
  refine ⟨⟨by simpa using h.len, h.nd, fun l' c2 b e1 e2 => ?_, fun l' c2 b e1 e2 e3 => ?_, fun b z => ?_, fun b z => ?_, fun b z => ?_⟩, ex⟩
  · by_cases hl : l = l'
    · subst hl
      rw [h2] at e2; cases e2
      rw [List.getElem?_set_self (List.getElem?_eq_some_iff.mp h1).1] at e1
      cases e1; exact hc
    · rw [List.getElem?_set_ne hl] at e1
      refine (h.cell l' c2 b e1 e2).ext ex (upd_ne fun z => hl ?_)
      subst z
      obtain ⟨q1, r1⟩ := List.getElem?_eq_some_iff.mp h2
      obtain ⟨q2, r2⟩ := List.getElem?_eq_some_iff.mp e2
      exact (List.getElem_inj h.nd).mp (r1.trans r2.symm)
  · by_cases hl : l = l'
    · subst hl
      rw [h2] at e2; cases e2
      exact nf
    · rw [List.getElem?_set_ne hl] at e1
      exact h.live l' c2 b e1 e2 e3
  · by_cases e : b = a
    · subst e; rw [upd_same]; simp
    · rw [upd_ne e]; exact h.have_ b z
  · by_cases e : b = a
    · subst e; rw [upd_same]; simp
    · rw [upd_ne e]; exact h.mem b z
  · obtain ⟨r1, r2, r3⟩ := h.res b z
    have e : b ≠ a := fun e => r3 (e ▸ List.mem_of_getElem? h2)
    exact ⟨by rw [upd_ne e]; exact r1, r2, r3⟩
/-- a cell is given up: what stands there never changes again -/
theorem HR.kill (h : HR K mg W S H) {l : Nat} {c : Cell} {a : Addr} (h1 : S[l]? = some c) (h2 : W.M[l]? = some a) : HR K mg (W.fz a) (S.set l .dead) H ∧ Ext W H (W.fz a) H := by
  have ex : Ext W H (W.fz a) H := ⟨fun _ _ e => e, fun _ e => .inl e, fun b e => rfl, fun b e => ⟨e, rfl⟩⟩
  refine ⟨⟨by rw [List.length_set]; exact h.len, h.nd, fun l' c2 b e1 e2 => ?_, fun l' c2 b e1 e2 e3 => ?_, fun b z => ?_, h.mem, fun b z => ?_⟩, ex⟩
  · by_cases hl : l = l'
    · subst hl
      rw [List.getElem?_set_self (List.getElem?_eq_some_iff.mp h1).1] at e1
      cases e1; trivial
    · rw [List.getElem?_set_ne hl] at e1
      exact (h.cell l' c2 b e1 e2).ext ex rfl
  · by_cases hl : l = l'
    · subst hl
      rw [List.getElem?_set_self (List.getElem?_eq_some_iff.mp h1).1] at e1
      cases e1; exact absurd rfl e3
    · rw [List.getElem?_set_ne hl] at e1
      rintro (z | z)
      · exact h.live l' c2 b e1 e2 e3 z
      · subst z
        apply hl
        obtain ⟨q1, r1⟩ := List.getElem?_eq_some_iff.mp h2
        obtain ⟨q2, r2⟩ := List.getElem?_eq_some_iff.mp e2
        exact (List.getElem_inj h.nd).mp (r1.trans r2.symm)
  · rcases z with z | z
    · exact h.have_ b z
    · subst z; exact h.mem _ (List.mem_of_getElem? h2)
  · obtain ⟨r1, r2, r3⟩ := h.res b z
    exact ⟨r1, fun q => q.elim r2 fun e => r3 (e ▸ List.mem_of_getElem? h2), r3⟩
/-- a new thing is kept back -/
theorem HR.rsv (h : HR K mg W S H) (hp : H p = none) : HR K mg (W.rsv p) S (upd H p o) ∧ Ext W H (W.rsv p) (upd H p o) := by
  have ex : Ext W H (W.rsv p) (upd H p o) := ⟨fun _ _ e => e, fun _ e => e, fun a e => upd_ne fun z => h.nF hp (z ▸ e), fun a e => ⟨.inl e, upd_ne fun z => h.nR hp (z ▸ e)⟩⟩
  refine ⟨⟨h.len, h.nd, fun l c a h1 h2 => ?_, h.live, fun a z => ?_, fun a z => ?_, fun a z => ?_⟩, ex⟩
  · exact (h.cell l c a h1 h2).ext ex (upd_ne fun z => h.nM hp (z ▸ List.mem_of_getElem? h2))
  · have e : a ≠ p := fun e => h.nF hp (e ▸ z)
    rw [upd_ne e]; exact h.have_ a z
  · have e : a ≠ p := fun e => h.nM hp (e ▸ z)
    rw [upd_ne e]; exact h.mem a z
  · rcases z with z | z
    · obtain ⟨r1, r2, r3⟩ := h.res a z
      have e : a ≠ p := fun e => r1 (e ▸ hp)
      exact ⟨by rw [upd_ne e]; exact r1, r2, r3⟩
    · subst z
      exact ⟨by rw [upd_same]; simp, h.nF hp, h.nM hp⟩
/-- what is kept back is written -/
theorem HR.rput (h : HR K mg W S H) (hr : W.R p) : HR K mg W S (upd H p o) ∧ Ex0 W H W (upd H p o) := by
  obtain ⟨r1, r2, r3⟩ := h.res p hr
  have ex : Ex0 W H W (upd H p o) := ⟨fun _ _ e => e, fun _ e => e, fun a e => upd_ne fun z => r2 (z ▸ e)⟩
  refine ⟨⟨h.len, h.nd, fun l c a h1 h2 => ?_, h.live, fun a z => ?_, fun a z => ?_, fun a z => ?_⟩, ex⟩
  · exact (h.cell l c a h1 h2).ext0 ex (upd_ne fun z => r3 (z ▸ List.mem_of_getElem? h2))
  · have e : a ≠ p := fun e => r2 (e ▸ z)
    rw [upd_ne e]; exact h.have_ a z
  · have e : a ≠ p := fun e => r3 (e ▸ z)
    rw [upd_ne e]; exact h.mem a z
  · obtain ⟨q1, q2, q3⟩ := h.res a z
    refine ⟨?_, q2, q3⟩
    by_cases e : a = p
    · subst e; rw [upd_same]; simp
    · rw [upd_ne e]; exact q1
/-- what was kept back never changes from now on -/
theorem HR.give (h : HR K mg W S H) (hr : W.R p) : HR K mg ((W.free p).fz p) S H ∧ Ex0 W H ((W.free p).fz p) H := by
  obtain ⟨r1, r2, r3⟩ := h.res p hr
  have ex : Ex0 W H ((W.free p).fz p) H := ⟨fun _ _ e => e, fun _ e => .inl e, fun a e => rfl⟩
  refine ⟨⟨h.len, h.nd, fun l c a h1 h2 => (h.cell l c a h1 h2).ext0 ex rfl, fun l c a h1 h2 h3 z => ?_, fun a z => ?_, h.mem, fun a z => ?_⟩, ex⟩
  · rcases z with z | z
    · exact h.live l c a h1 h2 h3 z
    · subst z; exact r3 (List.mem_of_getElem? h2)
  · rcases z with z | z
    · exact h.have_ a z
    · subst z; exact r1
  · obtain ⟨q1, q2, q3⟩ := h.res a z.1
    exact ⟨q1, fun q => q.elim q2 z.2, q3⟩
/-- what was kept back is a cell from now on -/
theorem HR.cellOf (h : HR K mg W S H) (hr : W.R p) {c : Cell} (hc : CRep K mg ((W.free p).push p) H p c) : HR K mg ((W.free p).push p) (S ++ [c]) H ∧ Ex0 W H ((W.free p).push p) H := by
  obtain ⟨r1, r2, r3⟩ := h.res p hr
  have ex : Ex0 W H ((W.free p).push p) H := ⟨fun l a e => by
    have hl := (List.getElem?_eq_some_iff.mp e).1
    show (W.M ++ [p])[l]? = some a
    rw [List.getElem?_append_left hl]; exact e, fun _ e => e, fun a e => rfl⟩
  have at_ : ∀ (l : Nat) (c' : Cell) (a : Addr), (S ++ [c])[l]? = some c' → (W.M ++ [p])[l]? = some a → (S[l]? = some c' ∧ W.M[l]? = some a) ∨ (c' = c ∧ a = p) := fun l c' a h1 h2 => by
    by_cases hl : l < S.length
    · have hlM : l < W.M.length := by rw [← h.len]; exact hl
      rw [List.getElem?_append_left hl] at h1
      rw [List.getElem?_append_left hlM] at h2
      exact .inl ⟨h1, h2⟩
    · have hlt := (List.getElem?_eq_some_iff.mp h1).1
      have e : l = S.length := by simp at hlt; omega
      subst e
      rw [h.len] at h2
      simp at h1 h2
      exact .inr ⟨h1.symm, h2.symm⟩
  refine ⟨⟨by simp [Wd.push, Wd.free, h.len], List.nodup_append.mpr ⟨h.nd, by simp, fun a ha b hb e => r3 (by simp at hb; subst hb; subst e; exact ha)⟩, fun l c' a h1 h2 => ?_, fun l c' a h1 h2 h3 z => ?_, h.have_, fun a z => ?_, fun a z => ?_⟩, ex⟩
  · rcases at_ l c' a h1 h2 with ⟨g1, g2⟩ | ⟨rfl, rfl⟩
    · exact (h.cell l c' a g1 g2).ext0 ex rfl
    · exact hc
  · rcases at_ l c' a h1 h2 with ⟨g1, g2⟩ | ⟨rfl, rfl⟩
    · exact h.live l c' a g1 g2 h3 z
    · exact r2 z
  · have z' : a ∈ W.M ++ [p] := z
    rcases List.mem_append.mp z' with z' | z'
    · exact h.mem a z'
    · simp at z'; subst z'; exact r1
  · obtain ⟨q1, q2, q3⟩ := h.res a z.1
    refine ⟨q1, q2, fun q => ?_⟩
    have q' : a ∈ W.M ++ [p] := q
    simp [q3, z.2] at q'
end
end EV

/-! EvRead: readings by a function of the store; names, operators, tests, blocks. -/
namespace EV
open PySem PySem.Spec PyProof.Rows L2

abbrev ME := Nv → Sto → RE
abbrev MA := Nv → Sto → RA
abbrev MS := Nv → Sto → RS

section
variable (K : PySem.W.Frag) (mg : Str → Option Value) (EX : WX)
/-- an exception lies so -/
def ERp (W : Wd) (H : Hp) (e : Exn) (C : Value) (d : Option Addr) : Prop :=
  ∃ c, C = .ref c ∧ mg e.cls = some (.ref c) ∧ match e.val with
    | none => d = none
    | some (f, x) => ∃ a v, d = some a ∧ W.F a ∧ H a = some (.xd [(f, v)]) ∧ Rep K W H v x
def PV (W : Wd) (H : Hp) (σ : L2.St) (Q : VK) : RE → Prop
  | .ok x S' => ∀ W' H' v, Ext W H W' H' → HR K mg W' S' H' → Rep K W' H' v x → Q v H'
  | .exc e S' => ∀ W' H' C d, Ext W H W' H' → HR K mg W' S' H' → ERp K mg W' H' e C d → EX C d σ H'
  | .bad => False
def PAr (W : Wd) (H : Hp) (σ : L2.St) (Q : List V → Hp → Prop) : RA → Prop
  | .ok xs S' => ∀ W' H' vs, Ext W H W' H' → HR K mg W' S' H' → RepA K W' H' vs xs → Q vs H'
  | .exc e S' => ∀ W' H' C d, Ext W H W' H' → HR K mg W' S' H' → ERp K mg W' H' e C d → EX C d σ H'
  | .bad => False
def PB (W : Wd) (H : Hp) (σ : L2.St) (Q : Bool → Hp → Prop) : RE → Prop
  | .ok (.d (.bool b)) S' => ∀ W' H', Ext W H W' H' → HR K mg W' S' H' → Q b H'
  | .ok _ _ => False
  | .exc e S' => ∀ W' H' C d, Ext W H W' H' → HR K mg W' S' H' → ERp K mg W' H' e C d → EX C d σ H'
  | .bad => False
def PSt (W : Wd) (H : Hp) (D : Ends) : RS → Prop
  | .nx ρ' S' => ∀ W' H' σ', Ext W H W' H' → HR K mg W' S' H' → ER K W' H' ρ' σ' → D.nx σ' H'
  | .ret x S' => ∀ W' H' v, Ext W H W' H' → HR K mg W' S' H' → Rep K W' H' v x → D.rt v H'
  | .bk ρ' S' => ∀ W' H' σ', Ext W H W' H' → HR K mg W' S' H' → ER K W' H' ρ' σ' → D.bk σ' H'
  | .ct ρ' S' => ∀ W' H' σ', Ext W H W' H' → HR K mg W' S' H' → ER K W' H' ρ' σ' → D.ct σ' H'
  | .exc e ρ' S' => ∀ W' H' σ' C d, Ext W H W' H' → HR K mg W' S' H' → ER K W' H' ρ' σ' → ERp K mg W' H' e C d → EX C d σ' H'
  | .bad => False
def T (m : ME) : TE := fun σ H Q => ∃ W S ρ, HR K mg W S H ∧ ER K W H ρ σ ∧ PV K mg EX W H σ Q (m ρ S)
def TB (m : ME) : TT := fun σ H Q => ∃ W S ρ, HR K mg W S H ∧ ER K W H ρ σ ∧ PB K mg EX W H σ Q (m ρ S)
def TAr (m : MA) : TA := fun σ H Q => ∃ W S ρ, HR K mg W S H ∧ ER K W H ρ σ ∧ PAr K mg EX W H σ Q (m ρ S)
def TSt (m : MS) : TS := fun D σ H => ∃ W S ρ, HR K mg W S H ∧ ER K W H ρ σ ∧ PSt K mg EX W H D (m ρ S)
end
/-! judgements -/
section
variable (X : Cx) (EX : WX)
abbrev SE (e : Expr) (m : ME) : Prop := PE X e (T X.K X.mg EX m)
abbrev SB (e : Expr) (m : ME) : Prop := PT X e (TB X.K X.mg EX m)
abbrev SW (e : Expr) (m : ME) : Prop := PW X e (TB X.K X.mg EX m)
abbrev SA (es : List Expr) (m : MA) : Prop := PA X es (TAr X.K X.mg EX m)
abbrev SS (st : Stmt) (m : MS) : Prop := PS X st (TSt X.K X.mg EX m)
abbrev SSs (st : List Stmt) (m : MS) : Prop := PSs X st (TSt X.K X.mg EX m)
end
theorem _root_.L2.PE.wk {X : Cx} {e : Expr} {t t' : TE} (h : PE X e t) (w : ∀ σ H Q, t' σ H Q → t σ H Q) : PE X e t' := ⟨fun p s σ H Q I q => h.run p s σ H Q I (w σ H Q q)⟩
theorem _root_.L2.PT.wk {X : Cx} {e : Expr} {t t' : TT} (h : PT X e t) (w : ∀ σ H Q, t' σ H Q → t σ H Q) : PT X e t' := ⟨fun p s σ H Q I q => h.run p s σ H Q I (w σ H Q q)⟩
theorem _root_.L2.PW.wk {X : Cx} {e : Expr} {t t' : TT} (h : PW X e t) (w : ∀ σ H Q, t' σ H Q → t σ H Q) : PW X e t' := ⟨fun wh p s σ H Q I q => h.run wh p s σ H Q I (w σ H Q q)⟩
theorem _root_.L2.PA.wk {X : Cx} {e : List Expr} {t t' : TA} (h : PA X e t) (w : ∀ σ H Q, t' σ H Q → t σ H Q) : PA X e t' := ⟨fun po p s σ H Q I q => h.run po p s σ H Q I (w σ H Q q)⟩
theorem _root_.L2.PS.wk {X : Cx} {e : Stmt} {t t' : TS} (h : PS X e t) (w : ∀ D σ H, t' D σ H → t D σ H) : PS X e t' := ⟨fun p s σ H D I q => h.run p s σ H D I (w D σ H q)⟩
theorem _root_.L2.PSs.wk {X : Cx} {e : List Stmt} {t t' : TS} (h : PSs X e t) (w : ∀ D σ H, t' D σ H → t D σ H) : PSs X e t' := ⟨fun p s σ H D I q => h.run p s σ H D I (w D σ H q)⟩

/-! ### binding -/
def RE.bind (r : RE) (f : Vl → Sto → RE) : RE := match r with
  | .ok x S => f x S
  | .exc e S => .exc e S
  | .bad => .bad
@[simp] theorem RE.bind_ok (x : Vl) (S : Sto) (f : Vl → Sto → RE) : (RE.ok x S).bind f = f x S := rfl
@[simp] theorem RE.bind_exc (x : Exn) (S : Sto) (f : Vl → Sto → RE) : (RE.exc x S).bind f = .exc x S := rfl
@[simp] theorem RE.bind_bad (f : Vl → Sto → RE) : RE.bad.bind f = .bad := rfl
def RE.bindA (r : RE) (f : Vl → Sto → RA) : RA := match r with
  | .ok x S => f x S
  | .exc e S => .exc e S
  | .bad => .bad
@[simp] theorem RE.bindA_ok (x : Vl) (S : Sto) (f : Vl → Sto → RA) : (RE.ok x S).bindA f = f x S := rfl
@[simp] theorem RE.bindA_exc (x : Exn) (S : Sto) (f : Vl → Sto → RA) : (RE.exc x S).bindA f = .exc x S := rfl
@[simp] theorem RE.bindA_bad (f : Vl → Sto → RA) : RE.bad.bindA f = .bad := rfl
def RA.bind (r : RA) (f : List Vl → Sto → RE) : RE := match r with
  | .ok x S => f x S
  | .exc e S => .exc e S
  | .bad => .bad
@[simp] theorem RA.bind_ok (x : List Vl) (S : Sto) (f : List Vl → Sto → RE) : (RA.ok x S).bind f = f x S := rfl
@[simp] theorem RA.bind_exc (x : Exn) (S : Sto) (f : List Vl → Sto → RE) : (RA.exc x S).bind f = .exc x S := rfl
@[simp] theorem RA.bind_bad (f : List Vl → Sto → RE) : RA.bad.bind f = .bad := rfl
def RE.toS (r : RE) (ρ : Nv) (f : Vl → Sto → RS) : RS := match r with
  | .ok x S => f x S
  | .exc e S => .exc e ρ S
  | .bad => .bad
@[simp] theorem RE.toS_ok (x : Vl) (S : Sto) (ρ : Nv) (f : Vl → Sto → RS) : (RE.ok x S).toS ρ f = f x S := rfl
@[simp] theorem RE.toS_exc (x : Exn) (S : Sto) (ρ : Nv) (f : Vl → Sto → RS) : (RE.exc x S).toS ρ f = .exc x ρ S := rfl
@[simp] theorem RE.toS_bad (ρ : Nv) (f : Vl → Sto → RS) : RE.bad.toS ρ f = .bad := rfl
/-- a truth, or nothing good -/
def onB (x : Vl) {α : Type} (bad : α) (f : Bool → α) : α := match x with
  | .d (.bool b) => f b
  | _ => bad
@[simp] theorem onB_b {α : Type} (b : Bool) (bad : α) (f : Bool → α) : onB (.d (.bool b)) bad f = f b := rfl

section
variable {K : PySem.W.Frag} {mg : Str → Option Value} {EX : WX} {W W1 : Wd} {H H1 : Hp} {S : Sto} {ρ : Nv} {σ : L2.St} {Q : VK} {ma : ME}
theorem PV.ext {r : RE} (e : Ext W H W1 H1) (h : PV K mg EX W H σ Q r) : PV K mg EX W1 H1 σ Q r := by
  cases r with
  | ok x S => exact fun W' H' v e' => h W' H' v (e.trans e')
  | exc x S => exact fun W' H' C d e' => h W' H' C d (e.trans e')
  | bad => exact h
theorem PAr.ext {Q : List V → Hp → Prop} {r : RA} (e : Ext W H W1 H1) (h : PAr K mg EX W H σ Q r) : PAr K mg EX W1 H1 σ Q r := by
  cases r with
  | ok x S => exact fun W' H' v e' => h W' H' v (e.trans e')
  | exc x S => exact fun W' H' C d e' => h W' H' C d (e.trans e')
  | bad => exact h
theorem PB.ext {Q : Bool → Hp → Prop} {r : RE} (e : Ext W H W1 H1) (h : PB K mg EX W H σ Q r) : PB K mg EX W1 H1 σ Q r := by
  cases r with
  | ok x S =>
    cases x with
    | d x => cases x <;> first | exact fun W' H' e' => h W' H' (e.trans e') | exact h
    | _ => exact h
  | exc x S => exact fun W' H' C d e' => h W' H' C d (e.trans e')
  | bad => exact h
theorem PSt.ext {D : Ends} {r : RS} (e : Ext W H W1 H1) (h : PSt K mg EX W H D r) : PSt K mg EX W1 H1 D r := by
  cases r with
  | nx x S => exact fun W' H' v e' => h W' H' v (e.trans e')
  | ret x S => exact fun W' H' v e' => h W' H' v (e.trans e')
  | bk x S => exact fun W' H' v e' => h W' H' v (e.trans e')
  | ct x S => exact fun W' H' v e' => h W' H' v (e.trans e')
  | exc x ρ S => exact fun W' H' s C d e' => h W' H' s C d (e.trans e')
  | bad => exact h
/-- an expression, then what goes on with its value -/
theorem T.step {f : Vl → Sto → RE} {Q1 : VK} (h : HR K mg W S H) (e : ER K W H ρ σ) (p : PV K mg EX W H σ Q ((ma ρ S).bind f))
    (k : ∀ x S1 W1 H1 v, Ext W H W1 H1 → HR K mg W1 S1 H1 → ER K W1 H1 ρ σ → Rep K W1 H1 v x → PV K mg EX W1 H1 σ Q (f x S1) → Q1 v H1) : T K mg EX ma σ H Q1 := by
  refine ⟨W, S, ρ, h, e, ?_⟩
  cases q : ma ρ S with
  | ok x S1 =>
    rw [q] at p
    exact fun W1 H1 v e1 h1 r => k x S1 W1 H1 v e1 h1 (e.ext e1) r (PV.ext e1 p)
  | exc x S1 => rw [q] at p; exact p
  | bad => rw [q] at p; exact p
theorem T.stepA {f : Vl → Sto → RA} {Q : List V → Hp → Prop} {Q1 : VK} (h : HR K mg W S H) (e : ER K W H ρ σ) (p : PAr K mg EX W H σ Q ((ma ρ S).bindA f))
    (k : ∀ x S1 W1 H1 v, Ext W H W1 H1 → HR K mg W1 S1 H1 → ER K W1 H1 ρ σ → Rep K W1 H1 v x → PAr K mg EX W1 H1 σ Q (f x S1) → Q1 v H1) : T K mg EX ma σ H Q1 := by
  refine ⟨W, S, ρ, h, e, ?_⟩
  cases q : ma ρ S with
  | ok x S1 =>
    rw [q] at p
    exact fun W1 H1 v e1 h1 r => k x S1 W1 H1 v e1 h1 (e.ext e1) r (PAr.ext e1 p)
  | exc x S1 => rw [q] at p; exact p
  | bad => rw [q] at p; exact p
theorem T.stepB {f : Vl → Sto → RE} {Q : Bool → Hp → Prop} {Q1 : VK} (h : HR K mg W S H) (e : ER K W H ρ σ) (p : PB K mg EX W H σ Q ((ma ρ S).bind f))
    (k : ∀ x S1 W1 H1 v, Ext W H W1 H1 → HR K mg W1 S1 H1 → ER K W1 H1 ρ σ → Rep K W1 H1 v x → PB K mg EX W1 H1 σ Q (f x S1) → Q1 v H1) : T K mg EX ma σ H Q1 := by
  refine ⟨W, S, ρ, h, e, ?_⟩
  cases q : ma ρ S with
  | ok x S1 =>
    rw [q] at p
    exact fun W1 H1 v e1 h1 r => k x S1 W1 H1 v e1 h1 (e.ext e1) r (PB.ext e1 p)
  | exc x S1 => rw [q] at p; exact p
  | bad => rw [q] at p; exact p
theorem T.stepS {f : Vl → Sto → RS} {D : Ends} {Q1 : VK} (h : HR K mg W S H) (e : ER K W H ρ σ) (p : PSt K mg EX W H D ((ma ρ S).toS ρ f))
    (k : ∀ x S1 W1 H1 v, Ext W H W1 H1 → HR K mg W1 S1 H1 → ER K W1 H1 ρ σ → Rep K W1 H1 v x → PSt K mg EX W1 H1 D (f x S1) → Q1 v H1) : T K mg EX ma σ H Q1 := by
  refine ⟨W, S, ρ, h, e, ?_⟩
  cases q : ma ρ S with
  | ok x S1 =>
    rw [q] at p
    exact fun W1 H1 v e1 h1 r => k x S1 W1 H1 v e1 h1 (e.ext e1) r (PSt.ext e1 p)
  | exc x S1 => rw [q] at p; exact fun W' H' C d e1 h1 q1 => p W' H' σ C d e1 h1 (e.ext e1) q1
  | bad => rw [q] at p; exact p
/-- a test, then what goes on -/
theorem TB.step {f : Vl → Sto → RE} {Q1 : Bool → Hp → Prop} (h : HR K mg W S H) (e : ER K W H ρ σ) (p : PV K mg EX W H σ Q ((ma ρ S).bind fun x S1 => onB x .bad fun b => f (.d (.bool b)) S1))
    (k : ∀ b S1 W1 H1, Ext W H W1 H1 → HR K mg W1 S1 H1 → ER K W1 H1 ρ σ → PV K mg EX W1 H1 σ Q (f (.d (.bool b)) S1) → Q1 b H1) : TB K mg EX ma σ H Q1 := by
  refine ⟨W, S, ρ, h, e, ?_⟩
  cases q : ma ρ S with
  | ok x S1 =>
    rw [q] at p
    cases x with
    | d x => cases x <;> first | exact fun W1 H1 e1 h1 => k _ S1 W1 H1 e1 h1 (e.ext e1) (PV.ext e1 p) | exact p
    | _ => exact p
  | exc x S1 => rw [q] at p; exact p
  | bad => rw [q] at p; exact p
theorem TB.stepB {f : Bool → Sto → RE} {Q Q1 : Bool → Hp → Prop} (h : HR K mg W S H) (e : ER K W H ρ σ) (p : PB K mg EX W H σ Q ((ma ρ S).bind fun x S1 => onB x .bad fun b => f b S1))
    (k : ∀ b S1 W1 H1, Ext W H W1 H1 → HR K mg W1 S1 H1 → ER K W1 H1 ρ σ → PB K mg EX W1 H1 σ Q (f b S1) → Q1 b H1) : TB K mg EX ma σ H Q1 := by
  refine ⟨W, S, ρ, h, e, ?_⟩
  cases q : ma ρ S with
  | ok x S1 =>
    rw [q] at p
    cases x with
    | d x => cases x <;> first | exact fun W1 H1 e1 h1 => k _ S1 W1 H1 e1 h1 (e.ext e1) (PB.ext e1 p) | exact p
    | _ => exact p
  | exc x S1 => rw [q] at p; exact p
  | bad => rw [q] at p; exact p
theorem TB.stepV {f : Bool → Sto → RE} {Q1 : Bool → Hp → Prop} (h : HR K mg W S H) (e : ER K W H ρ σ) (p : PV K mg EX W H σ Q ((ma ρ S).bind fun x S1 => onB x .bad fun b => f b S1))
    (k : ∀ b S1 W1 H1, Ext W H W1 H1 → HR K mg W1 S1 H1 → ER K W1 H1 ρ σ → PV K mg EX W1 H1 σ Q (f b S1) → Q1 b H1) : TB K mg EX ma σ H Q1 := by
  refine ⟨W, S, ρ, h, e, ?_⟩
  cases q : ma ρ S with
  | ok x S1 =>
    rw [q] at p
    cases x with
    | d x => cases x <;> first | exact fun W1 H1 e1 h1 => k _ S1 W1 H1 e1 h1 (e.ext e1) (PV.ext e1 p) | exact p
    | _ => exact p
  | exc x S1 => rw [q] at p; exact p
  | bad => rw [q] at p; exact p
theorem TB.stepS {f : Bool → Sto → RS} {D : Ends} {Q1 : Bool → Hp → Prop} (h : HR K mg W S H) (e : ER K W H ρ σ) (p : PSt K mg EX W H D ((ma ρ S).toS ρ fun x S1 => onB x .bad fun b => f b S1))
    (k : ∀ b S1 W1 H1, Ext W H W1 H1 → HR K mg W1 S1 H1 → ER K W1 H1 ρ σ → PSt K mg EX W1 H1 D (f b S1) → Q1 b H1) : TB K mg EX ma σ H Q1 := by
  refine ⟨W, S, ρ, h, e, ?_⟩
  cases q : ma ρ S with
  | ok x S1 =>
    rw [q] at p
    cases x with
    | d x => cases x <;> first | exact fun W1 H1 e1 h1 => k _ S1 W1 H1 e1 h1 (e.ext e1) (PSt.ext e1 p) | exact p
    | _ => exact p
  | exc x S1 => rw [q] at p; exact fun W' H' C d e1 h1 q1 => p W' H' σ C d e1 h1 (e.ext e1) q1
  | bad => rw [q] at p; exact p
theorem TAr.step {mA : MA} {f : List Vl → Sto → RE} {Q1 : List V → Hp → Prop} (h : HR K mg W S H) (e : ER K W H ρ σ) (p : PV K mg EX W H σ Q ((mA ρ S).bind f))
    (k : ∀ x S1 W1 H1 v, Ext W H W1 H1 → HR K mg W1 S1 H1 → ER K W1 H1 ρ σ → RepA K W1 H1 v x → PV K mg EX W1 H1 σ Q (f x S1) → Q1 v H1) : TAr K mg EX mA σ H Q1 := by
  refine ⟨W, S, ρ, h, e, ?_⟩
  cases q : mA ρ S with
  | ok x S1 =>
    rw [q] at p
    exact fun W1 H1 v e1 h1 r => k x S1 W1 H1 v e1 h1 (e.ext e1) r (PV.ext e1 p)
  | exc x S1 => rw [q] at p; exact p
  | bad => rw [q] at p; exact p
theorem PB.val {Q : Bool → Hp → Prop} {r : RE} (p : PB K mg EX W H σ Q r) : PV K mg EX W H σ (fun x H' => ∃ k, x = .bl k ∧ Q k H') r := by
  cases r with
  | ok x S =>
    cases x with
    | d x =>
      cases x with
      | bool b =>
        intro W1 H1 v e1 h1 r
        cases r with
        | d r => cases r; exact ⟨b, rfl, p W1 H1 e1 h1⟩
      | _ => exact False.elim p
    | _ => exact False.elim p
  | exc x S => exact p
  | bad => exact False.elim p
/-- the value is there and nothing has changed -/
theorem PV.here {x : Vl} {v : V} (h : HR K mg W S H) (p : PV K mg EX W H σ Q (.ok x S)) (r : Rep K W H v x) : Q v H := p W H v Ext.refl h r
theorem PV.hereD {x : PyData} {v : V} (h : HR K mg W S H) (p : PV K mg EX W H σ Q (.ok (.d x) S)) (r : Fd W.F H v x) : Q v H := p W H v Ext.refl h (.d r)
end

/-! ### names, constants -/
def mVar (i : Nat) : ME := fun ρ S => match ρ[i]? with
  | some (some x) => .ok x S
  | _ => .bad
def mC (x : PyData) : ME := fun _ S => .ok (.d x) S
section
variable {X : Cx} {EX : WX} {pos : Pos}
theorem se_var (i : Nat) {x : Str} (hN : X.N[i]? = some x := by rfl) (hv : Vis X.env.scope x := by first | exact Or.inl rfl | exact Or.inr (Or.inl rfl) | exact Or.inr (Or.inr rfl)) (hd : (x == ("__debug__" : Str)) = false := by decide)
    (hcd : (x == ("__classdict__" : Str)) = false := by decide) : SE X EX (.Name x pos) (mVar i) := by
  refine (pe_var (i := i) hN hv hd hcd).wk fun σ H Q h => ?_
  obtain ⟨W, S, ρ, h, e, p⟩ := h
  unfold mVar at p
  cases q : ρ[i]? with
  | none => rw [q] at p; exact p.elim
  | some o =>
    cases o with
    | none => rw [q] at p; exact p.elim
    | some x =>
      rw [q] at p
      obtain ⟨v, hv, r⟩ := e.at_ i x q
      exact ⟨v, hv, p.here h r⟩
theorem se_int {i j} : SE X EX (.Constant (.int i) j pos) (mC (.int i)) := pe_int.wk fun σ H Q ⟨_, _, _, h, _, p⟩ => p.hereD h (.int i)
theorem se_bl {i j} : SE X EX (.Constant (.bool i) j pos) (mC (.bool i)) := pe_bl.wk fun σ H Q ⟨_, _, _, h, _, p⟩ => p.hereD h (.bl i)
theorem se_str {i j} : SE X EX (.Constant (.str i) j pos) (mC (.str i)) := pe_str.wk fun σ H Q ⟨_, _, _, h, _, p⟩ => p.hereD h (.str i)
theorem se_non {j} : SE X EX (.Constant .none j pos) (mC .none) := pe_non.wk fun σ H Q ⟨_, _, _, h, _, p⟩ => p.hereD h .non
/-- a constant of the module -/
theorem se_glob {x : Str} {u : Value} {v : V} {d : PyData} (hg : Gl X x) (hm : X.mg x = some u) (r : RelV v u) (c : Fd (fun _ => False) (fun _ => none) v d) (hd : (x == ("__debug__" : Str)) = false := by decide) : SE X EX (.Name x pos) (mC d) :=
  (pe_glob hg hm r hd).wk fun σ H Q ⟨W, _, _, h, _, p⟩ => p.hereD h (Fd.st (fun _ z => z.elim) (fun _ z => z.elim) _ _ c)
end

/-! ### operators -/
def mBin (f : Vl → Vl → Sto → RE) (ma mb : ME) : ME := fun ρ S => (ma ρ S).bind fun x S1 => (mb ρ S1).bind fun y S2 => f x y S2
def mUn (f : Vl → Sto → RE) (ma : ME) : ME := fun ρ S => (ma ρ S).bind f
/-- the operation op on values is f -/
def OpS (X : Cx) (EX : WX) (op : Value → Value → Sem Value) (f : Vl → Vl → Sto → RE) : Prop :=
  ∃ r : R2, OpR X op r ∧ ∀ W S H σ x y v u Q, HR X.K X.mg W S H → Rep X.K W H v x → Rep X.K W H u y → PV X.K X.mg EX W H σ Q (f x y S) → r v u H Q
section
variable {X : Cx} {EX : WX} {pos : Pos} {a b c : Expr} {ma mb mc : ME} {f g : Vl → Vl → Sto → RE}
theorem tOp_of {op : Value → Value → Sem Value} {r : R2} (o : ∀ W S H σ x y v u Q, HR X.K X.mg W S H → Rep X.K W H v x → Rep X.K W H u y → PV X.K X.mg EX W H σ Q (f x y S) → r v u H Q)
    {σ : L2.St} {H : Hp} {Q : VK} (h : T X.K X.mg EX (mBin f ma mb) σ H Q) : tOp r (T X.K X.mg EX ma) (T X.K X.mg EX mb) σ H Q := by
  obtain ⟨W, S, ρ, h, e, p⟩ := h
  refine T.step h e p fun x S1 W1 H1 v e1 h1 er1 r1 p1 => ?_
  refine T.step h1 er1 p1 fun y S2 W2 H2 u e2 h2 er2 r2 p2 => ?_
  exact o W2 S2 H2 σ x y v u Q h2 (Rep.ext e2 _ _ r1) r2 p2
theorem se_bin {op : Operator} (o : OpS X EX (binaryOp op) f) (ha : SE X EX a ma) (hb : SE X EX b mb) : SE X EX (.BinOp a op b pos) (mBin f ma mb) := by
  obtain ⟨r, o1, o2⟩ := o
  exact (pe_op o1 ha hb).wk fun σ H Q h => tOp_of (op := binaryOp op) o2 h
theorem se_cmp {op : CmpOp} (o : OpS X EX (compareOp op) f) (ha : SE X EX a ma) (hb : SE X EX b mb) (hm : behindInMarks op b = false := by first | exact nobehind _ (by decide) (by decide) | rfl) : SE X EX (.Compare a [op] [b] pos) (mBin f ma mb) := by
  obtain ⟨r, o1, o2⟩ := o
  exact (pe_cmpR o1 ha hb hm).wk fun σ H Q h => tOp_of (op := compareOp op) o2 h
/-- a comparison as a test -/
theorem sb_cmp {op : CmpOp} (o : OpS X EX (compareOp op) f) (ha : SE X EX a ma) (hb : SE X EX b mb) (hm : behindInMarks op b = false := by first | exact nobehind _ (by decide) (by decide) | rfl) : SB X EX (.Compare a [op] [b] pos) (mBin f ma mb) := by
  obtain ⟨r, o1, o2⟩ := o
  refine (pt_cmpR o1 ha hb hm).wk fun σ H Q h => ?_
  obtain ⟨W, S, ρ, h, e, p⟩ := h
  refine tOp_of (f := f) (ma := ma) (mb := mb) (op := compareOp op) o2 ⟨W, S, ρ, h, e, ?_⟩
  exact p.val
/-- a op b op' c -/
def mChain (f g : Vl → Vl → Sto → RE) (ma mb mc : ME) : ME := fun ρ S => (ma ρ S).bind fun x S1 => (mb ρ S1).bind fun y S2 => (f x y S2).bind fun z S3 => onB z .bad fun k =>
  if k then (mc ρ S3).bind fun w S4 => g y w S4 else .ok (.d (.bool false)) S3
/-- an operation that changes nothing and gives a truth -/
def PureB (f : Vl → Vl → Sto → RE) : Prop := ∀ x y S, f x y S = .bad ∨ ∃ b, f x y S = .ok (.d (.bool b)) S
theorem chain_of {op op' : Value → Value → Sem Value} {r r' : R2} (pf : PureB f) (o : ∀ W S H σ x y v u Q, HR X.K X.mg W S H → Rep X.K W H v x → Rep X.K W H u y → PV X.K X.mg EX W H σ Q (f x y S) → r v u H Q)
    (o' : ∀ W S H σ x y v u Q, HR X.K X.mg W S H → Rep X.K W H v x → Rep X.K W H u y → PV X.K X.mg EX W H σ Q (g x y S) → r' v u H Q)
    {σ : L2.St} {H : Hp} {Q : VK} (h : T X.K X.mg EX (mChain f g ma mb mc) σ H Q) : tChain r r' (T X.K X.mg EX ma) (T X.K X.mg EX mb) (T X.K X.mg EX mc) σ H Q := by
  obtain ⟨W, S, ρ, h, e, p⟩ := h
  refine T.step h e p fun x S1 W1 H1 v e1 h1 er1 r1 p1 => ?_
  refine T.step h1 er1 p1 fun y S2 W2 H2 u e2 h2 er2 r2 p2 => ?_
  rcases pf x y S2 with q | ⟨k, q⟩
  · rw [q] at p2; exact p2.elim
  · refine o W2 S2 H2 σ x y v u _ h2 (Rep.ext e2 _ _ r1) r2 ?_
    rw [q] at p2 ⊢
    intro W3 H3 w3 e3 h3 r3
    cases r3 with
    | d r3 =>
      cases r3
      refine ⟨k, rfl, ?_⟩
      have p3 := PV.ext e3 p2
      cases k with
      | true =>
        rw [if_pos rfl]
        refine T.step h3 (er2.ext e3) p3 fun z S4 W4 H4 w e4 h4 er4 r4 p4 => ?_
        exact o' W4 S4 H4 σ y z u w Q h4 (Rep.ext (e3.trans e4) _ _ r2) r4 p4
      | false =>
        rw [if_neg Bool.false_ne_true]
        exact p3.hereD h3 (.bl false)
theorem se_chain {op op' : CmpOp} (pf : PureB f) (o : OpS X EX (compareOp op) f) (o' : OpS X EX (compareOp op') g) (ha : SE X EX a ma) (hb : SE X EX b mb) (hc : SE X EX c mc)
    (hm : lastMarks [op, op'] [b, c] = false := by rfl) : SE X EX (.Compare a [op, op'] [b, c] pos) (mChain f g ma mb mc) := by
  obtain ⟨r, o1, o2⟩ := o
  obtain ⟨r', o1', o2'⟩ := o'
  exact (pe_chain o1 o1' ha hb hc hm).wk fun σ H Q h => chain_of (op := compareOp op) (op' := compareOp op') pf o2 o2' h
theorem sb_chain {op op' : CmpOp} (pf : PureB f) (o : OpS X EX (compareOp op) f) (o' : OpS X EX (compareOp op') g) (ha : SE X EX a ma) (hb : SE X EX b mb) (hc : SE X EX c mc)
    (hm : lastMarks [op, op'] [b, c] = false := by rfl) : SB X EX (.Compare a [op, op'] [b, c] pos) (mChain f g ma mb mc) := by
  obtain ⟨r, o1, o2⟩ := o
  obtain ⟨r', o1', o2'⟩ := o'
  refine (pt_chain o1 o1' ha hb hc hm).wk fun σ H Q h => ?_
  obtain ⟨W, S, ρ, h, e, p⟩ := h
  refine chain_of (f := f) (g := g) (ma := ma) (mb := mb) (mc := mc) (op := compareOp op) (op' := compareOp op') pf o2 o2' ⟨W, S, ρ, h, e, ?_⟩
  exact p.val
end

/-! ### truth of any value -/
def truV (x : Vl) (S : Sto) : Option Bool := match x with
  | .d .none => some false
  | .d (.bool b) => some b
  | .d (.int i) => some (i != 0)
  | .d (.str y) => if y.length ≤ sizeLine then some ((y.length : Int) != 0) else none
  | .d (.list xs) => some (!xs.isEmpty)
  | .d (.tuple xs) => some (!xs.isEmpty)
  | .d (.dict xs) => some (!xs.isEmpty)
  | .t xs => some (!xs.isEmpty)
  | .k xs => some (!xs.isEmpty)
  | .q xs => some (!xs.isEmpty)
  | .r l => match S[l]? with
    | some (.lst xs) => some (!xs.isEmpty)
    | some (.dk xs) => some (!xs.isEmpty)
    | _ => none
def mTru (ma : ME) : ME := fun ρ S => (ma ρ S).bind fun x S1 => match truV x S1 with
  | some b => .ok (.d (.bool b)) S1
  | none => .bad
section
variable {K : PySem.W.Frag} {mg : Str → Option Value} {W : Wd} {H : Hp} {S : Sto}
theorem FdP.empty {F : Addr → Prop} {us : List (Key × V)} {ds : List (PyData × PyData)} (h : FdP F H us ds) : us.isEmpty = ds.isEmpty := by cases h <;> rfl
theorem FdA.empty {F : Addr → Prop} {us : List V} {ds : List PyData} (h : FdA F H us ds) : us.isEmpty = ds.isEmpty := by cases h <;> rfl
theorem RepA.empty {us : List V} {ds : List Vl} (h : RepA K W H us ds) : us.isEmpty = ds.isEmpty := by cases h <;> rfl
theorem RepK.empty {κ : Type} {us : List (κ × V)} {ds : List (κ × Vl)} (h : RepK K W H us ds) : us.isEmpty = ds.isEmpty := by cases h <;> rfl
theorem truV_ok (h : HR K mg W S H) {x : Vl} {v : V} {b : Bool} (r : Rep K W H v x) (e : truV x S = some b) : TruV K v H b := by
  cases r with
  | d r =>
    cases r with
    | non => cases e; rfl
    | bl b => cases e; rfl
    | int i => cases e; rfl
    | str y =>
      simp only [truV] at e
      split at e
      · cases e; exact ⟨by assumption, rfl⟩
      · cases e
    | lst h1 h2 => cases e; exact .inl ⟨_, h1.sq, by rw [h2.empty]⟩
    | tup h1 h2 => cases e; exact .inr (.inl ⟨_, h1.sq, by rw [h2.empty]⟩)
    | dk h0 h1 h2 => cases e; exact .inr (.inr ⟨_, h1, by rw [h2.empty]⟩)
  | t h1 h2 => cases e; exact .inr (.inl ⟨_, h1.sq, by rw [h2.empty]⟩)
  | k h1 h2 => cases e; exact .inr (.inl ⟨_, h1.sq, by rw [h2.empty]⟩)
  | q h1 h2 => cases e; exact .inl ⟨_, h1.sq, by rw [h2.empty]⟩
  | r h1 =>
    rename_i a l
    simp only [truV] at e
    cases q : S[l]? with
    | none => rw [q] at e; cases e
    | some c =>
      rw [q] at e
      have hc := h.cell l c a q h1
      cases c with
      | lst xs => cases e; obtain ⟨vs, h2, h3⟩ := hc; exact .inl ⟨_, .of h2, by rw [h3.empty]⟩
      | dk xs => cases e; obtain ⟨vs, h2, h3⟩ := hc; exact .inr (.inr ⟨_, h2, by rw [h3.empty]⟩)
      | _ => cases e
end
section
variable {X : Cx} {EX : WX} {pos : Pos} {a b c : Expr} {ma mb mc : ME}
/-- a value's truth as a test -/
theorem sb_tru (ha : SE X EX a ma) (he : ∀ whole, isTrue a X.env whole = (do let v ← whole; standAt a.pos; holding [v] (truthy v)) := by intro _; rfl) : SB X EX a (mTru ma) := by
  refine (pt_truth ha he).wk fun σ H Q h => ?_
  obtain ⟨W, S, ρ, h, e, p⟩ := h
  refine T.stepB h e p fun x S1 W1 H1 v e1 h1 er1 r1 p1 => ?_
  cases q : truV x S1 with
  | none => simp only [q] at p1; exact p1.elim
  | some k => simp only [q] at p1; exact ⟨k, truV_ok h1 r1 q, p1 W1 H1 Ext.refl h1⟩
/-- an expression that gives a truth, as a test -/
theorem sb_val (ha : SE X EX a ma) (he : ∀ whole, isTrue a X.env whole = (do let v ← whole; standAt a.pos; holding [v] (truthy v)) := by intro _; rfl) : SB X EX a ma := by
  refine (pt_val ha he).wk fun σ H Q h => ?_
  obtain ⟨W, S, ρ, h, e, p⟩ := h
  refine ⟨W, S, ρ, h, e, ?_⟩
  exact p.val
def mAnd (ma mb : ME) : ME := fun ρ S => (ma ρ S).bind fun x S1 => onB x .bad fun k => if k then mb ρ S1 else .ok (.d (.bool false)) S1
def mOr (ma mb : ME) : ME := fun ρ S => (ma ρ S).bind fun x S1 => onB x .bad fun k => if k then .ok (.d (.bool true)) S1 else mb ρ S1
def mNot (ma : ME) : ME := fun ρ S => (ma ρ S).bind fun x S1 => onB x .bad fun k => .ok (.d (.bool !k)) S1
def mIte (mt ma mb : ME) : ME := fun ρ S => (mt ρ S).bind fun x S1 => onB x .bad fun k => if k then ma ρ S1 else mb ρ S1
variable {rest : List Expr}
theorem sw_and1 (ha : SB X EX a ma) : SW X EX (.BoolOp .And [a] pos) ma := pw_and1 ha
theorem sw_or1 (ha : SB X EX a ma) : SW X EX (.BoolOp .Or [a] pos) ma := pw_or1 ha
theorem sw_and (ha : SB X EX a ma) (hb : SW X EX (.BoolOp .And (b :: rest) pos) mb) : SW X EX (.BoolOp .And (a :: b :: rest) pos) (mAnd ma mb) := by
  refine (pw_and ha hb).wk fun σ H Q h => ?_
  obtain ⟨W, S, ρ, h, e, p⟩ := h
  refine TB.stepB h e p fun k S1 W1 H1 e1 h1 er1 p1 => ?_
  cases k with
  | true => exact iteT ⟨W1, S1, ρ, h1, er1, p1⟩
  | false => exact iteF (p1 W1 H1 Ext.refl h1)
theorem sw_or (ha : SB X EX a ma) (hb : SW X EX (.BoolOp .Or (b :: rest) pos) mb) : SW X EX (.BoolOp .Or (a :: b :: rest) pos) (mOr ma mb) := by
  refine (pw_or ha hb).wk fun σ H Q h => ?_
  obtain ⟨W, S, ρ, h, e, p⟩ := h
  refine TB.stepB h e p fun k S1 W1 H1 e1 h1 er1 p1 => ?_
  cases k with
  | true => exact iteT (p1 W1 H1 Ext.refl h1)
  | false => exact iteF ⟨W1, S1, ρ, h1, er1, p1⟩
theorem sb_w (h : SW X EX a ma) : SB X EX a ma := h.pt
theorem sb_not (ha : SB X EX a ma) : SB X EX (.UnaryOp .Not a pos) (mNot ma) := by
  refine (pt_not ha).wk fun σ H Q h => ?_
  obtain ⟨W, S, ρ, h, e, p⟩ := h
  exact TB.stepB h e p fun k S1 W1 H1 e1 h1 er1 p1 => p1 W1 H1 Ext.refl h1
/-- .. as values -/
theorem se_one {op} (h : SE X EX a ma) : SE X EX (.BoolOp op [a] pos) ma := pe_one h
theorem se_and (ha : SE X EX a ma) (hb : SE X EX (.BoolOp .And (b :: rest) pos) mb) : SE X EX (.BoolOp .And (a :: b :: rest) pos) (mAnd ma mb) := by
  refine (pe_and ha hb).wk fun σ H Q h => ?_
  obtain ⟨W, S, ρ, h, e, p⟩ := h
  refine T.step h e p fun x S1 W1 H1 v e1 h1 er1 r1 p1 => ?_
  cases x with
  | d x =>
    cases x <;> first
      | (cases r1 with
         | d r1 =>
           cases r1
           refine ⟨_, rfl, ?_⟩
           rename_i k
           cases k with
           | true => exact iteT ⟨W1, S1, ρ, h1, er1, p1⟩
           | false => exact iteF (p1.hereD h1 (.bl false)))
      | exact p1.elim
  | _ => exact p1.elim
theorem se_or (ha : SE X EX a ma) (hb : SE X EX (.BoolOp .Or (b :: rest) pos) mb) : SE X EX (.BoolOp .Or (a :: b :: rest) pos) (mOr ma mb) := by
  refine (pe_or ha hb).wk fun σ H Q h => ?_
  obtain ⟨W, S, ρ, h, e, p⟩ := h
  refine T.step h e p fun x S1 W1 H1 v e1 h1 er1 r1 p1 => ?_
  cases x with
  | d x =>
    cases x <;> first
      | (cases r1 with
         | d r1 =>
           cases r1
           refine ⟨_, rfl, ?_⟩
           rename_i k
           cases k with
           | true => exact iteT (p1.hereD h1 (.bl true))
           | false => exact iteF ⟨W1, S1, ρ, h1, er1, p1⟩)
      | exact p1.elim
  | _ => exact p1.elim
theorem se_not (ha : SE X EX a ma) : SE X EX (.UnaryOp .Not a pos) (mNot ma) := by
  refine (pe_not ha).wk fun σ H Q h => ?_
  obtain ⟨W, S, ρ, h, e, p⟩ := h
  refine T.step h e p fun x S1 W1 H1 v e1 h1 er1 r1 p1 => ?_
  cases x with
  | d x =>
    cases x <;> first
      | (cases r1 with
         | d r1 => cases r1; exact ⟨_, rfl, p1.hereD h1 (.bl _)⟩)
      | exact p1.elim
  | _ => exact p1.elim
theorem se_ite {t : Expr} {mt : ME} (ht : SB X EX t mt) (ha : SE X EX a ma) (hb : SE X EX b mb) : SE X EX (.IfExp t a b pos) (mIte mt ma mb) := by
  refine (pe_ifExp ht ha hb).wk fun σ H Q h => ?_
  obtain ⟨W, S, ρ, h, e, p⟩ := h
  refine TB.stepV h e p fun k S1 W1 H1 e1 h1 er1 p1 => ?_
  cases k with
  | true => exact iteT ⟨W1, S1, ρ, h1, er1, p1⟩
  | false => exact iteF ⟨W1, S1, ρ, h1, er1, p1⟩
end

/-! ### argument lists, calls -/
def aNil : MA := fun _ S => .ok [] S
def RA.bindA (r : RA) (f : List Vl → Sto → RA) : RA := match r with
  | .ok x S => f x S
  | .exc e S => .exc e S
  | .bad => .bad
@[simp] theorem RA.bindA_ok (x : List Vl) (S : Sto) (f : List Vl → Sto → RA) : (RA.ok x S).bindA f = f x S := rfl
@[simp] theorem RA.bindA_exc (x : Exn) (S : Sto) (f : List Vl → Sto → RA) : (RA.exc x S).bindA f = .exc x S := rfl
@[simp] theorem RA.bindA_bad (f : List Vl → Sto → RA) : RA.bad.bindA f = .bad := rfl
def aCons (m : ME) (r : MA) : MA := fun ρ S => (m ρ S).bindA fun x S1 => (r ρ S1).bindA fun xs S2 => .ok (x :: xs) S2
theorem TAr.stepA {K : PySem.W.Frag} {mg : Str → Option Value} {EX : WX} {W : Wd} {H : Hp} {S : Sto} {ρ : Nv} {σ : L2.St} {Q : List V → Hp → Prop} {mA : MA} {f : List Vl → Sto → RA} {Q1 : List V → Hp → Prop} (h : HR K mg W S H) (e : ER K W H ρ σ) (p : PAr K mg EX W H σ Q ((mA ρ S).bindA f))
    (k : ∀ x S1 W1 H1 v, Ext W H W1 H1 → HR K mg W1 S1 H1 → ER K W1 H1 ρ σ → RepA K W1 H1 v x → PAr K mg EX W1 H1 σ Q (f x S1) → Q1 v H1) : TAr K mg EX mA σ H Q1 := by
  refine ⟨W, S, ρ, h, e, ?_⟩
  cases q : mA ρ S with
  | ok x S1 =>
    rw [q] at p
    exact fun W1 H1 v e1 h1 r => k x S1 W1 H1 v e1 h1 (e.ext e1) r (PAr.ext e1 p)
  | exc x S1 => rw [q] at p; exact p
  | bad => rw [q] at p; exact p
section
variable {X : Cx} {EX : WX} {pos : Pos} {e : Expr} {es : List Expr} {m : ME} {r : MA}
theorem sa_nil : SA X EX [] aNil := pa_nil.wk fun σ H Q ⟨W, S, ρ, h, e, p⟩ => p W H [] Ext.refl h .nil
theorem sa_cons (ha : SE X EX e m) (hr : SA X EX es r) (hs : starEach (e :: es) X.env = (false, eval e X.env) :: starEach es X.env := by rfl) : SA X EX (e :: es) (aCons m r) := by
  refine (pa_cons ha hr hs).wk fun σ H Q h => ?_
  obtain ⟨W, S, ρ, h, e, p⟩ := h
  refine T.stepA h e p fun x S1 W1 H1 v e1 h1 er1 r1 p1 => ?_
  refine TAr.stepA h1 er1 p1 fun xs S2 W2 H2 vs e2 h2 er2 r2 p2 => ?_
  exact p2 W2 H2 (v :: vs) Ext.refl h2 (.cons (Rep.ext e2 _ _ r1) r2)
end
end EV

/-! EvTup: new tuples, told with their object where all items are objects. -/
namespace EV
open PySem PySem.Spec PyProof.Rows L2
section
variable {X : Cx} {pins : List (Addr × Obj)} {σ : L2.St} {H : Hp} {s : Shared} {xs : List V}
theorem laidT {its : List Value} {tk : Nat} (I : Inv X pins σ H s) (r : Vals xs its) (hz : xs.length ≤ sizeLine) :
    Inv X pins σ (upd H s.heap.objs.size (tupO { cls := .type "tuple", data := .seq its.toArray } xs)) { s with heap := s.heap.push { cls := .type "tuple", data := .seq its.toArray }, toks := tk } := by
  refine I.laid (t' := tk) (fun b u e => Heap.get?_push_of_some _ e) (Nat.le_refl _) ?_
  have base : ∀ H' : Hp, ObjOk X.prog X.w H' (s.heap.push { cls := .type "tuple", data := .seq its.toArray }) s.heap.objs.size (.tup xs) := fun H' => ⟨hz, its, r, IsTup.new _ _⟩
  unfold tupO
  split
  · exact ⟨Heap.get?_push_size _ rfl, base _⟩
  · exact base _
/-- what a new tuple is to be good for -/
def NewT (xs : List V) (H : Hp) (Q : VK) : Prop := ∀ (p : Addr) (o : Obj), H p = none → o.dict = none → Q (.ref p) (upd H p (tupO o xs))
def tTupO (t : TA) : TE := fun σ H Q => t σ H fun xs H1 => xs.length ≤ sizeLine ∧ NewT xs H1 Q
theorem pe_tupO {es : List Expr} {t : TA} {pos : Pos} {x1} (h : PA X es t) : PE X (.Tuple es x1 pos) (tTupO t) := by
  refine ⟨fun pins s σ H Q I hq => ?_⟩
  refine wpAny_Tuple_spliced (thn (h.run pos pins s σ H _ I hq) fun us s1 ⟨xs, H1, I1, r, z, q⟩ => ⟨by rw [← r.length]; exact z, ?_⟩)
  exact ⟨.ref s1.heap.objs.size, _, laidT (tk := s1.toks) I1 r z, rfl, q _ _ I1.fresh rfl⟩
theorem call_tupleO : CallR X (.type "tuple") (fun xs H Q => ∃ p ys, xs = [.ref p] ∧ ((SqL X.K H p ys ∧ NewT ys H Q) ∨ (SqT X.K H p ys ∧ Q (.ref p) H))) := by
  intro pins s σ H xs us Q I r h
  obtain ⟨p, ys, rfl, h⟩ := h
  obtain ⟨u, rfl, rx⟩ := vals1 r
  cases rx
  rcases h with ⟨hq, q⟩ | ⟨hq, q⟩
  · obtain ⟨its, r', pl, hz⟩ := I.list hq
    have hlen := r'.length
    refine call_tuple_list pl.isList (fun h' kp => ?_) (by simp only [List.size_toArray]; omega)
    have I1 : Inv X pins σ H { s with heap := h' } := I.kept (t' := s.toks) kp
    exact ⟨.ref h'.objs.size, _, laidT (tk := s.toks) I1 r' hz, rfl, q _ _ I1.fresh rfl⟩
  · obtain ⟨its, r', pl, hz⟩ := I.tuple hq
    exact call_tuple_same pl ⟨.ref p, H, I, rfl, q⟩
def rCatO (K : PySem.W.Frag) : R2 := fun x y H Q => ∃ a b xs ys, x = .ref a ∧ y = .ref b ∧ SqT K H a xs ∧ SqT K H b ys ∧ xs.length + ys.length ≤ sizeLine ∧
  (xs = [] → Q (.ref b) H) ∧ (xs ≠ [] → ys = [] → Q (.ref a) H) ∧ (xs ≠ [] → ys ≠ [] → NewT (xs ++ ys) H Q)
theorem op_catO : OpR X (binaryOp .Add) (rCatO X.K) := by
  intro pins s σ H x y v u Q I rx ry h
  obtain ⟨a, b, xs, ys, rfl, rfl, ha, hb, hz, q0, q1, q2⟩ := h
  cases rx
  cases ry
  obtain ⟨its, r1, p1, _⟩ := I.tuple ha
  obtain ⟨its2, r2, p2, _⟩ := I.tuple hb
  by_cases hx : xs = []
  · subst hx
    cases r1
    exact cat_tup0 p1 p2 ⟨.ref b, H, I, rfl, q0 rfl⟩
  · refine HT.cat_tup p1 p2 (fun z => hx (r1.nil_iff.mp z)) (fun z => ⟨.ref a, H, I, rfl, q1 hx (r2.nil_iff.mp z)⟩) (fun z => ?_) (by rw [← r1.length, ← r2.length]; exact hz)
    exact ⟨.ref s.heap.objs.size, _, laidT (tk := s.toks) I (r1.append r2) (by rw [List.length_append]; exact hz), rfl, q2 hx (fun w => z (r2.nil_iff.mpr w)) _ _ I.fresh rfl⟩
def rSlO (K : PySem.W.Frag) : V → Option Int → Option Int → Hp → VK → Prop := fun x lo hi H Q => ∃ a xs, x = .ref a ∧ SqT K H a xs ∧
  (HT.sIx xs.length 0 lo = 0 ∧ HT.sIx xs.length xs.length hi = xs.length → Q (.ref a) H) ∧ (¬ (HT.sIx xs.length 0 lo = 0 ∧ HT.sIx xs.length xs.length hi = xs.length) → NewT (cutV xs lo hi) H Q)
theorem sl_tupO : SlR X (rSlO X.K) := by
  intro pins s σ H x v vl vu lo hi sl Q I rx hs pl pu h
  obtain ⟨a, xs, rfl, hx, q1, q2⟩ := h
  cases rx
  obtain ⟨its, r, ht, hz⟩ := I.tuple hx
  have hlen : its.toArray.size = xs.length := by rw [List.size_toArray]; exact r.length.symm
  refine ⟨"tuple", _, PyProof.Rows.slot_tuple_getitem.lookup, ht.typeIs, ?_⟩
  by_cases hw : HT.sIx xs.length 0 lo = 0 ∧ HT.sIx xs.length xs.length hi = xs.length
  · exact getItem_tuple_whole ht hs pl pu (by rw [hlen]; exact hw) ⟨.ref a, H, I, rfl, q1 hw⟩
  · refine HT.getItem_tuple_cut ht hs pl pu (by rw [hlen]; exact hw) ?_ (by rw [hlen]; exact hz)
    rw [hlen]
    exact ⟨.ref s.heap.objs.size, _, laidT (tk := s.toks) I ((r.drop (HT.sIx xs.length 0 lo)).take (HT.sIx xs.length xs.length hi - HT.sIx xs.length 0 lo)) (Nat.le_trans (cutV_length xs lo hi) hz), rfl, q2 hw _ _ I.fresh rfl⟩
end
end EV

/-! EvOps: what the operators are on values. -/
namespace EV
open PySem PySem.Spec PyProof.Rows L2

def isRefD : PyData → Bool
  | .list _ => true
  | .tuple _ => true
  | .dict _ => true
  | _ => false
def mkTup (xs : List Vl) : Vl := match allD xs with
  | some ds => .d (.tuple ds)
  | none => .t xs
@[simp] theorem mkTup_d (ds : List PyData) : mkTup (ds.map .d) = .d (.tuple ds) := by simp [mkTup]
section
variable {K : PySem.W.Frag} {mg : Str → Option Value} {EX : WX} {W : Wd} {H : Hp} {S : Sto} {p : Addr} {σ : L2.St} {Q : VK}
def mkTupU (xs : List Vl) : Vl := match allD xs with
  | some ds => if ds.all isRefD then .t xs else .d (.tuple ds)
  | none => .t xs
theorem FdA.refs {F : Addr → Prop} {H : Hp} : ∀ {ds : List PyData} {vs : List V}, FdA F H vs ds → vs.all isRefV = ds.all isRefD
  | _, _, .nil => rfl
  | _, _, .cons h t => by
    rw [List.all_cons, List.all_cons, FdA.refs t]
    cases h <;> rfl
theorem rep_mkTup {a : Addr} {vs : List V} {xs : List Vl} (h : TpF W.F H a vs) (r : RepA K W H vs xs) : Rep K W H (.ref a) (mkTup xs) := by
  unfold mkTup
  cases e : allD xs with
  | none => exact .t h.u r
  | some ds =>
    have := allD_some e
    subst this
    exact .d (.tup h (RepA.toD r))
theorem rep_mkTupU {a : Addr} {vs : List V} {xs : List Vl} (h : W.F a ∧ H a = some (.tup vs)) (r : RepA K W H vs xs) : Rep K W H (.ref a) (mkTupU xs) := by
  unfold mkTupU
  have hu : TpU W.F H a vs := ⟨h.1, .inl h.2⟩
  split
  · rename_i ds e
    have := allD_some e
    subst this
    have rd := RepA.toD r
    split
    · exact .t hu r
    · rename_i hx
      refine .d (.tup ⟨h.1, { cls := .type "tuple", data := .seq #[] 0 }, rfl, ?_⟩ rd)
      unfold tupO
      rw [rd.refs, if_neg hx]
      exact h.2
  · exact .t hu r
theorem newTup (h : HR K mg W S H) (hp : H p = none) {o : Obj} (ho : o.dict = none) {vs : List V} {xs : List Vl} (r : RepA K W H vs xs) : Rep K (W.fz p) (upd H p (tupO o vs)) (.ref p) (mkTup xs) :=
  rep_mkTup ⟨.inr rfl, o, ho, upd_same⟩ (RepA.ext (ext_fz h hp) _ _ r)
theorem newTupU (h : HR K mg W S H) (hp : H p = none) {vs : List V} {xs : List Vl} (r : RepA K W H vs xs) : Rep K (W.fz p) (upd H p (.tup vs)) (.ref p) (mkTupU xs) :=
  rep_mkTupU ⟨.inr rfl, upd_same⟩ (RepA.ext (ext_fz h hp) _ _ r)
theorem newLst (h : HR K mg W S H) (hp : H p = none) {vs : List V} {ds : List PyData} (r : FdA W.F H vs ds) : Rep K (W.fz p) (upd H p (.lst vs)) (.ref p) (.d (.list ds)) :=
  .d (.lst ⟨.inr rfl, upd_same⟩ (FdA.st (ext_fz (o := .lst vs) h hp).fz (ext_fz h hp).st _ _ r))
/-- a new thing that never changes is the value -/
theorem PV.newF {x : Vl} {v : V} {o : HO} (h : HR K mg W S H) (hp : H p = none) (q : PV K mg EX W H σ Q (.ok x S)) (r : Rep K (W.fz p) (upd H p o) v x) : Q v (upd H p o) :=
  q (W.fz p) (upd H p o) v (ext_fz h hp) (h.fz hp) r

/-- the items of a list (true), of a tuple (false) -/
def seqV (x : Vl) (S : Sto) : Option (Bool × List Vl) := match x with
  | .d (.list ds) => some (true, ds.map .d)
  | .d (.tuple ds) => some (false, ds.map .d)
  | .t xs => some (false, xs)
  | .k ds => some (false, ds.map .d)
  | .q ds => some (true, ds.map .d)
  | .r l => match S[l]? with
    | some (.lst xs) => some (true, xs)
    | _ => none
  | _ => none
theorem seqV_ok (h : HR K mg W S H) {x : Vl} {v : V} {b : Bool} {xs : List Vl} (r : Rep K W H v x) (e : seqV x S = some (b, xs)) :
    ∃ a vs, v = .ref a ∧ RepA K W H vs xs ∧ (b = true → SqL K H a vs) ∧ (b = false → SqT K H a vs) := by
  cases r with
  | d r =>
    cases r with
    | lst h1 h2 => cases e; exact ⟨_, _, rfl, .ofD h2, fun _ => h1.sq, fun z => (by cases z)⟩
    | tup h1 h2 => cases e; exact ⟨_, _, rfl, .ofD h2, fun z => (by cases z), fun _ => h1.sq⟩
    | _ => cases e
  | t h1 h2 => cases e; exact ⟨_, _, rfl, h2, fun z => (by cases z), fun _ => h1.sq⟩
  | k h1 h2 => cases e; exact ⟨_, _, rfl, .ofD h2, fun z => (by cases z), fun _ => h1.sq⟩
  | q h1 h2 => cases e; exact ⟨_, _, rfl, .ofD h2, fun _ => h1.sq, fun z => (by cases z)⟩
  | r h1 =>
    rename_i a l
    simp only [seqV] at e
    cases q : S[l]? with
    | none => rw [q] at e; cases e
    | some c =>
      rw [q] at e
      have hc := h.cell l c a q h1
      cases c with
      | lst xs => cases e; obtain ⟨vs, h2, h3⟩ := hc; exact ⟨_, _, rfl, h3, fun _ => .of h2, fun z => (by cases z)⟩
      | _ => cases e
/-- data that is seen in a value -/
def view (x : Vl) (S : Sto) : Option PyData := match x with
  | .d x => some x
  | .r l => match S[l]? with
    | some (.lst xs) => (allD xs).map .list
    | _ => none
  | .k xs => some (.tuple xs)
  | .q xs => some (.list xs)
  | .t xs => (allD xs).map .tuple
theorem view_dp (h : HR K mg W S H) {x : Vl} {v : V} {d : PyData} (r : Rep K W H v x) (e : view x S = some d) (c : d.canLay0 = true) : Dp K H v d := by
  cases r with
  | d r => cases e; exact Fd.dp _ _ c r
  | t h1 h2 =>
    simp only [view, Option.map_eq_some_iff] at e
    obtain ⟨ds, e1, rfl⟩ := e
    have := allD_some e1
    subst this
    exact .tup h1.sq (FdA.dp _ _ c (RepA.toD h2))
  | k h1 h2 => cases e; exact .tup h1.sq (FdA.dp _ _ c h2)
  | q h1 h2 => cases e; exact .lst h1.sq (FdA.dp _ _ c h2)
  | r h1 =>
    rename_i a l
    simp only [view] at e
    cases q : S[l]? with
    | none => rw [q] at e; cases e
    | some c' =>
      rw [q] at e
      have hc := h.cell l c' a q h1
      cases c' with
      | lst xs =>
        simp only [Option.map_eq_some_iff] at e
        obtain ⟨ds, e1, rfl⟩ := e
        obtain ⟨vs, h2, h3⟩ := hc
        have := allD_some e1
        subst this
        exact .lst (.of h2) (FdA.dp _ _ c (RepA.toD h3))
      | _ => cases e
end

/-! ### + -/
def addV (x y : Vl) (S : Sto) : RE := match x, y with
  | .d (.int i), .d (.int j) => .ok (.d (.int (i + j))) S
  | .d (.str a), .d (.str b) => if a.length + b.length ≤ sizeLine then .ok (.d (.str (a ++ b))) S else .bad
  | .d (.tuple a), .d (.tuple b) => if a.length + b.length ≤ sizeLine then .ok (.d (.tuple (a ++ b))) S else .bad
  | .k a, .k b => if a.length + b.length ≤ sizeLine ∧ a ≠ [] ∧ b ≠ [] then .ok (.d (.tuple (a ++ b))) S else .bad
  | .d (.list a), .d (.list b) => if a.length + b.length ≤ sizeLine then .ok (.d (.list (a ++ b))) S else .bad
  | _, _ => .bad
section
variable {X : Cx} {EX : WX}
theorem PV.noneOf {K : PySem.W.Frag} {mg : Str → Option Value} {W : Wd} {H : Hp} {σ : L2.St} {Q : VK} {P : Prop} (p : PV K mg EX W H σ Q .bad) : P := p.elim
theorem op_addV : OpS X EX (binaryOp .Add) addV := by
  refine ⟨_, op_add.or (op_add_str.or (op_catO.or op_cat)), fun W S H σ x y v u Q h rx ry p => ?_⟩
  unfold addV at p
  split at p
  · cases rx with | d rx => cases ry with | d ry =>
    cases rx; cases ry
    exact .inl ⟨_, _, rfl, rfl, p.hereD h (.int _)⟩
  · cases rx with | d rx => cases ry with | d ry =>
    cases rx; cases ry
    split at p
    · exact .inr (.inl ⟨_, _, rfl, rfl, by assumption, p.hereD h (.str _)⟩)
    · exact p.elim
  · cases rx with | d rx => cases ry with | d ry =>
    split at p
    · rename_i a b hz
      cases rx with | tup h1 h2 => cases ry with | tup g1 g2 =>
      refine .inr (.inr (.inl ⟨_, _, _, _, rfl, rfl, h1.sq, g1.sq, by rw [h2.length, g2.length]; exact hz, fun e => ?_, fun _ e => ?_, fun _ _ q o hq ho => ?_⟩))
      · subst e
        cases h2
        rw [List.nil_append] at p
        exact p.hereD h (.tup g1 g2)
      · subst e
        cases g2
        rw [List.append_nil] at p
        exact p.hereD h (.tup h1 h2)
      · exact p.newF h hq (by have := newTup h hq ho (RepA.ofD (h2.append g2)); rwa [mkTup_d] at this)
    · exact p.elim
  · cases rx with | k h1 h2 => cases ry with | k g1 g2 =>
    split at p
    · rename_i a b hz
      refine .inr (.inr (.inl ⟨_, _, _, _, rfl, rfl, h1.sq, g1.sq, by rw [h2.length, g2.length]; exact hz.1, fun e => ?_, fun _ e => ?_, fun _ _ q o hq ho => ?_⟩))
      · subst e
        cases h2
        exact absurd rfl hz.2.1
      · subst e
        cases g2
        exact absurd rfl hz.2.2
      · exact p.newF h hq (by have := newTup h hq ho (RepA.ofD (h2.append g2)); rwa [mkTup_d] at this)
    · exact p.elim
  · cases rx with | d rx => cases ry with | d ry =>
    split at p
    · rename_i a b hz
      cases rx with | lst h1 h2 => cases ry with | lst g1 g2 =>
      exact .inr (.inr (.inr ⟨_, _, _, _, rfl, rfl, h1.2, g1.2, by rw [h2.length, g2.length]; exact hz, fun q hq => p.newF h hq (newLst h hq (h2.append g2))⟩))
    · exact p.elim
  · exact p.elim

/-! ### - * // % ** -/
def subV (x y : Vl) (S : Sto) : RE := match x, y with
  | .d (.int i), .d (.int j) => .ok (.d (.int (i - j))) S
  | _, _ => .bad
theorem op_subV : OpS X EX (binaryOp .Sub) subV := by
  refine ⟨_, op_sub, fun W S H σ x y v u Q h rx ry p => ?_⟩
  unfold subV at p
  split at p
  · cases rx with | d rx => cases ry with | d ry =>
    cases rx; cases ry
    exact ⟨_, _, rfl, rfl, p.hereD h (.int _)⟩
  · exact p.elim
def smallI (i : Int) : Bool := decide (-(2 ^ 64) < i ∧ i < 2 ^ 64)
def strRep (x : Str) (n : Int) : Str := if n < 1 then Str.empty else if (n == 1 || x.length == 0) = true then x else ⟨(List.replicate n.toNat x.cps).foldl (· ++ ·) #[]⟩
theorem size_rep {α : Type} (a : Array α) (k : Nat) : ((List.replicate k a).foldl (· ++ ·) #[]).size = k * a.size := by
  have : ∀ (k : Nat) (b : Array α), ((List.replicate k a).foldl (· ++ ·) b).size = b.size + k * a.size := by
    intro k
    induction k with
    | zero => intro b; simp
    | succ k ih => intro b; rw [List.replicate_succ, List.foldl_cons, ih, Array.size_append, Nat.succ_mul]; omega
  rw [this]; simp
theorem op_mul_str : OpR X (binaryOp .Mult) (fun x y H Q => ∃ z n, x = .str z ∧ y = .int n ∧ -1000000 ≤ n ∧ n ≤ 1000000 ∧ z.length * n.toNat ≤ sizeLine ∧ Q (.str (strRep z n)) H) := by
  intro pins s σ H x y v u Q I rx ry h
  obtain ⟨z, n, rfl, rfl, h1, h2, hz, q⟩ := h
  obtain ⟨t, rfl⟩ := rx
  obtain ⟨t', rfl⟩ := ry
  refine PySem.P.mul_str ?_ ?_ ?_ ?_
  · have e1 : decide (n < -(2 ^ 63 : Int)) = false := decide_eq_false (by omega)
    have e2 : decide (n ≥ 2 ^ 63) = false := decide_eq_false (by omega)
    rw [e1, e2]; rfl
  · intro hn _ hgt
    have h3 : z.length ≤ z.length * n.toNat := Nat.le_mul_of_pos_right _ (by omega)
    have h4 : (z.length : Int) ≤ 16777216 := by rw [sizeLine_eq] at hz; omega
    have h5 : (16777216 : Int) ≤ (2 ^ 63 - 1) / n := (Int.le_ediv_iff_mul_le (by omega)).mpr (by omega)
    omega
  · intro hn _
    show decide (_ > sizeLine) = false
    exact decide_eq_false (by omega)
  · unfold strRep at q
    split
    · rw [if_pos (by assumption)] at q
      exact ⟨by decide, .str Str.empty, H, I.tok _, ⟨_, rfl⟩, q⟩
    · rw [if_neg (by assumption)] at q
      split
      · rw [if_pos (by assumption)] at q
        exact ⟨.str z, H, I, ⟨_, rfl⟩, q⟩
      · rw [if_neg (by assumption)] at q
        exact ⟨by show (Array.size _) ≤ _; rw [size_rep, Nat.mul_comm]; exact hz, .str _, H, I.tok _, ⟨_, rfl⟩, q⟩
end
end EV

/-! EvOps2: times, division, comparisons, membership. -/
namespace EV
open PySem PySem.Spec PyProof.Rows L2
section
variable {X : Cx} {EX : WX}
def mulV (x y : Vl) (S : Sto) : RE := match x, y with
  | .d (.int i), .d (.int j) => if smallI i || smallI j then .ok (.d (.int (i * j))) S else .bad
  | .d (.str z), .d (.int n) => if -1000000 ≤ n ∧ n ≤ 1000000 ∧ z.length * n.toNat ≤ sizeLine then .ok (.d (.str (strRep z n))) S else .bad
  | .d (.list a), .d (.int n) => if -1000000 ≤ n ∧ n ≤ 1000000 ∧ a.length * n.toNat ≤ sizeLine then .ok (.d (.list (List.replicate n.toNat a).flatten)) S else .bad
  | .d (.tuple a), .d (.int n) => if a ≠ [] ∧ 2 ≤ n ∧ n ≤ 1000 ∧ a.length ≤ 1000 then .ok (mkTupU ((List.replicate n.toNat a).flatten.map .d)) S else .bad
  | _, _ => .bad
theorem FdA.rep {F : Addr → Prop} {H : Hp} {vs : List V} {ds : List PyData} (h : FdA F H vs ds) : ∀ n : Nat, FdA F H (List.replicate n vs).flatten (List.replicate n ds).flatten
  | 0 => .nil
  | n + 1 => by
    rw [List.replicate_succ, List.replicate_succ, List.flatten_cons, List.flatten_cons]
    exact h.append (FdA.rep h n)
theorem op_mulV : OpS X EX (binaryOp .Mult) mulV := by
  refine ⟨_, op_mul.or (op_mul_str.or (op_rep.or op_repT)), fun W S H σ x y v u Q h rx ry p => ?_⟩
  unfold mulV at p
  split at p
  · cases rx with | d rx => cases ry with | d ry =>
    cases rx; cases ry
    split at p
    · rename_i i j hs
      refine .inl ⟨_, _, rfl, rfl, ?_, p.hereD h (.int _)⟩
      simpa [CMul, smallI] using hs
    · exact p.elim
  · cases rx with | d rx => cases ry with | d ry =>
    cases rx; cases ry
    split at p
    · rename_i hz
      exact .inr (.inl ⟨_, _, rfl, rfl, hz.1, hz.2.1, hz.2.2, p.hereD h (.str _)⟩)
    · exact p.elim
  · cases rx with | d rx => cases ry with | d ry =>
    cases ry
    split at p
    · rename_i a n hz
      cases rx with | lst h1 h2 =>
      exact .inr (.inr (.inl ⟨_, _, _, rfl, rfl, h1.2, by omega, by omega, by rw [h2.length]; exact hz.2.2, fun q hq => p.newF h hq (newLst h hq (h2.rep _))⟩))
    · exact p.elim
  · cases rx with | d rx => cases ry with | d ry =>
    cases ry
    split at p
    · rename_i a n hz
      cases rx with | tup h1 h2 =>
      refine .inr (.inr (.inr ⟨_, _, _, rfl, rfl, h1.sq, fun e => hz.1 ?_, hz.2.1, hz.2.2.1, by rw [h2.length]; exact hz.2.2.2, fun q hq => p.newF h hq (newTupU h hq (RepA.ofD (h2.rep n.toNat)))⟩))
      have := h2.length
      rw [e] at this
      exact List.length_eq_zero_iff.mp this.symm
    · exact p.elim
  · exact p.elim
def fdivV (x y : Vl) (S : Sto) : RE := match x, y with
  | .d (.int i), .d (.int j) => if 0 < j ∧ j.natAbs.log2 < 9000 then .ok (.d (.int (i / j))) S else .bad
  | _, _ => .bad
theorem op_fdivV : OpS X EX (binaryOp .FloorDiv) fdivV := by
  refine ⟨_, op_fdivW, fun W S H σ x y v u Q h rx ry p => ?_⟩
  unfold fdivV at p
  split at p
  · cases rx with | d rx => cases ry with | d ry =>
    cases rx; cases ry
    split at p
    · rename_i hz
      exact ⟨_, _, rfl, rfl, hz, p.hereD h (.int _)⟩
    · exact p.elim
  · exact p.elim
def modV (x y : Vl) (S : Sto) : RE := match x, y with
  | .d (.int i), .d (.int j) => if 0 < j then .ok (.d (.int (i % j))) S else .bad
  | _, _ => .bad
theorem op_modV : OpS X EX (binaryOp .Mod) modV := by
  refine ⟨_, op_mod, fun W S H σ x y v u Q h rx ry p => ?_⟩
  unfold modV at p
  split at p
  · cases rx with | d rx => cases ry with | d ry =>
    cases rx; cases ry
    split at p
    · rename_i hz
      exact ⟨_, _, rfl, rfl, hz, p.hereD h (.int _)⟩
    · exact p.elim
  · exact p.elim
def powV (x y : Vl) (S : Sto) : RE := match x, y with
  | .d (.int i), .d (.int j) => if 0 ≤ j ∧ j ≤ 1000000 ∧ i.natAbs < 2 ^ 64 then .ok (.d (.int (i ^ j.toNat))) S else .bad
  | _, _ => .bad
theorem op_powV : OpS X EX (binaryOp .Pow) powV := by
  refine ⟨_, op_pow, fun W S H σ x y v u Q h rx ry p => ?_⟩
  unfold powV at p
  split at p
  · cases rx with | d rx => cases ry with | d ry =>
    cases rx; cases ry
    split at p
    · rename_i hz
      exact ⟨_, _, rfl, rfl, hz, p.hereD h (.int _)⟩
    · exact p.elim
  · exact p.elim

/-! ### -a -/
def negV (x : Vl) (S : Sto) : RE := match x with
  | .d (.int i) => .ok (.d (.int (-i))) S
  | _ => .bad
theorem se_neg {a : Expr} {ma : ME} {pos : Pos} (ha : SE X EX a ma) : SE X EX (.UnaryOp .USub a pos) (mUn negV ma) := by
  refine (pe_un un_neg ha).wk fun σ H Q h => ?_
  obtain ⟨W, S, ρ, h, e, p⟩ := h
  refine T.step h e p fun x S1 W1 H1 v e1 h1 er1 r1 p1 => ?_
  unfold negV at p1
  split at p1
  · cases r1 with | d r1 =>
    cases r1
    exact ⟨_, rfl, p1.hereD h1 (.int _)⟩
  · exact p1.elim

/-! ### order -/
def ordV (fi : Int → Int → Bool) (fs : List Nat → List Nat → Bool) (x y : Vl) (S : Sto) : RE := match x, y with
  | .d (.int i), .d (.int j) => .ok (.d (.bool (fi i j))) S
  | .d (.str a), .d (.str b) => .ok (.d (.bool (fs a.cps.toList b.cps.toList))) S
  | _, _ => .bad
theorem ordV_pure {fi : Int → Int → Bool} {fs : List Nat → List Nat → Bool} : PureB (ordV fi fs) := fun x y S => by
  unfold ordV
  split
  · exact .inr ⟨_, rfl⟩
  · exact .inr ⟨_, rfl⟩
  · exact .inl rfl
def ltV : Vl → Vl → Sto → RE := ordV (fun i j => decide (i < j)) (fun a b => decide (a < b))
def leV : Vl → Vl → Sto → RE := ordV (fun i j => decide (i ≤ j)) (fun a b => !decide (b < a))
def gtV : Vl → Vl → Sto → RE := ordV (fun i j => decide (j < i)) (fun a b => decide (b < a))
def geV : Vl → Vl → Sto → RE := ordV (fun i j => decide (j ≤ i)) (fun a b => !decide (a < b))
theorem ordV_of {op : Value → Value → Sem Value} {fi : Int → Int → Bool} {fs : List Nat → List Nat → Bool} {g : Str → Str → Bool} (hg : ∀ a b, g a b = fs a.cps.toList b.cps.toList)
    (o1 : OpR X op (rI0 fun i j => .bl (fi i j))) (o2 : OpR X op (fun x y H Q => ∃ i j, x = .str i ∧ y = .str j ∧ Q (.bl (g i j)) H)) : OpS X EX op (ordV fi fs) := by
  refine ⟨_, o1.or o2, fun W S H σ x y v u Q h rx ry p => ?_⟩
  unfold ordV at p
  split at p
  · cases rx with | d rx => cases ry with | d ry =>
    cases rx; cases ry
    exact .inl ⟨_, _, rfl, rfl, p.hereD h (.bl _)⟩
  · cases rx with | d rx => cases ry with | d ry =>
    cases rx; cases ry
    exact .inr ⟨_, _, rfl, rfl, by rw [hg]; exact p.hereD h (.bl _)⟩
  · exact p.elim
theorem op_ltV : OpS X EX (compareOp .Lt) ltV := ordV_of (fun _ _ => rfl) op_lt op_lt_str
theorem op_leV : OpS X EX (compareOp .LtE) leV := ordV_of (fun _ _ => rfl) op_le op_le_str
theorem op_gtV : OpS X EX (compareOp .Gt) gtV := ordV_of (fun _ _ => rfl) op_gt op_gt_str
theorem op_geV : OpS X EX (compareOp .GtE) geV := ordV_of (fun _ _ => rfl) op_ge op_ge_str

/-! ### is None -/
def isNon : Vl → Bool
  | .d .none => true
  | _ => false
def isNV (x y : Vl) (S : Sto) : RE := match y with
  | .d .none => .ok (.d (.bool (isNon x))) S
  | _ => .bad
def notNV (x y : Vl) (S : Sto) : RE := match y with
  | .d .none => .ok (.d (.bool (!isNon x))) S
  | _ => .bad
theorem isN_dec {K : PySem.W.Frag} {W : Wd} {H : Hp} {x : Vl} {v : V} (r : Rep K W H v x) : decide (v = .non) = isNon x := by
  cases r with
  | d r => cases r <;> rfl
  | r h => rfl
  | t h1 h2 => rfl
  | k h1 h2 => rfl
  | q h1 h2 => rfl
theorem op_isNV : OpS X EX (compareOp .Is) isNV := by
  refine ⟨_, op_isN, fun W S H σ x y v u Q h rx ry p => ?_⟩
  unfold isNV at p
  split at p
  · cases ry with | d ry =>
    cases ry
    refine ⟨rfl, ?_⟩
    rw [isN_dec rx]
    exact p.hereD h (.bl _)
  · exact p.elim
theorem op_notNV : OpS X EX (compareOp .IsNot) notNV := by
  refine ⟨_, op_notN, fun W S H σ x y v u Q h rx ry p => ?_⟩
  unfold notNV at p
  split at p
  · cases ry with | d ry =>
    cases ry
    refine ⟨rfl, ?_⟩
    rw [isN_dec rx]
    exact p.hereD h (.bl _)
  · exact p.elim

/-! ### == -/
def isStr : PyData → Bool
  | .str _ => true
  | _ => false
def eqOk (a b : PyData) : Bool := (isStr a && isStr b) || (SeqAt.shaped a && SeqAt.shaped b)
def eqVS (neg : Bool) (x y : Vl) (S : Sto) : RE := match view x S, view y S with
  | some a, some b => if eqOk a b then .ok (.d (.bool (if neg then !PyData.eqv a b else PyData.eqv a b))) S else .bad
  | _, _ => .bad
theorem eqVS_pure {neg : Bool} : PureB (eqVS neg) := fun x y S => by
  unfold eqVS
  split
  · split
    · exact .inr ⟨_, rfl⟩
    · exact .inl rfl
  · exact .inl rfl
theorem shaped_canLay {d : PyData} (h : SeqAt.shaped d = true) : d.canLay0 = true := SeqAt.canLay_of_shaped h
theorem view_str {K : PySem.W.Frag} {mg : Str → Option Value} {W : Wd} {H : Hp} {S : Sto} (h : HR K mg W S H) {x : Vl} {v : V} {z : Str} (r : Rep K W H v x) (e : view x S = some (.str z)) : v = .str z := by
  cases r with
  | d r => cases e; cases r; rfl
  | t h1 h2 =>
    simp only [view, Option.map_eq_some_iff] at e
    obtain ⟨_, _, e2⟩ := e
    cases e2
  | k h1 h2 => cases e
  | q h1 h2 => cases e
  | r h1 =>
    rename_i a l
    simp only [view] at e
    split at e
    · simp only [Option.map_eq_some_iff] at e
      obtain ⟨ds, e1, e2⟩ := e
      cases e2
    · cases e
theorem op_eqV (hu : X.A.units + 64 < cLine) : OpS X EX (compareOp .Eq) (eqVS false) := by
  refine ⟨_, op_eq.or (op_eqD hu), fun W S H σ x y v u Q h rx ry p => ?_⟩
  unfold eqVS at p
  split at p
  · rename_i a b ea eb
    split at p
    · rename_i ok
      unfold eqOk at ok
      rcases Bool.or_eq_true_iff.mp ok with ok | ok
      · obtain ⟨o1, o2⟩ := Bool.and_eq_true_iff.mp ok
        cases a <;> try (cases o1)
        cases b <;> try (cases o2)
        have e1 := view_str h rx ea
        have e2 := view_str h ry eb
        subst e1 e2
        refine .inl ⟨rfl, ?_⟩
        rw [dec_str]
        exact p.hereD h (.bl _)
      · obtain ⟨o1, o2⟩ := Bool.and_eq_true_iff.mp ok
        exact .inr ⟨a, b, view_dp h rx ea (shaped_canLay o1), view_dp h ry eb (shaped_canLay o2), o1, o2, p.hereD h (.bl _)⟩
    · exact p.elim
  · exact p.elim
theorem op_neV (hu : X.A.units + 64 < cLine) : OpS X EX (compareOp .NotEq) (eqVS true) := by
  refine ⟨_, op_ne.or (op_neD hu), fun W S H σ x y v u Q h rx ry p => ?_⟩
  unfold eqVS at p
  split at p
  · rename_i a b ea eb
    split at p
    · rename_i ok
      unfold eqOk at ok
      rcases Bool.or_eq_true_iff.mp ok with ok | ok
      · obtain ⟨o1, o2⟩ := Bool.and_eq_true_iff.mp ok
        cases a <;> try (cases o1)
        cases b <;> try (cases o2)
        have e1 := view_str h rx ea
        have e2 := view_str h ry eb
        subst e1 e2
        refine .inl ⟨rfl, ?_⟩
        rw [dec_str]
        exact p.hereD h (.bl _)
      · obtain ⟨o1, o2⟩ := Bool.and_eq_true_iff.mp ok
        exact .inr ⟨a, b, view_dp h rx ea (shaped_canLay o1), view_dp h ry eb (shaped_canLay o2), o1, o2, p.hereD h (.bl _)⟩
    · exact p.elim
  · exact p.elim

/-! ### in -/
def flatD : PyData → Bool
  | .none | .bool _ | .int _ | .str _ => true
  | _ => false
theorem Fd.flat {F : Addr → Prop} {H : Hp} {v : V} {d : PyData} (h : Fd F H v d) (f : flatD d = true) : flatV v = true := by
  cases h <;> first | rfl | exact absurd f Bool.false_ne_true
theorem flat_eqv {F : Addr → Prop} {H : Hp} {v u : V} {a b : PyData} (h : Fd F H v a) (g : Fd F H u b) (f : flatD a = true) (f' : flatD b = true) : eqV v u = PyData.eqv a b := by
  cases h <;> first | exact absurd f Bool.false_ne_true | (cases g <;> first | exact absurd f' Bool.false_ne_true | simp [eqV, PyData.eqv])
theorem flat_all {F : Addr → Prop} {H : Hp} : ∀ {vs : List V} {ds : List PyData}, FdA F H vs ds → ds.all flatD = true → vs.all flatV = true
  | _, _, .nil, _ => rfl
  | _, _, .cons h t, f => by
    simp only [List.all_cons, Bool.and_eq_true] at f ⊢
    exact ⟨h.flat f.1, flat_all t f.2⟩
theorem flat_any {F : Addr → Prop} {H : Hp} {u : V} {d : PyData} (g : Fd F H u d) (f' : flatD d = true) : ∀ {vs : List V} {ds : List PyData}, FdA F H vs ds → ds.all flatD = true → inV u vs = ds.any fun z => PyData.eqv z d
  | _, _, .nil, _ => rfl
  | _, _, .cons h t, f => by
    simp only [List.all_cons, Bool.and_eq_true] at f
    have ih := flat_any g f' t f.2
    unfold inV at ih ⊢
    rw [List.any_cons, List.any_cons, ih, flat_eqv h g f.1 f']
/-- a cell's or data's items, all of them data -/
def seqD (x : Vl) (S : Sto) : Option (Bool × List PyData) := match x with
  | .d (.list ds) => some (true, ds)
  | .d (.tuple ds) => some (false, ds)
  | .k ds => some (false, ds)
  | .q ds => some (true, ds)
  | .r l => match S[l]? with
    | some (.lst xs) => (allD xs).map fun ds => (true, ds)
    | _ => none
  | _ => none
theorem seqD_ok {K : PySem.W.Frag} {mg : Str → Option Value} {W : Wd} {H : Hp} {S : Sto} (h : HR K mg W S H) {x : Vl} {v : V} {b : Bool} {ds : List PyData} (r : Rep K W H v x) (e : seqD x S = some (b, ds)) :
    ∃ a vs, v = .ref a ∧ FdA W.F H vs ds ∧ (b = true → SqL K H a vs) ∧ (b = false → SqT K H a vs) := by
  cases r with
  | d r =>
    cases r with
    | lst h1 h2 => cases e; exact ⟨_, _, rfl, h2, fun _ => h1.sq, fun z => (by cases z)⟩
    | tup h1 h2 => cases e; exact ⟨_, _, rfl, h2, fun z => (by cases z), fun _ => h1.sq⟩
    | _ => cases e
  | t h1 h2 => cases e
  | k h1 h2 => cases e; exact ⟨_, _, rfl, h2, fun z => (by cases z), fun _ => h1.sq⟩
  | q h1 h2 => cases e; exact ⟨_, _, rfl, h2, fun _ => h1.sq, fun z => (by cases z)⟩
  | r h1 =>
    rename_i a l
    simp only [seqD] at e
    cases q : S[l]? with
    | none => rw [q] at e; cases e
    | some c =>
      rw [q] at e
      have hc := h.cell l c a q h1
      cases c with
      | lst xs =>
        simp only [Option.map_eq_some_iff] at e
        obtain ⟨es, e1, e2⟩ := e
        cases e2
        have := allD_some e1
        subst this
        obtain ⟨vs, h2, h3⟩ := hc
        exact ⟨_, _, rfl, RepA.toD h3, fun _ => .of h2, fun z => (by cases z)⟩
      | _ => cases e
/-- a key of a dict with int and text keys -/
def unKey : PyData → Option Key
  | .int i => some (.inl i)
  | .str x => some (.inr x)
  | _ => none
/-- a key that is a tuple of such -/
def unKeysA : List PyData → Option (List Key)
  | [] => some []
  | d :: r => match unKey d, unKeysA r with
    | some k, some ks => some (k :: ks)
    | _, _ => none
def unKeys (ds : List PyData) : Option (List Key) := if ds.isEmpty then none else unKeysA ds
def lookC {κ : Type} [DecidableEq κ] (kvs : List (κ × Vl)) (k : κ) : Option Vl := (kvs.find? fun kv => decide (kv.1 = k)).map (·.2)
theorem RepK.look {K : PySem.W.Frag} {W : Wd} {H : Hp} {κ : Type} [DecidableEq κ] (k : κ) : ∀ {us : List (κ × V)} {kvs : List (κ × Vl)}, RepK K W H us kvs →
    (valV us k = none ∧ lookC kvs k = none) ∨ ∃ v x, valV us k = some v ∧ lookC kvs k = some x ∧ Rep K W H v x
  | _, _, .nil => .inl ⟨rfl, rfl⟩
  | _, _, .cons (k := k') (v := v) (x := x) (us := us) (xs := xs) h t => by
    by_cases e : k' = k
    · exact .inr ⟨v, x, by simp [valV, e], by simp [lookC, e], h⟩
    · rcases RepK.look k t with ⟨h1, h2⟩ | ⟨v', x', h1, h2, h3⟩
      · exact .inl ⟨by unfold valV at h1 ⊢; simp [List.find?_cons, e] at h1 ⊢; exact h1, by unfold lookC at h2 ⊢; simp [List.find?_cons, e] at h2 ⊢; exact h2⟩
      · exact .inr ⟨v', x', by unfold valV at h1 ⊢; simp [List.find?_cons, e] at h1 ⊢; exact h1, by unfold lookC at h2 ⊢; simp [List.find?_cons, e] at h2 ⊢; exact h2, h3⟩
/-- what a dict at a cell holds at a key: none where there's no such dict or key's form -/
def dictAt (x y : Vl) (S : Sto) : Option (Option Vl) := match x with
  | .r l => match S[l]? with
    | some (.dk kvs) => match y with
      | .d d => (unKey d).map fun k => lookC kvs k
      | _ => none
    | some (.dt kvs) => match y with
      | .d (.tuple ds) => (unKeys ds).map fun k => lookC kvs k
      | _ => none
    | _ => none
  | _ => none
theorem unKey_ok {F : Addr → Prop} {H : Hp} {v : V} {d : PyData} {k : Key} (h : Fd F H v d) (e : unKey d = some k) : v = kV k := by
  cases h <;> first | (cases e; rfl) | cases e
theorem unKeysA_ok {F : Addr → Prop} {H : Hp} : ∀ {ds : List PyData} {vs : List V} {k : List Key}, FdA F H vs ds → unKeysA ds = some k → vs = k.map kV
  | _, _, _, .nil, e => by cases e; rfl
  | _, _, _, .cons (d := d) (ds := ds) h t, e => by
    unfold unKeysA at e
    cases q : unKey d with
    | none => rw [q] at e; cases e
    | some k =>
      cases q' : unKeysA ds with
      | none => rw [q, q'] at e; cases e
      | some ks =>
        rw [q, q'] at e
        cases e
        rw [unKey_ok h q, unKeysA_ok t q']
        rfl
theorem unKeys_ok {F : Addr → Prop} {H : Hp} {ds : List PyData} {vs : List V} {k : List Key} (h : FdA F H vs ds) (e : unKeys ds = some k) : vs = k.map kV ∧ vs.all isRefV = false := by
  unfold unKeys at e
  split at e
  · cases e
  · rename_i hne
    have e1 := unKeysA_ok h e
    refine ⟨e1, ?_⟩
    subst e1
    cases k with
    | nil => cases h; exact absurd rfl hne
    | cons k ks => cases k <;> rfl
theorem dictAt_ok {K : PySem.W.Frag} {mg : Str → Option Value} {W : Wd} {H : Hp} {S : Sto} (h : HR K mg W S H) {x y : Vl} {v u : V} {o : Option Vl} (rx : Rep K W H v x) (ry : Rep K W H u y) (e : dictAt x y S = some o) :
    ∃ a ov, v = .ref a ∧ DGet H a u ov ∧ ((ov = none ∧ o = none) ∨ ∃ w z, ov = some w ∧ o = some z ∧ Rep K W H w z) := by
  cases rx with
  | r h1 =>
    rename_i a l
    simp only [dictAt] at e
    cases q : S[l]? with
    | none => rw [q] at e; cases e
    | some c =>
      rw [q] at e
      have hc := h.cell l c a q h1
      cases c with
      | dk kvs =>
        cases ry with
        | d ry =>
          simp only [Option.map_eq_some_iff] at e
          obtain ⟨k, e1, e2⟩ := e
          obtain ⟨us, h2, h3⟩ := hc
          have := unKey_ok ry e1
          subst this
          refine ⟨a, valV us k, rfl, .k h2, ?_⟩
          rw [← e2]
          exact h3.look k
        | _ => cases e
      | dt kvs =>
        cases ry with
        | d ry =>
          rename_i d
          cases ry with
          | tup g1 g2 =>
            rename_i b vs ds
            simp only [Option.map_eq_some_iff] at e
            obtain ⟨k, e1, e2⟩ := e
            obtain ⟨us, h2, h3⟩ := hc
            obtain ⟨this, hp⟩ := unKeys_ok g2 e1
            subst this
            refine ⟨a, valV us k, rfl, .t h2 (g1.plain hp), ?_⟩
            rw [← e2]
            exact h3.look k
          | _ => cases e
        | _ => cases e
      | _ => cases e
  | _ => cases e
end
end EV

/-! EvOps3: membership, subscripts, slices, displays. -/
namespace EV
open PySem PySem.Spec PyProof.Rows L2
section
variable {X : Cx} {EX : WX}
theorem op_inDict (hu : X.A.units + 1 < cLine) : OpR X (compareOp .In) (fun y x H Q => ∃ a ov, x = .ref a ∧ DGet H a y ov ∧ Q (.bl ov.isSome) H) := by
  intro pins s σ H y x u v Q I ry rx h
  obtain ⟨a, ov, rfl, g, q⟩ := h
  obtain rfl : v = Value.ref a := rx
  exact d_in hu I g ry fun s3 I3 => ⟨.bl ov.isSome, H, I3, rfl, q⟩
theorem op_notInDict (hu : X.A.units + 1 < cLine) : OpR X (compareOp .NotIn) (fun y x H Q => ∃ a ov, x = .ref a ∧ DGet H a y ov ∧ Q (.bl (!ov.isSome)) H) := by
  intro pins s σ H y x u v Q I ry rx h
  obtain ⟨a, ov, rfl, g, q⟩ := h
  obtain rfl : v = Value.ref a := rx
  exact d_notIn hu I g ry fun s3 I3 => ⟨.bl (!ov.isSome), H, I3, rfl, q⟩
def bNeg (neg b : Bool) : Bool := if neg then !b else b
@[simp] theorem bNeg_f (b : Bool) : bNeg false b = b := rfl
@[simp] theorem bNeg_t (b : Bool) : bNeg true b = !b := rfl
/-- one sign in a text -/
def signIn (x y : Vl) : Option Bool := match x, y with
  | .d (.str a), .d (.str b) => match a.cps.toList with
    | [c] => some (decide (c ∈ b.cps.toList))
    | _ => none
  | _, _ => none
/-- an item among items -/
def itemIn (x y : Vl) (S : Sto) : Option Bool := match view x S, seqD y S with
  | some d, some (il, ds) => if flatD d && ds.all flatD then some (ds.any fun z => PyData.eqv z d) else if il && SeqAt.shaped d && SeqAt.shaped (.list ds) then some (ds.any fun z => PyData.eqv z d) else none
  | _, _ => none
def inB (x y : Vl) (S : Sto) : Option Bool := match signIn x y with
  | some b => some b
  | none => match dictAt y x S with
    | some o => some o.isSome
    | none => itemIn x y S
def inVS (neg : Bool) (x y : Vl) (S : Sto) : RE := match inB x y S with
  | some b => .ok (.d (.bool (bNeg neg b))) S
  | none => .bad
theorem signIn_ok {K : PySem.W.Frag} {W : Wd} {H : Hp} {x y : Vl} {v u : V} {b : Bool} (rx : Rep K W H v x) (ry : Rep K W H u y) (e : signIn x y = some b) : ∃ (c : Nat) (z : Str), v = .str ⟨#[c]⟩ ∧ u = .str z ∧ b = decide (c ∈ z.cps.toList) := by
  unfold signIn at e
  split at e
  · rename_i a z
    split at e
    · rename_i c hc
      cases rx with | d rx => cases ry with | d ry =>
      cases rx; cases ry
      refine ⟨c, z, ?_, rfl, (Option.some.inj e).symm⟩
      obtain ⟨⟨l⟩⟩ := a
      simp only at hc
      subst hc
      rfl
    · cases e
  · cases e
theorem flat_view {K : PySem.W.Frag} {mg : Str → Option Value} {W : Wd} {H : Hp} {S : Sto} (h : HR K mg W S H) {x : Vl} {v : V} {d : PyData} (r : Rep K W H v x) (e : view x S = some d) (f : flatD d = true) : Fd W.F H v d := by
  cases r with
  | d r => cases e; exact r
  | t h1 h2 =>
    simp only [view, Option.map_eq_some_iff] at e
    obtain ⟨_, _, rfl⟩ := e
    exact absurd f Bool.false_ne_true
  | k h1 h2 => cases e; exact absurd f Bool.false_ne_true
  | q h1 h2 => cases e; exact absurd f Bool.false_ne_true
  | r h1 =>
    simp only [view] at e
    split at e
    · simp only [Option.map_eq_some_iff] at e
      obtain ⟨ds, e1, e2⟩ := e
      cases e2
      exact absurd f Bool.false_ne_true
    · cases e
theorem itemIn_ok {K : PySem.W.Frag} {mg : Str → Option Value} {W : Wd} {H : Hp} {S : Sto} (h : HR K mg W S H) {x y : Vl} {v u : V} {b : Bool} (rx : Rep K W H v x) (ry : Rep K W H u y) (e : itemIn x y S = some b) :
    (∃ p xs, u = .ref p ∧ (SqL K H p xs ∨ SqT K H p xs) ∧ flatV v = true ∧ xs.all flatV = true ∧ b = inV v xs) ∨
    (∃ d ds, Dp K H v d ∧ Dp K H u (.list ds) ∧ SeqAt.shaped d = true ∧ SeqAt.shaped (.list ds) = true ∧ b = ds.any fun z => PyData.eqv z d) := by
  unfold itemIn at e
  split at e
  · rename_i d il ds e1 e2
    obtain ⟨a, vs, rfl, g1, g2, g3⟩ := seqD_ok h ry e2
    split at e
    · rename_i f
      obtain ⟨f1, f2⟩ := Bool.and_eq_true_iff.mp f
      have fd := flat_view h rx e1 f1
      refine .inl ⟨a, vs, rfl, ?_, fd.flat f1, flat_all g1 f2, ?_⟩
      · cases il with
        | true => exact .inl (g2 rfl)
        | false => exact .inr (g3 rfl)
      · rw [flat_any fd f1 g1 f2]
        exact (Option.some.inj e).symm
    · split at e
      · rename_i f
        simp only [Bool.and_eq_true] at f
        obtain ⟨⟨f0, f1⟩, f2⟩ := f
        exact .inr ⟨d, ds, view_dp h rx e1 (shaped_canLay f1), .lst (g2 f0) (FdA.dp _ _ (shaped_canLay f2) g1), f1, f2, (Option.some.inj e).symm⟩
      · cases e
  · cases e
theorem op_inVS (hu : X.A.units + 65 < cLine) : OpS X EX (compareOp .In) (inVS false) := by
  refine ⟨_, op_in_sign.or ((op_inDict (by omega)).or (op_in_seq.or (op_inD hu))), fun W S H σ x y v u Q h rx ry p => ?_⟩
  unfold inVS inB at p
  cases e1 : signIn x y with
  | some b =>
    rw [e1] at p
    obtain ⟨c, z, rfl, rfl, rfl⟩ := signIn_ok rx ry e1
    exact .inl ⟨c, z, rfl, rfl, p.hereD h (.bl _)⟩
  | none =>
    rw [e1] at p
    cases e2 : dictAt y x S with
    | some o =>
      rw [e2] at p
      obtain ⟨a, ov, rfl, g, q⟩ := dictAt_ok h ry rx e2
      refine .inr (.inl ⟨a, ov, rfl, g, ?_⟩)
      have : ov.isSome = o.isSome := by
        rcases q with ⟨rfl, rfl⟩ | ⟨w, z, rfl, rfl, _⟩ <;> rfl
      rw [this]
      exact p.hereD h (.bl _)
    | none =>
      rw [e2] at p
      cases e3 : itemIn x y S with
      | none => simp only [e3] at p; exact p.elim
      | some b =>
        simp only [e3] at p
        rcases itemIn_ok h rx ry e3 with ⟨a, xs, rfl, g1, g2, g3, rfl⟩ | ⟨d, ds, g1, g2, g3, g4, rfl⟩
        · exact .inr (.inr (.inl ⟨a, xs, rfl, g1, g2, g3, p.hereD h (.bl _)⟩))
        · exact .inr (.inr (.inr ⟨d, ds, g1, g2, g3, g4, p.hereD h (.bl _)⟩))
theorem op_notInVS (hu : X.A.units + 65 < cLine) : OpS X EX (compareOp .NotIn) (inVS true) := by
  refine ⟨_, op_notIn_sign.or ((op_notInDict (by omega)).or (op_notIn_seq.or (op_notInD hu))), fun W S H σ x y v u Q h rx ry p => ?_⟩
  unfold inVS inB at p
  cases e1 : signIn x y with
  | some b =>
    rw [e1] at p
    obtain ⟨c, z, rfl, rfl, rfl⟩ := signIn_ok rx ry e1
    exact .inl ⟨c, z, rfl, rfl, p.hereD h (.bl _)⟩
  | none =>
    rw [e1] at p
    cases e2 : dictAt y x S with
    | some o =>
      rw [e2] at p
      obtain ⟨a, ov, rfl, g, q⟩ := dictAt_ok h ry rx e2
      refine .inr (.inl ⟨a, ov, rfl, g, ?_⟩)
      have : ov.isSome = o.isSome := by
        rcases q with ⟨rfl, rfl⟩ | ⟨w, z, rfl, rfl, _⟩ <;> rfl
      rw [this]
      exact p.hereD h (.bl _)
    | none =>
      rw [e2] at p
      cases e3 : itemIn x y S with
      | none => simp only [e3] at p; exact p.elim
      | some b =>
        simp only [e3] at p
        rcases itemIn_ok h rx ry e3 with ⟨a, xs, rfl, g1, g2, g3, rfl⟩ | ⟨d, ds, g1, g2, g3, g4, rfl⟩
        · exact .inr (.inr (.inl ⟨a, xs, rfl, g1, g2, g3, p.hereD h (.bl _)⟩))
        · exact .inr (.inr (.inr ⟨d, ds, g1, g2, g3, g4, p.hereD h (.bl _)⟩))

/-! ### a[i] -/
def ixV (x y : Vl) (S : Sto) : Option Vl := match x, y with
  | .d (.str z), .d (.int i) => if z.length ≤ sizeLine then (atI z.cps.toList i).map fun c => .d (.str ⟨#[c]⟩) else none
  | x, .d (.int i) => match seqV x S with
    | some (_, xs) => atI xs i
    | none => match dictAt x y S with
      | some (some v) => some v
      | _ => none
  | x, y => match dictAt x y S with
    | some (some v) => some v
    | _ => none
def ixVS (x y : Vl) (S : Sto) : RE := match ixV x y S with
  | some v => .ok v S
  | none => .bad
theorem ix_dict (hu : X.A.units + 1 < cLine) : IxR X (fun x y H Q => ∃ a v, x = .ref a ∧ DGet H a y (some v) ∧ Q v H) := by
  intro value slice pins s σ H x y v u Q I rx ry h hs
  obtain ⟨a, w, rfl, g, q⟩ := h
  obtain rfl : v = Value.ref a := rx
  exact tail_any (dict_typeIs I g) PySem.F.slot_dict_getitem.lookup (d_getItem hu I g ry fun w' s3 I3 rw' => ⟨w, H, I3, rw', q⟩) hs
theorem atI_get? {K : PySem.W.Frag} {W : Wd} {H : Hp} {vs : List V} {xs : List Vl} {i : Int} {x : Vl} (r : RepA K W H vs xs) (e : atI xs i = some x) : ∃ v, atI vs i = some v ∧ Rep K W H v x := by
  unfold atI at e ⊢
  rw [r.length]
  cases q : ixN xs.length i with
  | none => rw [q] at e; cases e
  | some j =>
    rw [q] at e
    obtain ⟨v, h1, h2⟩ := r.get' (show xs[j]? = some x from e)
    exact ⟨v, h1, h2⟩
theorem se_ix {a b : Expr} {ma mb : ME} {pos : Pos} (hu : X.A.units + 1 < cLine) (ha : SE X EX a ma) (hb : SE X EX b mb) (hs : PlainIx b := by exact fun _ _ => rfl) : SE X EX (.Subscript a b pos) (mBin ixVS ma mb) := by
  refine (pe_ix (ix_seq.or (ix_dict hu)) ha hb hs).wk fun σ H Q h => ?_
  refine tOp_of (f := ixVS) (op := fun _ _ => pure .none) (fun W S H σ x y v u Q h rx ry p => ?_) h
  unfold ixVS at p
  have dc : ∀ o : Vl, dictAt x y S = some (some o) → PV X.K X.mg EX W H σ Q (.ok o S) → (rIx X.K v u H Q) ∨ ∃ a w, v = .ref a ∧ DGet H a u (some w) ∧ Q w H := fun o e p => by
    obtain ⟨a, ov, rfl, g, q⟩ := dictAt_ok h rx ry e
    rcases q with ⟨_, e'⟩ | ⟨w, z, rfl, e', r⟩
    · cases e'
    · cases e'
      exact .inr ⟨a, w, rfl, g, p.here h r⟩
  cases e : ixV x y S with
  | none => rw [e] at p; exact p.elim
  | some o =>
    rw [e] at p
    unfold ixV at e
    split at e
    · rename_i z i
      cases rx with | d rx => cases ry with | d ry =>
      cases rx; cases ry
      split at e
      · rename_i hz
        simp only [Option.map_eq_some_iff] at e
        obtain ⟨c, e1, rfl⟩ := e
        exact .inl (.inr (.inr ⟨z, i, c, rfl, rfl, hz, e1, p.hereD h (.str _)⟩))
      · cases e
    · rename_i x i _
      cases ry with | d ry =>
      cases ry
      split at e
      · rename_i il xs e1
        obtain ⟨a, vs, rfl, g1, g2, g3⟩ := seqV_ok h rx e1
        obtain ⟨w, e2, r⟩ := atI_get? g1 e
        cases il with
        | true => exact .inl (.inl ⟨a, vs, i, w, rfl, rfl, g2 rfl, e2, p.here h r⟩)
        | false => exact .inl (.inr (.inl ⟨a, vs, i, w, rfl, rfl, g3 rfl, e2, p.here h r⟩))
      · split at e
        · cases e
          exact dc _ (by assumption) p
        · cases e
    · split at e
      · cases e
        exact dc _ (by assumption) p
      · cases e

/-! ### a[lo:hi] -/
def cutL {α : Type} (xs : List α) (lo hi : Option Int) : List α := (xs.drop (HT.sIx xs.length 0 lo)).take (HT.sIx xs.length xs.length hi - HT.sIx xs.length 0 lo)
theorem FdA.cut {F : Addr → Prop} {H : Hp} {vs : List V} {ds : List PyData} (h : FdA F H vs ds) (lo hi : Option Int) : FdA F H (cutV vs lo hi) (cutL ds lo hi) := by
  unfold cutV cutL
  rw [h.length]
  exact (h.drop _).take _
def isWhole (n : Nat) (lo hi : Option Int) : Bool := decide (HT.sIx n 0 lo = 0 ∧ HT.sIx n n hi = n)
theorem cutL_whole {α : Type} {xs : List α} {lo hi : Option Int} (h : HT.sIx xs.length 0 lo = 0 ∧ HT.sIx xs.length xs.length hi = xs.length) : cutL xs lo hi = xs := by
  unfold cutL
  rw [h.1, h.2]
  simp
def sliceV (x : Vl) (lo hi : Option Int) (S : Sto) : Option Vl := match x with
  | .d (.str z) => if z.length ≤ sizeLine then some (.d (.str (cutS z lo hi))) else none
  | .d (.tuple ds) => some (.d (.tuple (cutL ds lo hi)))
  | .k ds => if isWhole ds.length lo hi then some (.k ds) else some (.d (.tuple (cutL ds lo hi)))
  | x => match seqD x S with
    | some (true, ds) => some (.d (.list (cutL ds lo hi)))
    | _ => none
/-- a part of a slice -/
abbrev MO := Option ME
def mPart (m : MO) (f : Option Int → Sto → RE) : ME := fun ρ S => match m with
  | none => f none S
  | some m => (m ρ S).bind fun x S1 => match x with
    | .d (.int i) => f (some i) S1
    | _ => .bad
def mSlice (ma : ME) (lo hi : MO) : ME := fun ρ S => (ma ρ S).bind fun x S1 => mPart lo (fun l S2 => mPart hi (fun u S3 => match sliceV x l u S3 with
  | some v => .ok v S3
  | none => .bad) ρ S2) ρ S1
/-- a part left out, or an expression -/
inductive SO (X : Cx) (EX : WX) : Option Expr → MO → Prop
  | non : SO X EX none none
  | som {e : Expr} {m : ME} : SE X EX e m → SO X EX (some e) (some m)
def tO (K : PySem.W.Frag) (mg : Str → Option Value) (EX : WX) : MO → TO
  | none => tNoPart
  | some m => tPart (T K mg EX m)
theorem SO.po {e : Option Expr} {m : MO} (h : SO X EX e m) : PO X e (tO X.K X.mg EX m) := by
  cases h with
  | non => exact po_none
  | som h => exact po_some h
theorem tO_step {K : PySem.W.Frag} {mg : Str → Option Value} {W : Wd} {H : Hp} {S : Sto} {ρ : Nv} {σ : L2.St} {Q : VK} {m : MO} {f : Option Int → Sto → RE} {Q1 : Option Int → Hp → Prop} (h : HR K mg W S H) (e : ER K W H ρ σ) (p : PV K mg EX W H σ Q (mPart m f ρ S))
    (k : ∀ l S1 W1 H1, Ext W H W1 H1 → HR K mg W1 S1 H1 → ER K W1 H1 ρ σ → PV K mg EX W1 H1 σ Q (f l S1) → Q1 l H1) : tO K mg EX m σ H Q1 := by
  cases m with
  | none => exact k none S W H Ext.refl h e p
  | some m =>
    refine T.step h e p fun x S1 W1 H1 v e1 h1 er1 r1 p1 => ?_
    cases x with
    | d x => cases x <;> first | (cases r1 with | d r1 => cases r1; exact ⟨_, rfl, k _ S1 W1 H1 e1 h1 er1 p1⟩) | exact p1.elim
    | _ => exact p1.elim
theorem se_slice {a : Expr} {ma : ME} {lo hi : Option Expr} {ml mh : MO} {p2 pos : Pos} (ha : SE X EX a ma) (hl : SO X EX lo ml) (hh : SO X EX hi mh) : SE X EX (.Subscript a (.Slice lo hi none p2) pos) (mSlice ma ml mh) := by
  refine (pe_slice (sl_list.or (sl_tupO.or sl_str)) ha hl.po hh.po).wk fun σ H Q h => ?_
  obtain ⟨W, S, ρ, h, e, p⟩ := h
  refine T.step h e p fun x S1 W1 H1 v e1 h1 er1 r1 p1 => ?_
  refine tO_step h1 er1 p1 fun l S2 W2 H2 e2 h2 er2 p2 => ?_
  refine tO_step h2 er2 p2 fun u S3 W3 H3 e3 h3 er3 p3 => ?_
  have r3 := Rep.ext e3 _ _ (Rep.ext e2 _ _ r1)
  cases q : sliceV x l u S3 with
  | none => rw [q] at p3; exact p3.elim
  | some o =>
    rw [q] at p3
    unfold sliceV at q
    split at q
    · cases r3 with | d r3 =>
      cases r3
      split at q
      · cases q
        exact .inr (.inr ⟨_, rfl, by assumption, p3.hereD h3 (.str _)⟩)
      · cases q
    · cases r3 with | d r3 =>
      cases r3 with | tup g1 g2 =>
      cases q
      refine .inr (.inl ⟨_, _, rfl, g1.sq, fun hw => ?_, fun _ b o hb ho => p3.newF h3 hb (by have := newTup h3 hb ho (RepA.ofD (g2.cut l u)); rwa [mkTup_d] at this)⟩)
      rw [g2.length] at hw
      rw [cutL_whole hw] at p3
      exact p3.hereD h3 (.tup g1 g2)
    · cases r3 with | k g1 g2 =>
      refine .inr (.inl ⟨_, _, rfl, g1.sq, fun hw => ?_, fun hw b o hb ho => ?_⟩)
      · rw [g2.length] at hw
        rw [if_pos (by unfold isWhole; exact decide_eq_true hw)] at q
        cases q
        exact p3.here h3 (.k g1 g2)
      · rw [g2.length] at hw
        rw [if_neg (by unfold isWhole; simpa using hw)] at q
        cases q
        exact p3.newF h3 hb (by have := newTup h3 hb ho (RepA.ofD (g2.cut l u)); rwa [mkTup_d] at this)
    · split at q
      · rename_i ds e1
        cases q
        obtain ⟨a, vs, rfl, g1, g2, g3⟩ := seqD_ok h3 r3 e1
        exact .inl ⟨a, vs, rfl, g2 rfl, fun b hb => p3.newF h3 hb (newLst h3 hb (g1.cut l u))⟩
      · cases q
/-- xs[::-1] -/
def revVS (x : Vl) (S : Sto) : RE := match seqD x S with
  | some (true, ds) => .ok (.d (.list ds.reverse)) S
  | _ => .bad

/-! ### displays -/
def mTup (as : MA) : ME := fun ρ S => (as ρ S).bind fun xs S1 => if xs.length ≤ 1000 then .ok (mkTup xs) S1 else .bad
def mLst (as : MA) : ME := fun ρ S => (as ρ S).bind fun xs S1 => match allD xs with
  | some ds => if xs.length ≤ 1000 then .ok (.d (.list ds)) S1 else .bad
  | none => .bad
def mLstM (as : MA) : ME := fun ρ S => (as ρ S).bind fun xs S1 => if xs.length ≤ 1000 then .ok (.r S1.length) (S1 ++ [.lst xs]) else .bad
theorem le1000 {n : Nat} (h : n ≤ 1000) : n ≤ sizeLine := Nat.le_trans h (by decide)
theorem PV.newC {K : PySem.W.Frag} {mg : Str → Option Value} {W : Wd} {H : Hp} {σ : L2.St} {S : Sto} {p : Addr} {Q : VK} {c : Cell} {o : HO} (h : HR K mg W S H) (hp : H p = none) (q : PV K mg EX W H σ Q (.ok (.r S.length) (S ++ [c]))) (hc : CRep K mg (W.push p) (upd H p o) p c) : Q (.ref p) (upd H p o) :=
  q (W.push p) (upd H p o) (.ref p) (ext_push h hp) (h.push hp hc) (.r (by show (W.M ++ [p])[S.length]? = some p; rw [h.len]; simp))
variable {es : List Expr} {r : MA} {pos : Pos}
theorem se_tup {x1 : Nat} (h : SA X EX es r) : SE X EX (.Tuple es x1 pos) (mTup r) := by
  refine (pe_tupO h).wk fun σ H Q h => ?_
  obtain ⟨W, S, ρ, h, e, p⟩ := h
  refine TAr.step h e p fun xs S1 W1 H1 vs e1 h1 er1 r1 p1 => ?_
  split at p1
  · rename_i hl
    exact ⟨by rw [r1.length]; exact le1000 hl, fun b o hb ho => p1.newF h1 hb (newTup h1 hb ho r1)⟩
  · exact p1.elim
theorem se_lst (h : SA X EX es r) : SE X EX (.List es pos) (mLst r) := by
  refine (pe_lst h).wk fun σ H Q h => ?_
  obtain ⟨W, S, ρ, h, e, p⟩ := h
  refine TAr.step h e p fun xs S1 W1 H1 vs e1 h1 er1 r1 p1 => ?_
  split at p1
  · rename_i ds e1
    split at p1
    · rename_i hl
      have := allD_some e1
      subst this
      exact ⟨by rw [r1.length]; exact le1000 hl, fun b hb => p1.newF h1 hb (newLst h1 hb (RepA.toD r1))⟩
    · exact p1.elim
  · exact p1.elim
theorem se_lstM (h : SA X EX es r) : SE X EX (.List es pos) (mLstM r) := by
  refine (pe_lst h).wk fun σ H Q h => ?_
  obtain ⟨W, S, ρ, h, e, p⟩ := h
  refine TAr.step h e p fun xs S1 W1 H1 vs e1 h1 er1 r1 p1 => ?_
  split at p1
  · rename_i hl
    exact ⟨by rw [r1.length]; exact le1000 hl, fun b hb => p1.newC h1 hb ⟨vs, upd_same, RepA.ext (ext_push h1 hb) _ _ r1⟩⟩
  · exact p1.elim
def mDictK : ME := fun _ S => .ok (.r S.length) (S ++ [.dk []])
def mDictT : ME := fun _ S => .ok (.r S.length) (S ++ [.dt []])
theorem se_dictK : SE X EX (.Dict [] [] pos) mDictK := by
  refine pe_dnewK.wk fun σ H Q h => ?_
  obtain ⟨W, S, ρ, h, e, p⟩ := h
  exact fun b hb => PV.newC (o := .dK []) h hb p ⟨[], upd_same, .nil⟩
theorem se_dictT : SE X EX (.Dict [] [] pos) mDictT := by
  refine pe_dnewT.wk fun σ H Q h => ?_
  obtain ⟨W, S, ρ, h, e, p⟩ := h
  exact fun b hb => PV.newC (o := .dT []) h hb p ⟨[], upd_same, .nil⟩
end
end EV

/-! EvBlt: built-in functions and classes called. -/
namespace EV
open PySem PySem.Spec PyProof.Rows L2
def BltS (X : Cx) (EX : WX) (f : Value) (g : List Vl → Sto → RE) : Prop :=
  ∃ r, CallR X f r ∧ ∀ W S H σ xs vs Q, HR X.K X.mg W S H → RepA X.K W H vs xs → PV X.K X.mg EX W H σ Q (g xs S) → r vs H Q
def mBlt (g : List Vl → Sto → RE) (as : MA) : ME := fun ρ S => (as ρ S).bind g
section
variable {X : Cx} {EX : WX} {g : List Vl → Sto → RE} {x : Str} {p pos : Pos} {e : Expr} {es : List Expr} {as : MA} {id T : String}
theorem se_callB (o : BltS X EX (.builtin id) g) (hg : Gl X x) (hm : X.mg x = none) (hv : bootBuiltins x = some (.builtin id)) (ha : SA X EX (e :: es) as) (hn : x ≠ "__name__" := by decide) (hdb : (x == ("__debug__" : Str)) = false := by decide)
    (he : starEach (e :: es) X.env = (false, eval e X.env) :: starEach es X.env := by rfl) (hpl : (backTo pos (starEach es X.env)).any (·.1) = false := by rfl) : SE X EX (.Call (.Name x p) (e :: es) [] pos) (mBlt g as) := by
  obtain ⟨r, o1, o2⟩ := o
  refine (pe_callB o1 hg hm hv ha hn hdb he hpl).wk fun σ H Q h => ?_
  obtain ⟨W, S, ρ, h, e, p⟩ := h
  exact TAr.step h e p fun xs S1 W1 H1 vs e1 h1 er1 r1 p1 => o2 W1 S1 H1 σ xs vs Q h1 r1 p1
theorem se_callTy (o : BltS X EX (.type T) g) (hg : Gl X x) (hm : X.mg x = none) (hv : bootBuiltins x = some (.type T)) (ha : SA X EX (e :: es) as) (hn : x ≠ "__name__" := by decide) (hdb : (x == ("__debug__" : Str)) = false := by decide)
    (he : starEach (e :: es) X.env = (false, eval e X.env) :: starEach es X.env := by rfl) (hpl : (backTo pos (starEach es X.env)).any (·.1) = false := by rfl) : SE X EX (.Call (.Name x p) (e :: es) [] pos) (mBlt g as) := by
  obtain ⟨r, o1, o2⟩ := o
  refine (pe_callTy o1 hg hm hv ha hn hdb he hpl).wk fun σ H Q h => ?_
  obtain ⟨W, S, ρ, h, e, p⟩ := h
  exact TAr.step h e p fun xs S1 W1 H1 vs e1 h1 er1 r1 p1 => o2 W1 S1 H1 σ xs vs Q h1 r1 p1
/-- one argument -/
def one (f : Vl → Sto → RE) (xs : List Vl) (S : Sto) : RE := match xs with
  | [x] => f x S
  | _ => .bad
@[simp] theorem one_1 (f : Vl → Sto → RE) (x : Vl) (S : Sto) : one f [x] S = f x S := rfl
def two (f : Vl → Vl → Sto → RE) (xs : List Vl) (S : Sto) : RE := match xs with
  | [x, y] => f x y S
  | _ => .bad
@[simp] theorem two_2 (f : Vl → Vl → Sto → RE) (x y : Vl) (S : Sto) : two f [x, y] S = f x y S := rfl
theorem blt1 {f : Value} {r : List V → Hp → VK → Prop} {k : Vl → Sto → RE} (c : CallR X f r) (o : ∀ W S H σ x v Q, HR X.K X.mg W S H → Rep X.K W H v x → PV X.K X.mg EX W H σ Q (k x S) → r [v] H Q) : BltS X EX f (one k) := by
  refine ⟨r, c, fun W S H σ xs vs Q h r p => ?_⟩
  unfold one at p
  split at p
  · cases r with | cons r1 r2 =>
    cases r2
    exact o W S H σ _ _ Q h r1 p
  · exact p.elim
theorem blt2 {f : Value} {r : List V → Hp → VK → Prop} {k : Vl → Vl → Sto → RE} (c : CallR X f r) (o : ∀ W S H σ x y v u Q, HR X.K X.mg W S H → Rep X.K W H v x → Rep X.K W H u y → PV X.K X.mg EX W H σ Q (k x y S) → r [v, u] H Q) : BltS X EX f (two k) := by
  refine ⟨r, c, fun W S H σ xs vs Q h r p => ?_⟩
  unfold two at p
  split at p
  · cases r with | cons r1 r2 =>
    cases r2 with | cons r2 r3 =>
    cases r3
    exact o W S H σ _ _ _ _ Q h r1 r2 p
  · exact p.elim

/-! len -/
def lenO (x : Vl) (S : Sto) : Option Nat := match x with
  | .d (.str z) => if z.length ≤ sizeLine then some z.length else none
  | .r l => match S[l]? with
    | some (.dk kvs) => some kvs.length
    | some (.dt kvs) => some kvs.length
    | _ => (seqV x S).map fun p => p.2.length
  | x => (seqV x S).map fun p => p.2.length
def lenV (x : Vl) (S : Sto) : RE := match lenO x S with
  | some n => .ok (.d (.int n)) S
  | none => .bad
theorem RepK.length {K : PySem.W.Frag} {W : Wd} {H : Hp} {κ : Type} {us : List (κ × V)} {ds : List (κ × Vl)} (h : RepK K W H us ds) : us.length = ds.length := by
  induction h with
  | nil => rfl
  | cons _ _ ih => simp [ih]
theorem blt_len : BltS X EX (.builtin "len") (one lenV) := by
  refine blt1 (call_len.or (call_lenD.or call_len_dT)) fun W S H σ x v Q h r p => ?_
  unfold lenV at p
  cases e : lenO x S with
  | none => rw [e] at p; exact p.elim
  | some n =>
    rw [e] at p
    have sq : (seqV x S).map (fun p => p.2.length) = some n → ∃ y m, [v] = [y] ∧ LenV X.K y H m ∧ Q (.int m) H := fun e => by
      simp only [Option.map_eq_some_iff] at e
      obtain ⟨⟨b, xs⟩, e1, e2⟩ := e
      obtain ⟨a, vs, rfl, g1, g2, g3⟩ := seqV_ok h r e1
      refine ⟨_, n, rfl, ?_, p.hereD h (.int _)⟩
      have : n = vs.length := by rw [g1.length]; exact e2.symm
      cases b with
      | true => exact .inl ⟨vs, g2 rfl, this⟩
      | false => exact .inr ⟨vs, g3 rfl, this⟩
    unfold lenO at e
    split at e
    · cases r with | d r =>
      cases r
      split at e
      · cases e
        exact .inl ⟨_, _, rfl, ⟨by assumption, rfl⟩, p.hereD h (.int _)⟩
      · cases e
    · rename_i l
      cases r with | r h1 =>
      rename_i a
      split at e
      · rename_i kvs q
        cases e
        obtain ⟨us, c1, c2⟩ := h.cell l _ a q h1
        exact .inr (.inl ⟨a, us, rfl, c1, by rw [c2.length]; exact p.hereD h (.int _)⟩)
      · rename_i kvs q
        cases e
        obtain ⟨us, c1, c2⟩ := h.cell l _ a q h1
        exact .inr (.inr ⟨a, us, rfl, c1, by rw [c2.length]; exact p.hereD h (.int _)⟩)
      · exact .inl (sq e)
    · exact .inl (sq e)

/-! isinstance(x, T) -/
def tagV (x : Vl) (S : Sto) : Option String := match x with
  | .d .none => some "NoneType"
  | .d (.bool _) => some "bool"
  | .d (.int _) => some "int"
  | .d (.str _) => some "str"
  | .d (.list _) => some "list"
  | .d (.tuple _) => some "tuple"
  | .d (.dict _) => some "dict"
  | .t _ => some "tuple"
  | .k _ => some "tuple"
  | .q _ => some "list"
  | .r l => match S[l]? with
    | some (.lst _) => some "list"
    | some (.dk _) => some "dict"
    | some (.dt _) => some "dict"
    | _ => none
def tags : List String := ["NoneType", "bool", "int", "str", "list", "tuple", "dict"]
def kinds : List String := ["bool", "int", "str", "list", "tuple", "dict"]
theorem tags_kit : ∀ t ∈ tags, ∀ T ∈ kinds, kitB t T = some (t == T || (t == "bool" && T == "int")) := by decide +kernel
def isO (T : String) (x : Vl) (S : Sto) : Option Bool := (tagV x S).map fun t => t == T || (t == "bool" && T == "int")
theorem tagV_ok {K : PySem.W.Frag} {mg : Str → Option Value} {W : Wd} {H : Hp} {S : Sto} (h : HR K mg W S H) {x : Vl} {v : V} {t : String} (r : Rep K W H v x) (e : tagV x S = some t) : t ∈ tags ∧ TyX K H v (.type t) := by
  cases r with
  | d r =>
    cases r with
    | non => cases e; exact ⟨by decide, .base .non⟩
    | bl b => cases e; exact ⟨by decide, .base (.bl _)⟩
    | int i => cases e; exact ⟨by decide, .base (.int _)⟩
    | str z => cases e; exact ⟨by decide, .base (.str _)⟩
    | lst h1 h2 => cases e; exact ⟨by decide, .base (.lst h1.2)⟩
    | tup h1 h2 => cases e; exact ⟨by decide, h1.u.2.elim (fun z => .base (.tup z)) fun ⟨o, z⟩ => .fTuple z⟩
    | dk h0 h1 h2 => cases e; exact ⟨by decide, .base (.dK h1)⟩
  | t h1 h2 => cases e; exact ⟨by decide, h1.2.elim (fun z => .base (.tup z)) fun ⟨o, z⟩ => .fTuple z⟩
  | k h1 h2 => cases e; obtain ⟨o, its, n, k1, k2, _⟩ := h1; exact ⟨by decide, .kTuple k1 k2⟩
  | q h1 h2 => cases e; exact ⟨by decide, h1.elim (fun ⟨o, its, n, k1, k2, _⟩ => .kList k1 k2) fun z => z.2.elim (fun z => .base (.lst z)) fun ⟨o, z⟩ => .base (.frz z)⟩
  | r h1 =>
    rename_i a l
    simp only [tagV] at e
    cases q : S[l]? with
    | none => rw [q] at e; cases e
    | some c =>
      rw [q] at e
      have hc := h.cell l c a q h1
      cases c with
      | lst xs => cases e; obtain ⟨vs, h2, h3⟩ := hc; exact ⟨by decide, .base (.lst h2)⟩
      | dk xs => cases e; obtain ⟨vs, h2, h3⟩ := hc; exact ⟨by decide, .base (.dK h2)⟩
      | dt xs => cases e; obtain ⟨vs, h2, h3⟩ := hc; exact ⟨by decide, .base (.dT h2)⟩
      | _ => cases e
def mIsI (T : String) (ma : ME) : ME := fun ρ S => (ma ρ S).bind fun x S1 => match isO T x S1 with
  | some b => .ok (.d (.bool b)) S1
  | none => .bad
theorem se_isI {a : Expr} {ma : ME} {y : Str} {p2 : Pos} (ha : SE X EX a ma) (hT : T ∈ kinds) (hg : Gl X "isinstance") (hm : X.mg "isinstance" = none) (hg2 : Gl X y) (hm2 : X.mg y = none) (hv2 : bootBuiltins y = some (.type T)) (hn2 : y ≠ "__name__" := by decide) (hdb2 : (y == ("__debug__" : Str)) = false := by decide)
    (he : starEach [a, .Name y p2] X.env = (false, eval a X.env) :: starEach [.Name y p2] X.env := by rfl) : SE X EX (.Call (.Name "isinstance" p) [a, .Name y p2] [] pos) (mIsI T ma) := by
  refine (pe_callB call_isi hg hm (by decide +kernel) (pa_cons ha (pa_cons (pe_bltn (v := .ty T) hg2 hm2 hv2 rfl hn2 hdb2) pa_nil) he) (he := he)).wk fun σ H Q h => ?_
  obtain ⟨W, S, ρ, h, e, p⟩ := h
  refine EV.T.step h e p fun x S1 W1 H1 v e1 h1 er1 r1 p1 => ?_
  unfold isO at p1
  cases q : tagV x S1 with
  | none => rw [q] at p1; exact p1.elim
  | some t =>
    rw [q] at p1
    obtain ⟨t1, t2⟩ := tagV_ok h1 r1 q
    exact ⟨v, .ty T, .type t, .type T, _, rfl, .ty T, t2, kit_ty (tags_kit t t1 T hT), p1.hereD h1 (.bl _)⟩

/-! int(x), str(x), min and max of two -/
def intV (x : Vl) (S : Sto) : RE := match x with
  | .d (.int i) => .ok (.d (.int i)) S
  | .d (.bool k) => .ok (.d (.int (if k then 1 else 0))) S
  | .d (.str a) => match PySem.intText? a with
    | some n => if a.length ≤ 640 then .ok (.d (.int n)) S else .bad
    | none => .bad
  | _ => .bad
theorem blt_int : BltS X EX (.type "int") (one intV) := by
  refine blt1 (call_int1.or call_int_str) fun W S H σ x v Q h r p => ?_
  unfold intV at p
  split at p
  · cases r with | d r => cases r; exact .inl (.inl ⟨_, rfl, p.hereD h (.int _)⟩)
  · cases r with | d r => cases r; exact .inl (.inr ⟨_, rfl, p.hereD h (.int _)⟩)
  · split at p
    · split at p
      · cases r with | d r => cases r; exact .inr ⟨_, _, rfl, by assumption, by assumption, p.hereD h (.int _)⟩
      · exact p.elim
    · exact p.elim
  · exact p.elim
def strV (x : Vl) (S : Sto) : RE := match x with
  | .d (.int i) => if i.natAbs.log2 < 1920 then .ok (.d (.str (toString i : String))) S else .bad
  | .d (.str a) => .ok (.d (.str a)) S
  | _ => .bad
theorem blt_str : BltS X EX (.type "str") (one strV) := by
  refine blt1 (call_str_int.or SkE.call_str_str) fun W S H σ x v Q h r p => ?_
  unfold strV at p
  split at p
  · split at p
    · cases r with | d r => cases r; exact .inl ⟨_, rfl, by assumption, p.hereD h (.str _)⟩
    · exact p.elim
  · cases r with | d r => cases r; exact .inr ⟨_, rfl, p.hereD h (.str _)⟩
  · exact p.elim
def boolV (x : Vl) (S : Sto) : RE := match x with
  | .d (.bool k) => .ok (.d (.bool k)) S
  | .d (.int i) => .ok (.d (.bool (i != 0))) S
  | _ => .bad
theorem blt_bool : BltS X EX (.type "bool") (one boolV) := by
  refine blt1 call_bool1 fun W S H σ x v Q h r p => ?_
  unfold boolV at p
  split at p
  · cases r with | d r => cases r; exact .inr ⟨_, rfl, p.hereD h (.bl _)⟩
  · cases r with | d r => cases r; exact .inl ⟨_, rfl, p.hereD h (.bl _)⟩
  · exact p.elim
def max2V (x y : Vl) (S : Sto) : RE := match x, y with
  | .d (.int i), .d (.int j) => .ok (.d (.int (if j > i then j else i))) S
  | _, _ => .bad
def min2V (x y : Vl) (S : Sto) : RE := match x, y with
  | .d (.int i), .d (.int j) => .ok (.d (.int (if j < i then j else i))) S
  | _, _ => .bad
theorem blt_max2 (hc : X.calm = true) : BltS X EX (.builtin "max") (two max2V) := by
  refine blt2 (call_max2 hc) fun W S H σ x y v u Q h rx ry p => ?_
  unfold max2V at p
  split at p
  · cases rx with | d rx => cases ry with | d ry => cases rx; cases ry; exact ⟨_, _, rfl, p.hereD h (.int _)⟩
  · exact p.elim
theorem blt_min2 (hc : X.calm = true) : BltS X EX (.builtin "min") (two min2V) := by
  refine blt2 (call_min2 hc) fun W S H σ x y v u Q h rx ry p => ?_
  unfold min2V at p
  split at p
  · cases rx with | d rx => cases ry with | d ry => cases rx; cases ry; exact ⟨_, _, rfl, p.hereD h (.int _)⟩
  · exact p.elim

/-! lists of ints, of truths -/
def intsD : List PyData → Option (List Int)
  | [] => some []
  | .int i :: r => (intsD r).map (i :: ·)
  | _ :: _ => none
def boolsD : List PyData → Option (List Bool)
  | [] => some []
  | .bool i :: r => (boolsD r).map (i :: ·)
  | _ :: _ => none
def strsD : List PyData → Option (List Str)
  | [] => some []
  | .str i :: r => (strsD r).map (i :: ·)
  | _ :: _ => none
@[simp] theorem intsD_map (ns : List Int) : intsD (ns.map .int) = some ns := by induction ns <;> simp_all [intsD]
@[simp] theorem boolsD_map (ns : List Bool) : boolsD (ns.map .bool) = some ns := by induction ns <;> simp_all [boolsD]
@[simp] theorem strsD_map (ns : List Str) : strsD (ns.map .str) = some ns := by induction ns <;> simp_all [strsD]
theorem intsD_ok {F : Addr → Prop} {H : Hp} : ∀ {ds : List PyData} {vs : List V} {ns : List Int}, FdA F H vs ds → intsD ds = some ns → vs = ns.map V.int
  | _, _, _, .nil, e => by cases e; rfl
  | .int i :: ds, _, _, .cons h t, e => by
    simp only [intsD, Option.map_eq_some_iff] at e
    obtain ⟨m, e1, rfl⟩ := e
    cases h
    rw [intsD_ok t e1]; rfl
  | .none :: _, _, _, _, e => by cases e
  | .bool _ :: _, _, _, _, e => by cases e
  | .str _ :: _, _, _, _, e => by cases e
  | .list _ :: _, _, _, _, e => by cases e
  | .tuple _ :: _, _, _, _, e => by cases e
  | .dict _ :: _, _, _, _, e => by cases e
theorem boolsD_ok {F : Addr → Prop} {H : Hp} : ∀ {ds : List PyData} {vs : List V} {ns : List Bool}, FdA F H vs ds → boolsD ds = some ns → vs = ns.map V.bl
  | _, _, _, .nil, e => by cases e; rfl
  | .bool i :: ds, _, _, .cons h t, e => by
    simp only [boolsD, Option.map_eq_some_iff] at e
    obtain ⟨m, e1, rfl⟩ := e
    cases h
    rw [boolsD_ok t e1]; rfl
  | .none :: _, _, _, _, e => by cases e
  | .int _ :: _, _, _, _, e => by cases e
  | .str _ :: _, _, _, _, e => by cases e
  | .list _ :: _, _, _, _, e => by cases e
  | .tuple _ :: _, _, _, _, e => by cases e
  | .dict _ :: _, _, _, _, e => by cases e
theorem strsD_ok {F : Addr → Prop} {H : Hp} : ∀ {ds : List PyData} {vs : List V} {ns : List Str}, FdA F H vs ds → strsD ds = some ns → vs = ns.map V.str
  | _, _, _, .nil, e => by cases e; rfl
  | .str i :: ds, _, _, .cons h t, e => by
    simp only [strsD, Option.map_eq_some_iff] at e
    obtain ⟨m, e1, rfl⟩ := e
    cases h
    rw [strsD_ok t e1]; rfl
  | .none :: _, _, _, _, e => by cases e
  | .int _ :: _, _, _, _, e => by cases e
  | .bool _ :: _, _, _, _, e => by cases e
  | .list _ :: _, _, _, _, e => by cases e
  | .tuple _ :: _, _, _, _, e => by cases e
  | .dict _ :: _, _, _, _, e => by cases e
def allV (x : Vl) (S : Sto) : RE := match seqD x S with
  | some (true, ds) => match boolsD ds with
    | some bs => .ok (.d (.bool (bs.all fun b => b))) S
    | none => .bad
  | _ => .bad
theorem blt_all (hc : X.calm = true) : BltS X EX (.builtin "all") (one allV) := by
  refine blt1 (cr_all hc) fun W S H σ x v Q h r p => ?_
  unfold allV at p
  split at p
  · rename_i ds e
    split at p
    · rename_i bs e2
      obtain ⟨a, vs, rfl, g1, g2, g3⟩ := seqD_ok h r e
      have := boolsD_ok g1 e2
      subst this
      exact ⟨a, bs, rfl, g2 rfl, p.hereD h (.bl _)⟩
    · exact p.elim
  · exact p.elim
def listMax (d : Int) (ns : List Int) : Int := ns.foldl max (ns.headD d)
theorem foldl_max_ge : ∀ (ns : List Int) (b : Int), b ≤ ns.foldl max b ∧ ∀ y ∈ ns, y ≤ ns.foldl max b
  | [], b => ⟨Int.le_refl _, fun _ h => nomatch h⟩
  | n :: ns, b => by
    obtain ⟨h1, h2⟩ := foldl_max_ge ns (max b n)
    refine ⟨?_, fun y hy => ?_⟩
    · simp only [List.foldl_cons]; omega
    · rcases List.mem_cons.mp hy with rfl | hy
      · simp only [List.foldl_cons]; omega
      · simp only [List.foldl_cons]; exact h2 y hy
theorem foldl_max_mem : ∀ (ns : List Int) (b : Int), ns.foldl max b = b ∨ ns.foldl max b ∈ ns
  | [], b => .inl rfl
  | n :: ns, b => by
    simp only [List.foldl_cons]
    rcases foldl_max_mem ns (max b n) with h | h
    · rw [h]
      rcases Int.le_total b n with q | q
      · right; rw [Int.max_eq_right q]; exact List.mem_cons_self
      · left; exact Int.max_eq_left q
    · right; exact List.mem_cons_of_mem _ h
theorem listMax_is {ns : List Int} {m d : Int} (h1 : m ∈ ns) (h2 : ∀ y ∈ ns, y ≤ m) : m = listMax d ns := by
  cases ns with
  | nil => cases h1
  | cons n r =>
    show m = (n :: r).foldl max n
    have a := foldl_max_ge (n :: r) n
    have b := foldl_max_mem (n :: r) n
    have c := a.2 m h1
    have e : (n :: r).foldl max n ≤ m := by
      rcases b with b | b
      · rw [b]; exact h2 n List.mem_cons_self
      · exact h2 _ b
    omega
def maxLV (x : Vl) (S : Sto) : RE := match seqD x S with
  | some (true, ds) => match intsD ds with
    | some ns => if ns = [] then .bad else .ok (.d (.int (listMax 0 ns))) S
    | none => .bad
  | _ => .bad
theorem blt_maxL (hc : X.calm = true) : BltS X EX (.builtin "max") (one maxLV) := by
  refine blt1 (cr_max hc) fun W S H σ x v Q h r p => ?_
  unfold maxLV at p
  split at p
  · rename_i ds e
    split at p
    · rename_i ns e2
      split at p
      · exact p.elim
      · rename_i ne
        obtain ⟨a, vs, rfl, g1, g2, g3⟩ := seqD_ok h r e
        have := intsD_ok g1 e2
        subst this
        refine ⟨a, ns, rfl, g2 rfl, List.length_pos_iff.mpr ne, fun m h1 h2 => ?_⟩
        rw [listMax_is (d := 0) h1 h2]
        exact p.hereD h (.int _)
    · exact p.elim
  · exact p.elim

/-! list(x), tuple(x) -/
def tupleV (x : Vl) (S : Sto) : RE := match x with
  | .d (.tuple ds) => .ok (.d (.tuple ds)) S
  | .t xs => .ok (.t xs) S
  | .k xs => .ok (.k xs) S
  | x => match seqV x S with
    | some (true, xs) => .ok (mkTup xs) S
    | _ => .bad
theorem blt_tuple : BltS X EX (.type "tuple") (one tupleV) := by
  refine blt1 call_tupleO fun W S H σ x v Q h r p => ?_
  unfold tupleV at p
  split at p
  · cases r with | d r => cases r with | tup h1 h2 => exact ⟨_, _, rfl, .inr ⟨h1.sq, p.hereD h (.tup h1 h2)⟩⟩
  · cases r with | t h1 h2 => exact ⟨_, _, rfl, .inr ⟨h1.sq, p.here h (.t h1 h2)⟩⟩
  · cases r with | k h1 h2 => exact ⟨_, _, rfl, .inr ⟨h1.sq, p.here h (.k h1 h2)⟩⟩
  · split at p
    · rename_i xs e
      obtain ⟨a, vs, rfl, g1, g2, g3⟩ := seqV_ok h r e
      exact ⟨a, vs, rfl, .inl ⟨g2 rfl, fun l o hl ho => p.newF h hl (newTup h hl ho g1)⟩⟩
    · exact p.elim
def listV (x : Vl) (S : Sto) : RE := match seqD x S with
  | some (_, ds) => .ok (.d (.list ds)) S
  | _ => .bad
def listMV (x : Vl) (S : Sto) : RE := match seqV x S with
  | some (_, xs) => .ok (.r S.length) (S ++ [.lst xs])
  | _ => .bad
theorem blt_list : BltS X EX (.type "list") (one listV) := by
  refine blt1 call_list_of fun W S H σ x v Q h r p => ?_
  unfold listV at p
  split at p
  · rename_i b ds e
    obtain ⟨a, vs, rfl, g1, g2, g3⟩ := seqD_ok h r e
    refine ⟨a, vs, rfl, ?_, fun l hl => p.newF h hl (newLst h hl g1)⟩
    cases b with
    | true => exact .inl (g2 rfl)
    | false => exact .inr (g3 rfl)
  · exact p.elim
theorem blt_listM : BltS X EX (.type "list") (one listMV) := by
  refine blt1 call_list_of fun W S H σ x v Q h r p => ?_
  unfold listMV at p
  split at p
  · rename_i b ds e
    obtain ⟨a, vs, rfl, g1, g2, g3⟩ := seqV_ok h r e
    refine ⟨a, vs, rfl, ?_, fun l hl => p.newC h hl ⟨vs, upd_same, RepA.ext (ext_push h hl) _ _ g1⟩⟩
    cases b with
    | true => exact .inl (g2 rfl)
    | false => exact .inr (g3 rfl)
  · exact p.elim
end
end EV

/-! EvStm: statements, targets, what is given up of the store. -/
namespace EV
open PySem PySem.Spec PyProof.Rows L2
def sNil : MS := fun ρ S => .nx ρ S
def RS.seq (r : RS) (f : Nv → Sto → RS) : RS := match r with
  | .nx ρ S => f ρ S
  | r => r
@[simp] theorem RS.seq_nx (ρ : Nv) (S : Sto) (f : Nv → Sto → RS) : (RS.nx ρ S).seq f = f ρ S := rfl
@[simp] theorem RS.seq_ret (x : Vl) (S : Sto) (f : Nv → Sto → RS) : (RS.ret x S).seq f = .ret x S := rfl
@[simp] theorem RS.seq_bk (ρ : Nv) (S : Sto) (f : Nv → Sto → RS) : (RS.bk ρ S).seq f = .bk ρ S := rfl
@[simp] theorem RS.seq_ct (ρ : Nv) (S : Sto) (f : Nv → Sto → RS) : (RS.ct ρ S).seq f = .ct ρ S := rfl
@[simp] theorem RS.seq_exc (e : Exn) (ρ : Nv) (S : Sto) (f : Nv → Sto → RS) : (RS.exc e ρ S).seq f = .exc e ρ S := rfl
@[simp] theorem RS.seq_bad (f : Nv → Sto → RS) : RS.bad.seq f = .bad := rfl
def sSeq (a b : MS) : MS := fun ρ S => (a ρ S).seq b
def sIf (c : ME) (a b : MS) : MS := fun ρ S => (c ρ S).toS ρ fun x S1 => onB x .bad fun k => if k then a ρ S1 else b ρ S1
def sRet (m : ME) : MS := fun ρ S => (m ρ S).toS ρ fun x S1 => .ret x S1
def sRetN : MS := fun _ S => .ret (.d .none) S
def sExpr (m : ME) : MS := fun ρ S => (m ρ S).toS ρ fun _ S1 => .nx ρ S1
def sBreak : MS := fun ρ S => .bk ρ S
def sCont : MS := fun ρ S => .ct ρ S
def sBad : MS := fun _ _ => .bad
section
variable {X : Cx} {EX : WX} {st : Stmt} {rest : List Stmt} {a b : MS} {e : Expr} {m : ME} {pos : Pos}
theorem sss_nil : SSs X EX [] sNil := pss_nil.wk fun D σ H ⟨W, S, ρ, h, e, p⟩ => p W H σ Ext.refl h e
theorem sss_cons (h1 : SS X EX st a) (h2 : SSs X EX rest b) : SSs X EX (st :: rest) (sSeq a b) := by
  refine (pss_cons h1 h2).wk fun D σ H h => ?_
  obtain ⟨W, S, ρ, h, e, p⟩ := h
  refine ⟨W, S, ρ, h, e, ?_⟩
  unfold sSeq at p
  cases q : a ρ S with
  | nx ρ1 S1 => rw [q] at p; exact fun W1 H1 σ1 e1 h1 er1 => ⟨W1, S1, ρ1, h1, er1, PSt.ext e1 p⟩
  | ret x S1 => rw [q] at p; exact p
  | bk x S1 => rw [q] at p; exact p
  | ct x S1 => rw [q] at p; exact p
  | exc x ρ1 S1 => rw [q] at p; exact p
  | bad => rw [q] at p; exact p
theorem sss_one (h1 : SS X EX st a) : SSs X EX [st] a := pss_one h1
theorem ss_pass : SS X EX (.Pass pos) sNil := ps_pass.wk fun D σ H ⟨W, S, ρ, h, e, p⟩ => p W H σ Ext.refl h e
theorem ss_break : SS X EX (.Break pos) sBreak := ps_break.wk fun D σ H ⟨W, S, ρ, h, e, p⟩ => p W H σ Ext.refl h e
theorem ss_cont : SS X EX (.Continue pos) sCont := ps_continue.wk fun D σ H ⟨W, S, ρ, h, e, p⟩ => p W H σ Ext.refl h e
theorem ss_never : SS X EX st sBad := ps_never.wk fun D σ H ⟨W, S, ρ, h, e, p⟩ => p
theorem ss_expr (he : SE X EX e m) (hs : swapsWith e none pos.line X.env = pure false := by rfl) : SS X EX (.Expr e pos) (sExpr m) := by
  refine (ps_expr he hs).wk fun D σ H h => ?_
  obtain ⟨W, S, ρ, h, e, p⟩ := h
  exact T.stepS h e p fun x S1 W1 H1 v e1 h1 er1 r1 p1 => p1 W1 H1 σ Ext.refl h1 er1
theorem ss_ret (he : SE X EX e m) : SS X EX (.Return (some e) pos) (sRet m) := by
  refine (ps_ret he).wk fun D σ H h => ?_
  obtain ⟨W, S, ρ, h, e, p⟩ := h
  exact T.stepS h e p fun x S1 W1 H1 v e1 h1 er1 r1 p1 => p1 W1 H1 v Ext.refl h1 r1
theorem ss_retN : SS X EX (.Return none pos) sRetN := ps_retN.wk fun D σ H ⟨W, S, ρ, h, e, p⟩ => p W H .non Ext.refl h (.d .non)
theorem ss_if {c : Expr} {mc : ME} {sa sb : List Stmt} (hc : SB X EX c mc) (ha : SSs X EX sa a) (hb : SSs X EX sb b) : SS X EX (.If c sa sb pos) (sIf mc a b) := by
  refine (ps_if hc ha hb).wk fun D σ H h => ?_
  obtain ⟨W, S, ρ, h, e, p⟩ := h
  refine TB.stepS h e p fun k S1 W1 H1 e1 h1 er1 p1 => ?_
  cases k with
  | true => exact iteT ⟨W1, S1, ρ, h1, er1, p1⟩
  | false => exact iteF ⟨W1, S1, ρ, h1, er1, p1⟩
end

/-! ### targets -/
/-- what a target is made of a value: the names' values behind -/
abbrev MG := Vl → Nv → Sto → Option Nv
/-- the target's own slots are sl -/
def SG (X : Cx) (tg : Expr) (g : MG) (sl : List Nat) : Prop :=
  ∃ t, PG X tg t ∧ ∀ W S H ρ σ v x ρ' Q, HR X.K X.mg W S H → ER X.K W H ρ σ → Rep X.K W H v x → g x ρ S = some ρ' →
    (∀ σ', ER X.K W H ρ' σ' → (∀ vs : List Nat, (∀ i ∈ sl, i ∈ vs) → wipe σ' vs = wipe σ vs) → Q σ' H) → t v σ H Q
def SGs (X : Cx) (ts : List Expr) (g : List Vl → Nv → Sto → Option Nv) (sl : List Nat) : Prop :=
  ∃ t, PGs X ts t ∧ ∀ W S H ρ σ vs xs ρ' Q, HR X.K X.mg W S H → ER X.K W H ρ σ → RepA X.K W H vs xs → g xs ρ S = some ρ' →
    (∀ σ', ER X.K W H ρ' σ' → (∀ vs : List Nat, (∀ i ∈ sl, i ∈ vs) → wipe σ' vs = wipe σ vs) → Q σ' H) → t vs σ H Q
theorem wipe_set {σ : L2.St} {i : Nat} {v : V} : ∀ {vs : List Nat}, i ∈ vs → wipe (σ.set i (some v)) vs = wipe σ vs
  | [], h => nomatch h
  | j :: vs, h => by
    have comm : ∀ (τ : L2.St) (o : Option V) (ws : List Nat), wipe (τ.set i o) ws = if i ∈ ws then wipe τ ws else (wipe τ ws).set i o := by
      intro τ o ws
      induction ws with
      | nil => simp [wipe]
      | cons k ws ih =>
        unfold wipe
        rw [ih]
        by_cases h1 : i ∈ ws
        · rw [if_pos h1, if_pos (List.mem_cons_of_mem _ h1)]
        · rw [if_neg h1]
          by_cases h2 : i = k
          · subst h2
            rw [if_pos List.mem_cons_self, List.set_set]
          · rw [if_neg (by simp [h1, h2]), List.set_comm _ _ h2]
    rw [comm, if_pos h]
def gNm (i : Nat) : MG := fun x ρ _ => some (ρ.set i (some x))
def gsNil : List Vl → Nv → Sto → Option Nv := fun xs ρ _ => match xs with
  | [] => some ρ
  | _ => none
def gsCons (g : MG) (r : List Vl → Nv → Sto → Option Nv) : List Vl → Nv → Sto → Option Nv := fun xs ρ S => match xs with
  | x :: xs => match g x ρ S with
    | some ρ1 => r xs ρ1 S
    | none => none
  | [] => none
def gUn (n : Nat) (r : List Vl → Nv → Sto → Option Nv) : MG := fun x ρ S => match seqV x S with
  | some (_, xs) => if xs.length = n then r xs ρ S else none
  | none => none
theorem _root_.L2.PG.or {X : Cx} {tg : Expr} {t t' : TG} (h : PG X tg t) (h' : PG X tg t') : PG X tg (fun v σ H Q => t v σ H Q ∨ t' v σ H Q) :=
  ⟨fun pins s σ H v u Q I r q => q.elim (h.run pins s σ H v u Q I r) (h'.run pins s σ H v u Q I r)⟩
section
variable {X : Cx} {EX : WX} {pos : Pos}
theorem sg_nm (i : Nat) {x : Str} (hN : X.N.Nodup) (hi : X.N[i]? = some x := by rfl) (hx : Loc X.env.scope x := by first | exact Or.inl rfl | exact Or.inr rfl) (hf : X.fn x = true ∨ X.env.scope.names.lookup x = some .local := by first | exact .inl rfl | exact .inr rfl | assumption) : SG X (.Name x pos) (gNm i) [i] := by
  refine ⟨_, pg_name hN hi hx hf, fun W S H ρ σ v x ρ' Q h e r q k => ?_⟩
  cases q
  exact k _ (e.set r i) fun vs hv => wipe_set (hv i List.mem_cons_self)
theorem sgs_nil : SGs X [] gsNil [] := by
  refine ⟨_, pgs_nil, fun W S H ρ σ vs xs ρ' Q h e r q k => ?_⟩
  cases r with
  | nil => cases q; exact ⟨rfl, k σ e fun _ _ => rfl⟩
  | cons _ _ => cases q
theorem sgs_cons {t : Expr} {ts : List Expr} {g : MG} {gs : List Vl → Nv → Sto → Option Nv} {sl sls : List Nat} (h1 : SG X t g sl) (h2 : SGs X ts gs sls)
    (hs : (assignEach (t :: ts) X.env).map (·.2) = assign t X.env :: (assignEach ts X.env).map (·.2) := by rfl) : SGs X (t :: ts) (gsCons g gs) (sl ++ sls) := by
  obtain ⟨t1, p1, q1⟩ := h1
  obtain ⟨t2, p2, q2⟩ := h2
  refine ⟨_, pgs_cons p1 p2 hs, fun W S H ρ σ vs xs ρ' Q h e r q k => ?_⟩
  cases r with
  | nil => cases q
  | cons r rr =>
    rename_i v vs x xs
    unfold gsCons at q
    simp only at q
    split at q
    · rename_i ρ1 e1
      refine ⟨_, _, rfl, q1 W S H ρ σ v x ρ1 _ h e r e1 fun σ1 er1 w1 => ?_⟩
      refine q2 W S H ρ1 σ1 vs xs ρ' _ h er1 rr q fun σ2 er2 w2 => ?_
      exact k σ2 er2 fun ws hw => (w2 ws fun i hi => hw i (List.mem_append_right _ hi)).trans (w1 ws fun i hi => hw i (List.mem_append_left _ hi))
    · cases q
theorem sg_un {es : List Expr} {kk n : Nat} {gs : List Vl → Nv → Sto → Option Nv} {sl : List Nat} (hc : X.calm = true) (h : SGs X es gs sl)
    (hn : (assignEach es X.env).length = n := by rfl) (hst : (assignEach es X.env).findIdx? (·.1) = none := by rfl) : SG X (.Tuple es kk pos) (gUn n gs) sl := by
  obtain ⟨t, p, q⟩ := h
  refine ⟨_, (pg_tup hc p hn hst).or (pg_lst hc p hn hst), fun W S H ρ σ v x ρ' Q h e r q' k => ?_⟩
  unfold gUn at q'
  split at q'
  · rename_i b xs e1
    split at q'
    · rename_i hl
      obtain ⟨a, vs, rfl, g1, g2, g3⟩ := seqV_ok h r e1
      cases b with
      | true => exact .inr ⟨a, vs, rfl, g2 rfl, g1.length.trans hl, q W S H ρ σ vs xs ρ' Q h e g1 q' k⟩
      | false => exact .inl ⟨a, vs, rfl, g3 rfl, g1.length.trans hl, q W S H ρ σ vs xs ρ' Q h e g1 q' k⟩
    · cases q'
  · cases q'

/-! ### assignments -/
def sAsg (g : MG) (m : ME) : MS := fun ρ S => (m ρ S).toS ρ fun x S1 => match g x ρ S1 with
  | some ρ1 => .nx ρ1 S1
  | none => .bad
def sSet (i : Nat) (m : ME) : MS := fun ρ S => (m ρ S).toS ρ fun x S1 => .nx (ρ.set i (some x)) S1
variable {e : Expr} {m : ME}
theorem ss_set (i : Nat) {x : Str} {pos' : Pos} (hN : X.N.Nodup) (he : SE X EX e m) (hi : X.N[i]? = some x := by rfl) (hx : Loc X.env.scope x := by first | exact Or.inl rfl | exact Or.inr rfl) (hs : swapsWith e (some (.Name x pos')) pos.line X.env = pure false := by rfl)
    (hf : X.fn x = true ∨ X.env.scope.names.lookup x = some .local := by first | exact .inl rfl | exact .inr rfl | assumption) : SS X EX (.Assign [.Name x pos'] e pos) (sSet i m) := by
  refine (ps_set hN hi hx he hs hf).wk fun D σ H h => ?_
  obtain ⟨W, S, ρ, h, e, p⟩ := h
  exact T.stepS h e p fun x S1 W1 H1 v e1 h1 er1 r1 p1 => p1 W1 H1 _ Ext.refl h1 (er1.set r1 i)
theorem ss_asg {tg : Expr} {g : MG} {sl : List Nat} (he : SE X EX e m) (hg : SG X tg g sl) (hs : swapsWithSole [tg] e pos.line X.env = pure false := by rfl) (hw : swappedStores [tg] e X.env = pure none := by rfl)
    (h1 : (assignEach [tg] X.env).map (·.2) = [assign tg X.env] := by rfl) : SS X EX (.Assign [tg] e pos) (sAsg g m) := by
  obtain ⟨t, p1, p2⟩ := hg
  refine (ps_asg he p1 hs hw h1).wk fun D σ H h => ?_
  obtain ⟨W, S, ρ, h, e, p⟩ := h
  refine T.stepS h e p fun x S1 W1 H1 v e1 h1 er1 r1 q1 => ?_
  cases q : g x ρ S1 with
  | none => simp only [q] at q1; exact q1.elim
  | some ρ1 => simp only [q] at q1; exact p2 W1 S1 H1 ρ σ v x ρ1 _ h1 er1 r1 q fun σ' er' _ => q1 W1 H1 σ' Ext.refl h1 er'
/-- a, b = x, y: two local names -/
def sPar (i j : Nat) (as : MA) : MS := fun ρ S => match as ρ S with
  | .ok [x, y] S1 => .nx ((ρ.set i (some x)).set j (some y)) S1
  | .ok _ _ => .bad
  | .exc e S1 => .exc e ρ S1
  | .bad => .bad
/-- a op= b at a name -/
def sAug (i : Nat) (f : Vl → Vl → Sto → RE) (m : ME) : MS := fun ρ S => match ρ[i]? with
  | some (some x) => (m ρ S).toS ρ fun y S1 => (f x y S1).toS ρ fun z S2 => .nx (ρ.set i (some z)) S2
  | _ => .bad
/-- o[i] = v -/
def putC {κ : Type} [DecidableEq κ] (kvs : List (κ × Vl)) (k : κ) (v : Vl) : List (κ × Vl) :=
  if (kvs.any fun kv => decide (kv.1 = k)) = true then kvs.map (fun kv => if kv.1 = k then (kv.1, v) else kv) else kvs ++ [(k, v)]
theorem RepK.any {K : PySem.W.Frag} {W : Wd} {H : Hp} {κ : Type} [DecidableEq κ] (k : κ) : ∀ {us : List (κ × V)} {xs : List (κ × Vl)}, RepK K W H us xs → (us.any fun kv => decide (kv.1 = k)) = xs.any fun kv => decide (kv.1 = k)
  | _, _, .nil => rfl
  | _, _, .cons h t => by rw [List.any_cons, List.any_cons, RepK.any k t]
theorem RepK.mapPut {K : PySem.W.Frag} {W : Wd} {H : Hp} {κ : Type} [DecidableEq κ] (k : κ) {v : V} {x : Vl} (r : Rep K W H v x) : ∀ {us : List (κ × V)} {xs : List (κ × Vl)}, RepK K W H us xs →
    RepK K W H (us.map fun kv => if kv.1 = k then (kv.1, v) else kv) (xs.map fun kv => if kv.1 = k then (kv.1, x) else kv)
  | _, _, .nil => .nil
  | _, _, .cons (k := k') h t => by
    rw [List.map_cons, List.map_cons]
    by_cases e : k' = k
    · simp only [e, if_pos]; exact .cons r (RepK.mapPut k r t)
    · simp only [e, if_neg, not_false_eq_true]; exact .cons h (RepK.mapPut k r t)
theorem RepK.snoc {K : PySem.W.Frag} {W : Wd} {H : Hp} {κ : Type} (k : κ) {v : V} {x : Vl} (r : Rep K W H v x) : ∀ {us : List (κ × V)} {xs : List (κ × Vl)}, RepK K W H us xs → RepK K W H (us ++ [(k, v)]) (xs ++ [(k, x)])
  | _, _, .nil => .cons r .nil
  | _, _, .cons h t => .cons h (RepK.snoc k r t)
theorem RepK.put {K : PySem.W.Frag} {W : Wd} {H : Hp} {κ : Type} [DecidableEq κ] (k : κ) {v : V} {x : Vl} (r : Rep K W H v x) {us : List (κ × V)} {xs : List (κ × Vl)} (t : RepK K W H us xs) : RepK K W H (putK us k v) (putC xs k x) := by
  unfold putK putC
  rw [t.any k]
  split
  · exact t.mapPut k r
  · exact t.snoc k r
def setV (o i v : Vl) (S : Sto) : Option Sto := match o with
  | .r l => match S[l]? with
    | some (.lst xs) => match i with
      | .d (.int j) => (ixN xs.length j).map fun n => S.set l (.lst (xs.set n v))
      | _ => none
    | some (.dk kvs) => match i with
      | .d k => match unKey k with
        | some k => if kvs.length < 1000000 then some (S.set l (.dk (putC kvs k v))) else none
        | none => none
      | _ => none
    | some (.dt kvs) => match i with
      | .d (.tuple ds) => match unKeys ds with
        | some k => if kvs.length < 1000000 then some (S.set l (.dt (putC kvs k v))) else none
        | none => none
      | _ => none
    | _ => none
  | _ => none
theorem set_dict (hu : X.A.units + 1 < cLine) : PSet X (fun o i v H Q => ∃ a H', o = .ref a ∧ DPut H a i v H' ∧ Q H') := by
  intro pins s σ H o i v ov iv u Q I ro ri rv h
  obtain ⟨a, H', rfl, g, q⟩ := h
  obtain rfl : ov = Value.ref a := ro
  exact d_setItem hu I g ri rv fun s4 I4 => ⟨H', I4, q⟩
theorem PSet.or {t t' : TSet} (h : PSet X t) (h' : PSet X t') : PSet X (fun o i v H Q => t o i v H Q ∨ t' o i v H Q) := by
  intro pins s σ H o i v ov iv u Q I ro ri rv q
  exact q.elim (h pins s σ H o i v ov iv u Q I ro ri rv) (h' pins s σ H o i v ov iv u Q I ro ri rv)
def sPut (mo mi m : ME) : MS := fun ρ S => (m ρ S).toS ρ fun v S1 => (mo ρ S1).toS ρ fun o S2 => (mi ρ S2).toS ρ fun i S3 => match setV o i v S3 with
  | some S4 => .nx ρ S4
  | none => .bad
theorem setV_ok {K : PySem.W.Frag} {mg : Str → Option Value} {W : Wd} {H : Hp} {S S' : Sto} (h : HR K mg W S H) {o i v : Vl} {ov iv vv : V} (ro : Rep K W H ov o) (ri : Rep K W H iv i) (rv : Rep K W H vv v) (e : setV o i v S = some S') :
    (∃ p xs k j, ov = .ref p ∧ iv = .int k ∧ H p = some (.lst xs) ∧ ixN xs.length k = some j ∧ HR K mg W S' (upd H p (.lst (xs.set j vv))) ∧ Ext W H W (upd H p (.lst (xs.set j vv)))) ∨
    ∃ a H', ov = .ref a ∧ DPut H a iv vv H' ∧ HR K mg W S' H' ∧ Ext W H W H' := by
  cases ro with
  | r h1 =>
    rename_i a l
    simp only [setV] at e
    cases q : S[l]? with
    | none => rw [q] at e; cases e
    | some c =>
      rw [q] at e
      have hc := h.cell l c a q h1
      have nl := h.live l c a q h1
      cases c with
      | lst xs =>
        obtain ⟨vs, c1, c2⟩ := hc
        simp only at e
        split at e
        · cases ri with | d ri =>
          cases ri
          rename_i j
          simp only [Option.map_eq_some_iff] at e
          obtain ⟨n, e1, rfl⟩ := e
          have ex : Ext W H W (upd H a (.lst (vs.set n vv))) := ⟨fun _ _ e => e, fun _ e => e, fun b e => upd_ne fun z => nl (by simp) (z ▸ e), fun b e => ⟨e, upd_ne fun z => (h.res b e).2.2 (z ▸ List.mem_of_getElem? h1)⟩⟩
          obtain ⟨h2, e2⟩ := h.set (o := .lst (vs.set n vv)) (c' := .lst (xs.set n v)) q h1 (by simp) ⟨_, upd_same, (RepA.ext ex _ _ c2).set (Rep.ext ex _ _ rv) n⟩ (by simp)
          exact .inl ⟨a, vs, j, n, rfl, rfl, c1, by rw [c2.length]; exact e1, h2, e2⟩
        · cases e
      | dk kvs =>
        obtain ⟨us, c1, c2⟩ := hc
        simp only at e
        split at e
        · cases ri with | d ri =>
          split at e
          · rename_i k hk
            split at e
            · rename_i hz
              cases e
              have := unKey_ok ri hk
              subst this
              have ex : Ext W H W (upd H a (.dK (putK us k vv))) := ⟨fun _ _ e => e, fun _ e => e, fun b e => upd_ne fun z => nl (by simp) (z ▸ e), fun b e => ⟨e, upd_ne fun z => (h.res b e).2.2 (z ▸ List.mem_of_getElem? h1)⟩⟩
              obtain ⟨h2, e2⟩ := h.set (o := .dK (putK us k vv)) (c' := .dk (putC kvs k v)) q h1 (by simp) ⟨_, upd_same, (c2.ext ex).put k (Rep.ext ex _ _ rv)⟩ (by simp)
              exact .inr ⟨a, _, rfl, .k c1 (by rw [c2.length, sizeLine_eq]; omega), h2, e2⟩
            · cases e
          · cases e
        · cases e
      | dt kvs =>
        obtain ⟨us, c1, c2⟩ := hc
        simp only at e
        split at e
        · cases ri with | d ri =>
          cases ri with | tup g1 g2 =>
          split at e
          · rename_i k hk
            split at e
            · rename_i hz
              cases e
              obtain ⟨this, hp⟩ := unKeys_ok g2 hk
              subst this
              have ex : Ext W H W (upd H a (.dT (putK us k vv))) := ⟨fun _ _ e => e, fun _ e => e, fun b e => upd_ne fun z => nl (by simp) (z ▸ e), fun b e => ⟨e, upd_ne fun z => (h.res b e).2.2 (z ▸ List.mem_of_getElem? h1)⟩⟩
              obtain ⟨h2, e2⟩ := h.set (o := .dT (putK us k vv)) (c' := .dt (putC kvs k v)) q h1 (by simp) ⟨_, upd_same, (c2.ext ex).put k (Rep.ext ex _ _ rv)⟩ (by simp)
              exact .inr ⟨a, _, rfl, .t c1 (g1.plain hp) (by rw [c2.length, sizeLine_eq]; omega), h2, e2⟩
            · cases e
          · cases e
        · cases e
      | _ => cases e
  | _ => cases e
theorem ss_put {o i : Expr} {mo mi : ME} {pos' : Pos} (hu : X.A.units + 1 < cLine) (he : SE X EX e m) (ho : SE X EX o mo) (hi : SE X EX i mi)
    (ha : ∀ v, assign (.Subscript o i pos') X.env v = (do
      let ov ← holding [v] (eval o X.env)
      let iv ← holding [v, ov] (eval i X.env)
      standAt pos'
      holding [v, ov, iv] (setItem ov iv v)
      release [v, ov, iv] []) := by intro _; rfl)
    (hs : swapsWithSole [.Subscript o i pos'] e pos.line X.env = pure false := by rfl) (hw : swappedStores [.Subscript o i pos'] e X.env = pure none := by rfl)
    (h1 : (assignEach [.Subscript o i pos'] X.env).map (·.2) = [assign (.Subscript o i pos') X.env] := by rfl) : SS X EX (.Assign [.Subscript o i pos'] e pos) (sPut mo mi m) := by
  refine (ps_asg he (pg_sub ho hi (PSet.or set_list (set_dict hu)) ha) hs hw h1).wk fun D σ H h => ?_
  obtain ⟨W, S, ρ, h, e, p⟩ := h
  refine T.stepS h e p fun x S1 W1 H1 v e1 h1 er1 r1 p1 => ?_
  refine T.stepS h1 er1 p1 fun y S2 W2 H2 u e2 h2 er2 r2 p2 => ?_
  refine T.stepS h2 er2 p2 fun z S3 W3 H3 w e3 h3 er3 r3 p3 => ?_
  have rx := Rep.ext e3 _ _ (Rep.ext e2 _ _ r1)
  have ry := Rep.ext e3 _ _ r2
  cases q : setV y z x S3 with
  | none => simp only [q] at p3; exact p3.elim
  | some S4 =>
    simp only [q] at p3
    rcases setV_ok h3 ry r3 rx q with ⟨p, xs, k, j, rfl, rfl, g1, g2, g3, g4⟩ | ⟨a, H', rfl, g1, g3, g4⟩
    · exact .inl ⟨p, xs, k, j, rfl, rfl, g1, g2, p3 W3 _ σ g4 g3 (er3.ext g4)⟩
    · exact .inr ⟨a, H', rfl, g1, p3 W3 H' σ g4 g3 (er3.ext g4)⟩

/-! ### a list that nobody changes any more -/
def frzV (x : Vl) (S : Sto) : Option (Vl × Sto) := match x with
  | .r l => match S[l]? with
    | some (.lst xs) => (allD xs).map fun ds => (.d (.list ds), S.set l .dead)
    | _ => none
  | x => some (x, S)
theorem frzV_ok {K : PySem.W.Frag} {mg : Str → Option Value} {W : Wd} {H : Hp} {S S' : Sto} (h : HR K mg W S H) {x x' : Vl} {v : V} (r : Rep K W H v x) (e : frzV x S = some (x', S')) : ∃ W', Ext W H W' H ∧ HR K mg W' S' H ∧ Rep K W' H v x' := by
  cases r with
  | r h1 =>
    rename_i a l
    simp only [frzV] at e
    split at e
    · rename_i xs q
      simp only [Option.map_eq_some_iff] at e
      obtain ⟨ds, e1, e2⟩ := e
      cases e2
      have := allD_some e1
      subst this
      obtain ⟨vs, c1, c2⟩ := h.cell l _ a q h1
      obtain ⟨h2, ex⟩ := h.kill q h1
      exact ⟨_, ex, h2, .d (.lst ⟨.inr rfl, c1⟩ (FdA.st ex.fz ex.st _ _ (RepA.toD c2)))⟩
    · cases e
  | d r => cases e; exact ⟨W, Ext.refl, h, .d r⟩
  | t g1 g2 => cases e; exact ⟨W, Ext.refl, h, .t g1 g2⟩
  | k g1 g2 => cases e; exact ⟨W, Ext.refl, h, .k g1 g2⟩
  | q g1 g2 => cases e; exact ⟨W, Ext.refl, h, .q g1 g2⟩
def mFrz (m : ME) : ME := fun ρ S => (m ρ S).bind fun x S1 => match frzV x S1 with
  | some (y, S2) => .ok y S2
  | none => .bad
theorem se_frz (he : SE X EX e m) : SE X EX e (mFrz m) := by
  refine PE.wk he fun σ H Q h => ?_
  obtain ⟨W, S, ρ, h, e, p⟩ := h
  refine T.step h e p fun x S1 W1 H1 v e1 h1 er1 r1 p1 => ?_
  cases q : frzV x S1 with
  | none => rw [q] at p1; exact p1.elim
  | some o =>
    obtain ⟨y, S2⟩ := o
    rw [q] at p1
    obtain ⟨W2, e2, h2, r2⟩ := frzV_ok h1 r1 q
    exact p1 W2 H1 v e2 h2 r2
/-- from here on the list that a name holds stays as it is -/
def sFrz (i : Nat) (b : MS) : MS := fun ρ S => match ρ[i]? with
  | some (some x) => match frzV x S with
    | some (y, S2) => b (ρ.set i (some y)) S2
    | none => .bad
  | _ => .bad
theorem sss_frz (i : Nat) {sts : List Stmt} {b : MS} (hb : SSs X EX sts b) : SSs X EX sts (sFrz i b) := by
  refine PSs.wk hb fun D σ H h => ?_
  obtain ⟨W, S, ρ, h, e, p⟩ := h
  unfold sFrz at p
  split at p
  · rename_i x q
    split at p
    · rename_i y S2 q2
      obtain ⟨v, g1, g2⟩ := e.at_ i x q
      obtain ⟨W2, e2, h2, r2⟩ := frzV_ok h g2 q2
      have er := (e.ext e2).set r2 i
      have : σ.set i (some v) = σ := by
        apply List.ext_getElem?
        intro j
        by_cases hj : i = j
        · subst hj
          rw [List.getElem?_set_self (List.getElem?_eq_some_iff.mp g1).1, g1]
        · rw [List.getElem?_set_ne hj]
      rw [this] at er
      exact ⟨W2, S2, _, h2, er, PSt.ext e2 p⟩
    · exact p.elim
  · exact p.elim
end
end EV

/-! EvEnum: enumerate over a tuple, by one argument. -/
namespace EV
open PySem PySem.Spec PyProof.Rows L2
set_option maxHeartbeats 1000000 in
theorem meets_enum1 {v : Value} {o : Obj} {G : Heap → Prop} (B : Begins v o G) :
    Meets (Builtin.«enumerate.__new__» ⟨[.type "enumerate", v], []⟩) (fun _ R s => G s.heap ∧
      R (.ok (.ret (.ref (s.heap.push o).objs.size))) { s with heap := (s.heap.push o).push { cls := .type "enumerate", data := .fields #[.none, .bool false, .ref s.heap.objs.size, rawInt 0, .none, .none] } }) :=
  .of_wp fun prog w A R s h => by
    obtain ⟨hp, g, d, tk, os⟩ := s
    obtain ⟨h1, h⟩ := h
    have hsub := sub_enumerate
    have q1 : ∀ {A' : Around} {E : Value → Shared → Prop} {Q : Value → Shared → Prop}, Q (.ref hp.objs.size) ⟨hp.push o, g, d, tk, os⟩ → wpAny (model prog w) A' (pyIter v) Q E ⟨hp, g, d, tk, os⟩ :=
      fun q => B.iter prog w _ _ ⟨hp, g, d, tk, os⟩ _ h1 q
    wp_walk using q1
    refine wpAny_stack_any fun st => wpAny_pure ?_
    split
    · rename_i c _ _ _ _ _
      cases (c == Value.type "enumerate") <;> (wp_walk using q1; exact ⟨_, rfl, h⟩)
    · wp_walk using q1
      exact ⟨_, rfl, h⟩
theorem call_enum1 {prog : Program} {w : World} {A : Around} {E : Value → Shared → Prop} {s : Shared} {v : Value} {o : Obj} {G : Heap → Prop} {Q : Value → Shared → Prop} (B : Begins v o G) (h1 : G s.heap)
    (h : ∀ h', IsEnum h' (s.heap.objs.size + 1) s.heap.objs.size 0 .none → h'.get? s.heap.objs.size = some o →
      (∀ b o, s.heap.get? b = some o → h'.get? b = some o) → Q (.ref (s.heap.objs.size + 1)) { s with heap := h' }) :
    wpAny (model prog w) A (call (.type "enumerate") [v]) Q E s := by
  refine callType_new F.called_enumerate (by decide) (F.typeCall_enumerate_1 _) (F.newCall_enumerate_1 _) (fun obj => F.args_object_init_2 obj _) F.entry_enumerate_new (meets_enum1 B) ⟨h1, ?_⟩
  have hz : (s.heap.push o).objs.size = s.heap.objs.size + 1 := Heap.size_push ..
  show _ ∧ _
  rw [hz]
  have he : IsEnum ((s.heap.push o).push { cls := .type "enumerate", data := .fields #[.none, .bool false, .ref s.heap.objs.size, rawInt 0, .none, .none] }) (s.heap.objs.size + 1) s.heap.objs.size 0 .none := by
    have q := Heap.get?_push_size (s.heap.push o) (o := { cls := .type "enumerate", data := .fields #[.none, .bool false, .ref s.heap.objs.size, rawInt 0, .none, .none] }) rfl
    rw [hz] at q
    exact q
  exact ⟨⟨_, he, rfl⟩, h _ he (Heap.get?_push_of_some _ (Heap.get?_push_size _ B.free)) fun b o x => Heap.get?_push_of_some _ (Heap.get?_push_of_some _ x)⟩
/-- the tuple at a, each item in a new pair with its number -/
def IteT (K : PySem.W.Frag) (a : Addr) : It :=
  ⟨fun i H => ∃ (xs : List V) (x : V), SqT K H a xs ∧ xs[i]? = some x, fun i H v H' => ∃ T x, v = .ref T ∧ H T = none ∧ H' = upd H T (.tup [.int (i : Nat), x]) ∧ ∀ xs, SqT K H a xs → xs[i]? = some x, fun i H => ∃ xs : List V, SqT K H a xs ∧ xs.length = i⟩
theorem turn_enumT {P : Program} {w : World} {K : PySem.W.Frag} {elts : List Expr} {kk : Nat} {tpos : Pos} (a e it : Addr) :
    Turn P w K (.Tuple elts kk tpos) (IteT K a) [e, it] e (fun i h => (∃ old, IsEnum h e it ((i : Nat) : Int) old) ∧ h.IsTupleIter it a i ∧ e ≠ it) where
  mem := List.mem_cons_self
  obj := fun i h st b hb => by
    obtain ⟨⟨old, he⟩, ⟨o, ho, hc, hd⟩, _⟩ := st
    rcases (show b = e ∨ b = it by simpa using hb) with rfl | rfl
    · exact ⟨_, he, fun v q => nomatch q⟩
    · exact ⟨o, ho, fun v q => by rw [hd] at q; cases q⟩
  keep := fun i h h' st k => let ⟨⟨old, he⟩, hi, hne⟩ := st; ⟨⟨old, k e (by simp) _ he⟩, hi.at fun o q => k it (by simp) o q, hne⟩
  item := by
    rintro X rfl rfl rfl hc i pins s σ H E I hf ⟨⟨old, he⟩, hit, hne⟩ ⟨xs, x, hq, hx⟩
    obtain ⟨its, rv, p, hz⟩ := I.tuple hq
    obtain ⟨u, hu, ru⟩ := rv.get hx
    have hat : a ≠ it := fun q => by
      obtain ⟨o, ho, ht⟩ := hit
      obtain ⟨o2, ho2, hc2, _⟩ := p
      rw [q, ho] at ho2
      cases ho2
      rw [ht.1] at hc2
      exact absurd hc2 (by decide)
    have hae : e ≠ a := fun q => by
      obtain ⟨o2, ho2, hc2, _⟩ := p
      rw [← q] at ho2
      have he' : s.heap.get? e = some _ := he
      rw [he'] at ho2
      cases ho2
      exact absurd (show Value.type "enumerate" = Value.type "tuple" from hc2) (by decide)
    have W := WalksT.enumerateD (Draws.tuple (prog := X.prog) (w := X.w) (A := X.A.in1) (I.ok.hd hc) it a hat its.toArray) e hne (by simp [hne, hae]) (by simp)
    have hi : i < its.toArray.size := by
      have := (List.getElem?_eq_some_iff.mp hu).1
      simpa using this
    refine W.item i s _ _ hi ⟨⟨old, he⟩, hit, p⟩ fun T vals h' tk hP hT hTup hMid hk => ?_
    refine ⟨_, rfl, W.go elts kk tpos i T { s with heap := h', toks := tk } _ _ hMid fun h'' st' hk' => ?_⟩
    obtain ⟨t, y, hy, rfl⟩ := hP
    have ey : y = u := by
      have hu' : its.toArray[i]? = some u := by simpa using hu
      rw [hu'] at hy
      exact (Option.some.inj hy).symm
    subst ey
    have nT := W.apart i T _ hMid
    have hTup' : h''.IsTuple T #[.int i t, y] := hTup.at fun o q => hk' T o nT q
    have new : ObjOk X.prog X.w (upd H T (.tup [.int (i : Nat), x])) h'' T (.tup [.int (i : Nat), x]) :=
      ⟨(by decide : 2 ≤ sizeLine), [.int i t, y], .cons ⟨_, rfl⟩ (.cons ru .nil), hTup'⟩
    have I1 : Inv X pins σ (upd H T (.tup [.int (i : Nat), x])) { s with heap := h'', toks := tk } :=
      I.turnedNew (ch := [e, it]) (fun b ob hb q => hk' b ob hb (hk b ob hb q)) hf hT new
    refine ⟨.ref T, _, I1, rfl, ⟨T, x, rfl, I.hok.fresh hT, rfl, fun ys hy => by rw [I.tuple_inj hy hq]; exact hx⟩, ⟨st'.1, st'.2.1, hne⟩, fun b hb => ?_⟩
    have hb' : b < s.heap.objs.size := by
      rcases (show b = e ∨ b = it by simpa using hb) with rfl | rfl
      · exact Heap.lt_size he
      · obtain ⟨_, q, _⟩ := hit; exact Heap.lt_size q
    rw [upd_ne (Nat.ne_of_lt (Nat.lt_of_lt_of_le hb' hT))]
    exact (hf b hb).1
  done := by
    rintro X rfl rfl rfl hc i pins s σ H E I hf ⟨⟨old, he⟩, hit, hne⟩ ⟨xs, hq, hx⟩
    obtain ⟨its, rv, p, hz⟩ := I.tuple hq
    have hat : a ≠ it := fun q => by
      obtain ⟨o, ho, ht⟩ := hit
      obtain ⟨o2, ho2, hc2, _⟩ := p
      rw [q, ho] at ho2
      cases ho2
      rw [ht.1] at hc2
      exact absurd hc2 (by decide)
    have hae : e ≠ a := fun q => by
      obtain ⟨o2, ho2, hc2, _⟩ := p
      rw [← q] at ho2
      have he' : s.heap.get? e = some _ := he
      rw [he'] at ho2
      cases ho2
      exact absurd (show Value.type "enumerate" = Value.type "tuple" from hc2) (by decide)
    have W := WalksT.enumerateD (Draws.tuple (prog := X.prog) (w := X.w) (A := X.A.in1) (I.ok.hd hc) it a hat its.toArray) e hne (by simp [hne, hae]) (by simp)
    have hi : its.toArray.size = i := by rw [List.size_toArray, ← rv.length]; exact hx
    subst hi
    refine W.done s _ _ ⟨⟨old, he⟩, hit, p⟩ fun h' tk hk => ⟨rfl, ?_⟩
    exact I.turnedL (t' := tk) (ch := [e, it]) hk hf
  self := fun A i s Q E st h => let ⟨⟨_, he⟩, _⟩ := st; wpAny_pyIter_enum he h
def iEnumT (K : PySem.W.Frag) (ta : TA) : TI := fun σ H R => ta σ H fun vs H1 => ∃ a xs, vs = [.ref a] ∧ ((SqL K H1 a xs ∧ R (Ite K a) H1) ∨ (SqT K H1 a xs ∧ R (IteT K a) H1))
theorem pi_enumA {X : Cx} {e : Expr} {ta : TA} {p pos tpos : Pos} {elts : List Expr} {kk : Nat} (hg : Gl X "enumerate") (hm : X.mg "enumerate" = none) (ha : PA X [e] ta) (hs : starEach [e] X.env = [(false, eval e X.env)] := by rfl) :
    PI X (.Tuple elts kk tpos) (.Call (.Name "enumerate" p) [e] [] pos) (iEnumT X.K ta) := by
  refine ⟨fun pins s σ H R I h => ?_⟩
  refine Call_ (ld_blt I hg hm boot_enumerate (PyProof.Rows.callWith_type1 (thn (ha.run pos pins s σ H _ I h) fun us s1 ⟨vs, H1, I1, r1, a, xs, ex, q1⟩ => ?_) hs rfl))
  subst ex
  cases r1 with | cons r rr =>
  cases rr
  cases r
  have fp2 : ∀ b ∈ [s1.heap.objs.size + 1, s1.heap.objs.size], FpOk X pins H1 b := fun b hb => by
    have hle : s1.heap.objs.size ≤ b := by
      rcases (show b = s1.heap.objs.size + 1 ∨ b = s1.heap.objs.size by simpa using hb) with z | z
      · rw [z]; exact Nat.le_succ _
      · rw [z]; exact Nat.le_refl _
    exact I1.fpOk hle (I1.hok.fresh hle)
  rcases q1 with ⟨hq, q⟩ | ⟨hq, q⟩
  · obtain ⟨its, rv, p', hz⟩ := I1.list hq
    refine call_enumerate_list p'.isList fun h' he hit hsz hk => wpAny_pyIter_enum he ?_
    exact ⟨s1.heap.objs.size + 1, _, _, _, H1, rfl, I1.kept (t' := s1.toks) hk, turn_enum a _ s1.heap.objs.size, ⟨⟨.none, he⟩, hit, Nat.succ_ne_self _⟩, fp2, q⟩
  · obtain ⟨its, rv, p', hz⟩ := I1.tuple hq
    refine call_enum1 (begins_tuple a its.toArray) p' fun h' he ho hk => wpAny_pyIter_enum he ?_
    exact ⟨s1.heap.objs.size + 1, _, _, _, H1, rfl, I1.kept (t' := s1.toks) hk, turn_enumT a _ s1.heap.objs.size, ⟨⟨.none, he⟩, ⟨_, ho, rfl, rfl⟩, Nat.succ_ne_self _⟩, fp2, q⟩
end EV

/-! EvIter: what is walked, for, while, list comprehensions. -/
namespace EV
open PySem PySem.Spec PyProof.Rows L2
inductive RI where
  | ok (items : List Vl) (pins : List (Nat × Cell)) (S : Sto)
  | exc (e : Exn) (S : Sto)
  | bad
abbrev MI := Nv → Sto → RI
def RE.toI (r : RE) (f : Vl → Sto → RI) : RI := match r with
  | .ok x S => f x S
  | .exc e S => .exc e S
  | .bad => .bad
@[simp] theorem RE.toI_ok (x : Vl) (S : Sto) (f : Vl → Sto → RI) : (RE.ok x S).toI f = f x S := rfl
@[simp] theorem RE.toI_exc (x : Exn) (S : Sto) (f : Vl → Sto → RI) : (RE.exc x S).toI f = .exc x S := rfl
@[simp] theorem RE.toI_bad (f : Vl → Sto → RI) : RE.bad.toI f = .bad := rfl
def RA.toI (r : RA) (f : List Vl → Sto → RI) : RI := match r with
  | .ok x S => f x S
  | .exc e S => .exc e S
  | .bad => .bad
@[simp] theorem RA.toI_ok (x : List Vl) (S : Sto) (f : List Vl → Sto → RI) : (RA.ok x S).toI f = f x S := rfl
@[simp] theorem RA.toI_exc (x : Exn) (S : Sto) (f : List Vl → Sto → RI) : (RA.exc x S).toI f = .exc x S := rfl
@[simp] theorem RA.toI_bad (f : List Vl → Sto → RI) : RA.bad.toI f = .bad := rfl
/-- these cells are as they were -/
def pinsOk (pins : List (Nat × Cell)) (S : Sto) : Prop := ∀ p ∈ pins, S[p.1]? = some p.2
@[simp] theorem pinsOk_nil (S : Sto) : pinsOk [] S = True := by simp [pinsOk]
structure Ylds (K : PySem.W.Frag) (mg : Str → Option Value) (J : It) (W0 : Wd) (H0 : Hp) (pins : List (Nat × Cell)) (items : List Vl) : Prop where
  go : ∀ W S H i, Ext W0 H0 W H → HR K mg W S H → pinsOk pins S → i < items.length → J.go i H
  stop : ∀ W S H, Ext W0 H0 W H → HR K mg W S H → pinsOk pins S → J.stop items.length H
  yld : ∀ W S H i x v H', Ext W0 H0 W H → HR K mg W S H → pinsOk pins S → items[i]? = some x → J.yld i H v H' → ∃ W', Ext W H W' H' ∧ HR K mg W' S H' ∧ Rep K W' H' v x
def PIt (K : PySem.W.Frag) (mg : Str → Option Value) (EX : WX) (W : Wd) (H : Hp) (σ : L2.St) (R : It → Hp → Prop) : RI → Prop
  | .ok items pins S' => ∀ W' H' J, Ext W H W' H' → HR K mg W' S' H' → pinsOk pins S' → Ylds K mg J W' H' pins items → R J H'
  | .exc e S' => ∀ W' H' C d, Ext W H W' H' → HR K mg W' S' H' → ERp K mg W' H' e C d → EX C d σ H'
  | .bad => False
def TIt (K : PySem.W.Frag) (mg : Str → Option Value) (EX : WX) (m : MI) : TI := fun σ H R => ∃ W S ρ, HR K mg W S H ∧ ER K W H ρ σ ∧ PIt K mg EX W H σ R (m ρ S)
abbrev SI (X : Cx) (EX : WX) (tg e : Expr) (m : MI) : Prop := PI X tg e (TIt X.K X.mg EX m)
theorem _root_.L2.PI.wk {X : Cx} {tg e : Expr} {t t' : TI} (h : PI X tg e t) (w : ∀ σ H R, t' σ H R → t σ H R) : PI X tg e t' := ⟨fun p s σ H R I q => h.run p s σ H R I (w σ H R q)⟩
section
variable {K : PySem.W.Frag} {mg : Str → Option Value} {EX : WX} {W W1 : Wd} {H H1 : Hp} {S : Sto} {ρ : Nv} {σ : L2.St} {R : It → Hp → Prop} {ma : ME}
theorem PIt.ext {r : RI} (e : Ext W H W1 H1) (h : PIt K mg EX W H σ R r) : PIt K mg EX W1 H1 σ R r := by
  cases r with
  | ok x p S => exact fun W' H' J e' => h W' H' J (e.trans e')
  | exc x S => exact fun W' H' C d e' => h W' H' C d (e.trans e')
  | bad => exact h
theorem T.stepI {f : Vl → Sto → RI} {Q1 : VK} (h : HR K mg W S H) (e : ER K W H ρ σ) (p : PIt K mg EX W H σ R ((ma ρ S).toI f))
    (k : ∀ x S1 W1 H1 v, Ext W H W1 H1 → HR K mg W1 S1 H1 → ER K W1 H1 ρ σ → Rep K W1 H1 v x → PIt K mg EX W1 H1 σ R (f x S1) → Q1 v H1) : T K mg EX ma σ H Q1 := by
  refine ⟨W, S, ρ, h, e, ?_⟩
  cases q : ma ρ S with
  | ok x S1 => rw [q] at p; exact fun W1 H1 v e1 h1 r => k x S1 W1 H1 v e1 h1 (e.ext e1) r (PIt.ext e1 p)
  | exc x S1 => rw [q] at p; exact p
  | bad => rw [q] at p; exact p
theorem TAr.stepI {mA : MA} {f : List Vl → Sto → RI} {Q1 : List V → Hp → Prop} (h : HR K mg W S H) (e : ER K W H ρ σ) (p : PIt K mg EX W H σ R ((mA ρ S).toI f))
    (k : ∀ x S1 W1 H1 v, Ext W H W1 H1 → HR K mg W1 S1 H1 → ER K W1 H1 ρ σ → RepA K W1 H1 v x → PIt K mg EX W1 H1 σ R (f x S1) → Q1 v H1) : TAr K mg EX mA σ H Q1 := by
  refine ⟨W, S, ρ, h, e, ?_⟩
  cases q : mA ρ S with
  | ok x S1 => rw [q] at p; exact fun W1 H1 v e1 h1 r => k x S1 W1 H1 v e1 h1 (e.ext e1) r (PIt.ext e1 p)
  | exc x S1 => rw [q] at p; exact p
  | bad => rw [q] at p; exact p
end
/-- the items, and the cell in which they are -/
def pinV (x : Vl) (S : Sto) : List (Nat × Cell) := match x with
  | .r l => match S[l]? with
    | some c => [(l, c)]
    | none => []
  | _ => []
theorem pinV_ok (x : Vl) (S : Sto) : pinsOk (pinV x S) S := by
  unfold pinV
  split
  · split
    · intro p hp
      simp at hp
      subst hp
      assumption
    · simp
  · simp
theorem seqV_pin {x : Vl} {S S' : Sto} (h : pinsOk (pinV x S) S') {o : Bool × List Vl} (e : seqV x S = some o) : seqV x S' = some o := by
  unfold pinV at h
  cases x with
  | r l =>
    simp only [seqV] at e ⊢
    cases q : S[l]? with
    | none => rw [q] at e; cases e
    | some c =>
      simp only [q] at h e
      have : S'[l]? = some c := h (l, c) (by simp)
      rw [this]
      exact e
  | d x => cases x <;> exact e
  | t xs => exact e
  | k xs => exact e
  | q xs => exact e
section
variable {K : PySem.W.Frag} {mg : Str → Option Value} {W : Wd} {H : Hp} {S : Sto} {x : Vl} {v : V} {xs : List Vl}
theorem seq_at {b : Bool} (r : Rep K W H v x) (e : seqV x S = some (b, xs)) (h : HR K mg W S H) : ∃ a, v = .ref a ∧ (∀ W' S' H', Ext W H W' H' → HR K mg W' S' H' → pinsOk (pinV x S) S' → ∃ vs, RepA K W' H' vs xs ∧ (b = true → SqL K H' a vs) ∧ (b = false → SqT K H' a vs)) := by
  obtain ⟨a, vs, rfl, _⟩ := seqV_ok h r e
  refine ⟨a, rfl, fun W' S' H' e' h' p => ?_⟩
  obtain ⟨a', vs', e2, g1, g2, g3⟩ := seqV_ok h' (Rep.ext e' _ _ r) (seqV_pin p e)
  cases e2
  exact ⟨vs', g1, g2, g3⟩
theorem ylds_list (r : Rep K W H v x) (h : HR K mg W S H) (e : seqV x S = some (true, xs)) : ∃ a, v = .ref a ∧ (∃ vs, SqL K H a vs) ∧ Ylds K mg (Itl K a) W H (pinV x S) xs := by
  obtain ⟨a, rfl, k⟩ := seq_at r e h
  refine ⟨a, rfl, let ⟨vs, _, g, _⟩ := k W S H Ext.refl h (pinV_ok _ _); ⟨vs, g rfl⟩, fun W' S' H' i e' h' p hi => ?_, fun W' S' H' e' h' p => ?_, fun W' S' H' i y u H'' e' h' p hy hq => ?_⟩
  · obtain ⟨vs, g1, g2, _⟩ := k W' S' H' e' h' p
    have : i < vs.length := by rw [g1.length]; exact hi
    exact ⟨vs, vs[i], g2 rfl, by simp [this]⟩
  · obtain ⟨vs, g1, g2, _⟩ := k W' S' H' e' h' p
    exact ⟨vs, g2 rfl, by rw [g1.length]; exact Nat.le_refl _⟩
  · obtain ⟨vs, g1, g2, _⟩ := k W' S' H' e' h' p
    obtain ⟨rfl, q⟩ := hq
    obtain ⟨z, z1, z2⟩ := g1.get (q vs (g2 rfl))
    rw [hy] at z1
    cases z1
    exact ⟨W', Ext.refl, h', z2⟩
theorem ylds_tup (r : Rep K W H v x) (h : HR K mg W S H) (e : seqV x S = some (false, xs)) : ∃ a, v = .ref a ∧ (∃ vs, SqT K H a vs) ∧ Ylds K mg (Itt K a) W H (pinV x S) xs := by
  obtain ⟨a, rfl, k⟩ := seq_at r e h
  refine ⟨a, rfl, let ⟨vs, _, _, g⟩ := k W S H Ext.refl h (pinV_ok _ _); ⟨vs, g rfl⟩, fun W' S' H' i e' h' p hi => ?_, fun W' S' H' e' h' p => ?_, fun W' S' H' i y u H'' e' h' p hy hq => ?_⟩
  · obtain ⟨vs, g1, _, g2⟩ := k W' S' H' e' h' p
    have : i < vs.length := by rw [g1.length]; exact hi
    exact ⟨vs, vs[i], g2 rfl, by simp [this]⟩
  · obtain ⟨vs, g1, _, g2⟩ := k W' S' H' e' h' p
    exact ⟨vs, g2 rfl, by rw [g1.length]; exact Nat.le_refl _⟩
  · obtain ⟨vs, g1, _, g2⟩ := k W' S' H' e' h' p
    obtain ⟨rfl, q⟩ := hq
    obtain ⟨z, z1, z2⟩ := g1.get (q vs (g2 rfl))
    rw [hy] at z1
    cases z1
    exact ⟨W', Ext.refl, h', z2⟩
def enumL (xs : List Vl) : List Vl := xs.zipIdx.map fun p => mkTupU [.d (.int p.2), p.1]
theorem enumL_get {i : Nat} : (enumL xs)[i]? = xs[i]?.map fun x => mkTupU [.d (.int i), x] := by
  unfold enumL
  rw [List.getElem?_map, List.getElem?_zipIdx]
  cases xs[i]? <;> simp
theorem enumL_length : (enumL xs).length = xs.length := by simp [enumL]
theorem yld_pair (h : HR K mg W S H) {T : Addr} {v1 v2 : V} {x1 x2 : Vl} (hT : H T = none) (r1 : Rep K W H v1 x1) (r2 : Rep K W H v2 x2) :
    ∃ W', Ext W H W' (upd H T (.tup [v1, v2])) ∧ HR K mg W' S (upd H T (.tup [v1, v2])) ∧ Rep K W' (upd H T (.tup [v1, v2])) (.ref T) (mkTupU [x1, x2]) :=
  ⟨W.fz T, ext_fz h hT, h.fz hT, newTupU h hT (.cons r1 (.cons r2 .nil))⟩
theorem ylds_enumL (r : Rep K W H v x) (h : HR K mg W S H) (e : seqV x S = some (true, xs)) : ∃ a vs, v = .ref a ∧ SqL K H a vs ∧ Ylds K mg (Ite K a) W H (pinV x S) (enumL xs) := by
  obtain ⟨a, rfl, k⟩ := seq_at r e h
  obtain ⟨vs, _, g, _⟩ := k W S H Ext.refl h (pinV_ok _ _)
  refine ⟨a, vs, rfl, g rfl, fun W' S' H' i e' h' p hi => ?_, fun W' S' H' e' h' p => ?_, fun W' S' H' i y u H'' e' h' p hy hq => ?_⟩
  · obtain ⟨vs, g1, g2, _⟩ := k W' S' H' e' h' p
    rw [enumL_length] at hi
    have : i < vs.length := by rw [g1.length]; exact hi
    exact ⟨vs, vs[i], g2 rfl, by simp [this]⟩
  · obtain ⟨vs, g1, g2, _⟩ := k W' S' H' e' h' p
    exact ⟨vs, g2 rfl, by rw [g1.length, enumL_length]; exact Nat.le_refl _⟩
  · obtain ⟨vs, g1, g2, _⟩ := k W' S' H' e' h' p
    obtain ⟨T, w, rfl, hT, rfl, q⟩ := hq
    obtain ⟨z, z1, z2⟩ := g1.get (q vs (g2 rfl))
    rw [enumL_get, z1] at hy
    cases hy
    exact yld_pair h' hT (.d (.int _)) z2
theorem ylds_enumT (r : Rep K W H v x) (h : HR K mg W S H) (e : seqV x S = some (false, xs)) : ∃ a vs, v = .ref a ∧ SqT K H a vs ∧ Ylds K mg (IteT K a) W H (pinV x S) (enumL xs) := by
  obtain ⟨a, rfl, k⟩ := seq_at r e h
  obtain ⟨vs, _, _, g⟩ := k W S H Ext.refl h (pinV_ok _ _)
  refine ⟨a, vs, rfl, g rfl, fun W' S' H' i e' h' p hi => ?_, fun W' S' H' e' h' p => ?_, fun W' S' H' i y u H'' e' h' p hy hq => ?_⟩
  · obtain ⟨vs, g1, _, g2⟩ := k W' S' H' e' h' p
    rw [enumL_length] at hi
    have : i < vs.length := by rw [g1.length]; exact hi
    exact ⟨vs, vs[i], g2 rfl, by simp [this]⟩
  · obtain ⟨vs, g1, _, g2⟩ := k W' S' H' e' h' p
    exact ⟨vs, g2 rfl, by rw [g1.length, enumL_length]⟩
  · obtain ⟨vs, g1, _, g2⟩ := k W' S' H' e' h' p
    obtain ⟨T, w, rfl, hT, rfl, q⟩ := hq
    obtain ⟨z, z1, z2⟩ := g1.get (q vs (g2 rfl))
    rw [enumL_get, z1] at hy
    cases hy
    exact yld_pair h' hT (.d (.int _)) z2
def zipL (xs ys : List Vl) : List Vl := (xs.zip ys).map fun p => mkTupU [p.1, p.2]
theorem pins_app {p q : List (Nat × Cell)} (h : pinsOk (p ++ q) S) : pinsOk p S ∧ pinsOk q S := ⟨fun z hz => h z (List.mem_append_left _ hz), fun z hz => h z (List.mem_append_right _ hz)⟩
variable {y : Vl} {u : V} {ys : List Vl}
theorem zipL_get {i : Nat} {z : Vl} (h : (zipL xs ys)[i]? = some z) : ∃ a b, xs[i]? = some a ∧ ys[i]? = some b ∧ z = mkTupU [a, b] := by
  unfold zipL at h
  rw [List.getElem?_map] at h
  simp only [Option.map_eq_some_iff] at h
  obtain ⟨⟨a, b⟩, h1, rfl⟩ := h
  rw [List.getElem?_zip_eq_some] at h1
  exact ⟨a, b, h1.1, h1.2, rfl⟩
theorem zipL_length : (zipL xs ys).length = min xs.length ys.length := by simp [zipL]
theorem ylds_zipL (r : Rep K W H v x) (r' : Rep K W H u y) (h : HR K mg W S H) (e : seqV x S = some (true, xs)) (e' : seqV y S = some (true, ys)) :
    ∃ a b vs us, v = .ref a ∧ u = .ref b ∧ SqL K H a vs ∧ SqL K H b us ∧ Ylds K mg (Itz K a b) W H (pinV x S ++ pinV y S) (zipL xs ys) := by
  obtain ⟨a, rfl, k⟩ := seq_at r e h
  obtain ⟨b, rfl, k'⟩ := seq_at r' e' h
  obtain ⟨vs, _, g, _⟩ := k W S H Ext.refl h (pinV_ok _ _)
  obtain ⟨us, _, g', _⟩ := k' W S H Ext.refl h (pinV_ok _ _)
  refine ⟨a, b, vs, us, rfl, rfl, g rfl, g' rfl, fun W' S' H' i e' h' p hi => ?_, fun W' S' H' e' h' p => ?_, fun W' S' H' i y u H'' e' h' p hy hq => ?_⟩
  · obtain ⟨vs, g1, g2, _⟩ := k W' S' H' e' h' (pins_app p).1
    obtain ⟨us, g3, g4, _⟩ := k' W' S' H' e' h' (pins_app p).2
    rw [zipL_length] at hi
    have h1 : i < vs.length := by rw [g1.length]; omega
    have h2 : i < us.length := by rw [g3.length]; omega
    exact ⟨vs, us, vs[i], us[i], g2 rfl, g4 rfl, by simp [h1], by simp [h2]⟩
  · obtain ⟨vs, g1, g2, _⟩ := k W' S' H' e' h' (pins_app p).1
    obtain ⟨us, g3, g4, _⟩ := k' W' S' H' e' h' (pins_app p).2
    exact ⟨vs, us, g2 rfl, g4 rfl, by rw [g1.length, g3.length, zipL_length]; omega⟩
  · obtain ⟨vs, g1, g2, _⟩ := k W' S' H' e' h' (pins_app p).1
    obtain ⟨us, g3, g4, _⟩ := k' W' S' H' e' h' (pins_app p).2
    obtain ⟨T, w1, w2, rfl, hT, rfl, q, q'⟩ := hq
    obtain ⟨c, d, c1, d1, rfl⟩ := zipL_get hy
    obtain ⟨z, z1, z2⟩ := g1.get (q vs (g2 rfl))
    obtain ⟨z', z1', z2'⟩ := g3.get (q' us (g4 rfl))
    rw [c1] at z1
    rw [d1] at z1'
    cases z1
    cases z1'
    exact yld_pair h' hT z2 z2'
theorem ylds_zipT (r : Rep K W H v x) (r' : Rep K W H u y) (h : HR K mg W S H) (e : seqV x S = some (false, xs)) (e' : seqV y S = some (false, ys)) :
    ∃ a b vs us, v = .ref a ∧ u = .ref b ∧ SqT K H a vs ∧ SqT K H b us ∧ Ylds K mg (RZ.ItzT K a b) W H (pinV x S ++ pinV y S) (zipL xs ys) := by
  obtain ⟨a, rfl, k⟩ := seq_at r e h
  obtain ⟨b, rfl, k'⟩ := seq_at r' e' h
  obtain ⟨vs, _, _, g⟩ := k W S H Ext.refl h (pinV_ok _ _)
  obtain ⟨us, _, _, g'⟩ := k' W S H Ext.refl h (pinV_ok _ _)
  refine ⟨a, b, vs, us, rfl, rfl, g rfl, g' rfl, fun W' S' H' i e' h' p hi => ?_, fun W' S' H' e' h' p => ?_, fun W' S' H' i y u H'' e' h' p hy hq => ?_⟩
  · obtain ⟨vs, g1, _, g2⟩ := k W' S' H' e' h' (pins_app p).1
    obtain ⟨us, g3, _, g4⟩ := k' W' S' H' e' h' (pins_app p).2
    rw [zipL_length] at hi
    have h1 : i < vs.length := by rw [g1.length]; omega
    have h2 : i < us.length := by rw [g3.length]; omega
    exact ⟨vs, us, vs[i], us[i], g2 rfl, g4 rfl, by simp [h1], by simp [h2]⟩
  · obtain ⟨vs, g1, _, g2⟩ := k W' S' H' e' h' (pins_app p).1
    obtain ⟨us, g3, _, g4⟩ := k' W' S' H' e' h' (pins_app p).2
    exact ⟨vs, us, g2 rfl, g4 rfl, by rw [g1.length, g3.length, zipL_length]; omega⟩
  · obtain ⟨vs, g1, _, g2⟩ := k W' S' H' e' h' (pins_app p).1
    obtain ⟨us, g3, _, g4⟩ := k' W' S' H' e' h' (pins_app p).2
    obtain ⟨T, w1, w2, rfl, hT, rfl, q, q'⟩ := hq
    obtain ⟨c, d, c1, d1, rfl⟩ := zipL_get hy
    obtain ⟨z, z1, z2⟩ := g1.get (q vs (g2 rfl))
    obtain ⟨z', z1', z2'⟩ := g3.get (q' us (g4 rfl))
    rw [c1] at z1
    rw [d1] at z1'
    cases z1
    cases z1'
    exact yld_pair h' hT z2 z2'
end
def strL (z : Str) : List Vl := z.cps.toList.map fun c => .d (.str ⟨#[c]⟩)
def rngL (lo : Int) (n : Nat) : List Vl := (List.range n).map fun i => .d (.int (lo + (i : Nat)))
/-- a list, a tuple, a text -/
def iSeq (m : ME) : MI := fun ρ S => (m ρ S).toI fun x S1 => match x with
  | .d (.str z) => .ok (strL z) [] S1
  | x => match seqV x S1 with
    | some (_, xs) => .ok xs (pinV x S1) S1
    | none => .bad
def iEnumM (m : MA) : MI := fun ρ S => (m ρ S).toI fun as S1 => match as with
  | [x] => match seqV x S1 with
    | some (_, xs) => .ok (enumL xs) (pinV x S1) S1
    | none => .bad
  | _ => .bad
def iZipM (m : MA) : MI := fun ρ S => (m ρ S).toI fun as S1 => match as with
  | [x, y] => match seqV x S1, seqV y S1 with
    | some (b, xs), some (c, ys) => if b = c then .ok (zipL xs ys) (pinV x S1 ++ pinV y S1) S1 else .bad
    | _, _ => .bad
  | _ => .bad
open Classical in
/-- (the kernel is not to reckon with the bound) -/
noncomputable def iRng1 (m : MA) : MI := fun ρ S => (m ρ S).toI fun as S1 => match as with
  | [.d (.int j)] => if -4611686018427387904 ≤ j ∧ j < 4611686018427387904 then .ok (rngL 0 j.toNat) [] S1 else .bad
  | _ => .bad
open Classical in
noncomputable def iRng2 (m : MA) : MI := fun ρ S => (m ρ S).toI fun as S1 => match as with
  | [.d (.int i), .d (.int j)] => if -4611686018427387904 ≤ i ∧ i < 4611686018427387904 ∧ -4611686018427387904 ≤ j ∧ j < 4611686018427387904 then .ok (rngL i (j - i).toNat) [] S1 else .bad
  | _ => .bad
section
variable {X : Cx} {EX : WX} {tg e : Expr} {m : ME} {as : MA} {p pos : Pos}
theorem ylds_rng {K : PySem.W.Frag} {mg : Str → Option Value} {W : Wd} {H : Hp} (lo : Int) (n : Nat) : Ylds K mg (Itr lo n) W H [] (rngL lo n) := by
  refine ⟨fun W S H i _ _ _ hi => (show i < n by simpa [rngL] using hi), fun W S H _ _ _ => (show n ≤ (rngL lo n).length by simp [rngL]), fun W S H i x v H' _ h _ hx hq => ?_⟩
  obtain ⟨rfl, rfl⟩ := hq
  unfold rngL at hx
  rw [List.getElem?_map] at hx
  simp only [Option.map_eq_some_iff] at hx
  obtain ⟨j, h1, rfl⟩ := hx
  obtain ⟨h2, h3⟩ := List.getElem?_eq_some_iff.mp h1
  simp at h3
  subst h3
  exact ⟨W, Ext.refl, h, .d (.int _)⟩
theorem ylds_str {K : PySem.W.Frag} {mg : Str → Option Value} {W : Wd} {H : Hp} (z : Str) : Ylds K mg (Its z) W H [] (strL z) := by
  refine ⟨fun W S H i _ _ _ hi => (by simpa [strL] using hi : i < z.cps.size), fun W S H _ _ _ => (by simp [strL] : z.cps.size ≤ (strL z).length), fun W S H i x v H' _ h _ hx hq => ?_⟩
  obtain ⟨rfl, c, h1, rfl⟩ := hq
  unfold strL at hx
  rw [List.getElem?_map] at hx
  simp only [Option.map_eq_some_iff] at hx
  obtain ⟨c', h2, rfl⟩ := hx
  rw [Array.getElem?_toList] at h2
  rw [h1] at h2
  cases h2
  exact ⟨W, Ext.refl, h, .d (.str _)⟩
theorem si_seq (he : SE X EX e m) : SI X EX tg e (iSeq m) := by
  refine ⟨fun pins s σ H R I h => ?_⟩
  obtain ⟨W, S, ρ, h, er, p⟩ := h
  refine thn (he.run pins s σ H (fun v H1 => (∃ a, v = .ref a ∧ (∃ vs, SqL X.K H1 a vs) ∧ R (Itl X.K a) H1) ∨ (∃ a, v = .ref a ∧ (∃ vs, SqT X.K H1 a vs) ∧ R (Itt X.K a) H1) ∨ ∃ z, v = .str z ∧ R (Its z) H1) I (T.stepI h er p fun x S1 W1 H1 v e1 h1 er1 r1 p1 => ?_)) fun u s1 ⟨v, H1, I1, r1, q1⟩ => ?_
  · have sq : (match seqV x S1 with
      | some (_, xs) => RI.ok xs (pinV x S1) S1
      | none => .bad) = (match seqV x S1 with
      | some (_, xs) => RI.ok xs (pinV x S1) S1
      | none => .bad) := rfl
    have fin : PIt X.K X.mg EX W1 H1 σ R (match seqV x S1 with
      | some (_, xs) => .ok xs (pinV x S1) S1
      | none => .bad) → (∃ a, v = .ref a ∧ (∃ vs, SqL X.K H1 a vs) ∧ R (Itl X.K a) H1) ∨ (∃ a, v = .ref a ∧ (∃ vs, SqT X.K H1 a vs) ∧ R (Itt X.K a) H1) ∨ ∃ z, v = .str z ∧ R (Its z) H1 := fun p1 => by
      split at p1
      · rename_i b xs e
        cases b with
        | true =>
          obtain ⟨a, rfl, g, y⟩ := ylds_list r1 h1 e
          exact .inl ⟨a, rfl, g, p1 W1 H1 _ Ext.refl h1 (pinV_ok _ _) y⟩
        | false =>
          obtain ⟨a, rfl, g, y⟩ := ylds_tup r1 h1 e
          exact .inr (.inl ⟨a, rfl, g, p1 W1 H1 _ Ext.refl h1 (pinV_ok _ _) y⟩)
      · exact p1.elim
    split at p1
    · cases r1 with | d r1 =>
      cases r1
      exact .inr (.inr ⟨_, rfl, p1 W1 H1 _ Ext.refl h1 (by simp) (ylds_str _)⟩)
    · exact fin p1
  · rcases q1 with ⟨a, rfl, ⟨vs, g⟩, q⟩ | ⟨a, rfl, ⟨vs, g⟩, q⟩ | ⟨z, rfl, q⟩
    · cases r1
      obtain ⟨its, rv, pl, hz⟩ := I1.list g
      exact wpAny_pyIter_list pl.isList (pi_one (tk := s1.toks) I1 _ (turn_list a _) ⟨_, Heap.get?_push_size _ rfl, rfl, rfl⟩ q)
    · cases r1
      obtain ⟨its, rv, pl, hz⟩ := I1.tuple g
      exact wpAny_pyIter_tuple (show s1.heap.IsTuple a its.toArray from pl) (pi_one (tk := s1.toks) I1 _ (turn_tuple a _) ⟨_, Heap.get?_push_size _ rfl, rfl, rfl⟩ q)
    · obtain ⟨t, rfl⟩ := r1
      cases ha : z.cps.all (· < 128)
      · exact wpAny_pyIter_wide ha (pi_one (tk := s1.toks) I1 _ (turn_str _ z t "str_iterator" (.inr rfl)) ⟨_, Heap.get?_push_size _ rfl, rfl, rfl⟩ q)
      · exact wpAny_pyIter_ascii ha (pi_one (tk := s1.toks) I1 _ (turn_str _ z t "str_ascii_iterator" (.inl rfl)) ⟨_, Heap.get?_push_size _ rfl, rfl, rfl⟩ q)
theorem si_enum {elts : List Expr} {kk : Nat} {tpos : Pos} (hg : Gl X "enumerate") (hm : X.mg "enumerate" = none) (ha : SA X EX [e] as) (hs : starEach [e] X.env = [(false, eval e X.env)] := by rfl) :
    SI X EX (.Tuple elts kk tpos) (.Call (.Name "enumerate" p) [e] [] pos) (iEnumM as) := by
  refine (pi_enumA hg hm ha hs).wk fun σ H R h => ?_
  obtain ⟨W, S, ρ, h, er, p⟩ := h
  refine TAr.stepI h er p fun xs S1 W1 H1 vs e1 h1 er1 r1 p1 => ?_
  split at p1
  · rename_i x
    split at p1
    · rename_i b ys q
      cases r1 with | cons r1 r2 =>
      cases r2
      cases b with
      | true =>
        obtain ⟨a, us, rfl, g, y⟩ := ylds_enumL r1 h1 q
        exact ⟨a, us, rfl, .inl ⟨g, p1 W1 H1 _ Ext.refl h1 (pinV_ok _ _) y⟩⟩
      | false =>
        obtain ⟨a, us, rfl, g, y⟩ := ylds_enumT r1 h1 q
        exact ⟨a, us, rfl, .inr ⟨g, p1 W1 H1 _ Ext.refl h1 (pinV_ok _ _) y⟩⟩
    · exact p1.elim
  · exact p1.elim
theorem si_zip {e2 : Expr} {elts : List Expr} {kk : Nat} {tpos : Pos} (hg : Gl X "zip") (hm : X.mg "zip" = none) (ha : SA X EX [e, e2] as)
    (hs : starEach [e, e2] X.env = (false, eval e X.env) :: starEach [e2] X.env := by rfl) (hpl : (backTo pos (starEach [e2] X.env)).any (·.1) = false := by rfl) :
    SI X EX (.Tuple elts kk tpos) (.Call (.Name "zip" p) [e, e2] [] pos) (iZipM as) := by
  refine (RZ.pi_zipA hg hm ha hs hpl).wk fun σ H R h => ?_
  obtain ⟨W, S, ρ, h, er, p⟩ := h
  refine TAr.stepI h er p fun xs S1 W1 H1 vs e1 h1 er1 r1 p1 => ?_
  split at p1
  · rename_i x y
    split at p1
    · rename_i b xs c ys q q'
      split at p1
      · rename_i hb
        subst hb
        cases r1 with | cons r1 r2 =>
        cases r2 with | cons r2 r3 =>
        cases r3
        have pk : pinsOk (pinV x S1 ++ pinV y S1) S1 := fun z hz => (List.mem_append.mp hz).elim (pinV_ok x S1 z) (pinV_ok y S1 z)
        cases b with
        | true =>
          obtain ⟨a, b, vs, us, rfl, rfl, g1, g2, yy⟩ := ylds_zipL r1 r2 h1 q q'
          exact ⟨a, b, vs, us, rfl, .inl ⟨g1, g2, p1 W1 H1 _ Ext.refl h1 pk yy⟩⟩
        | false =>
          obtain ⟨a, b, vs, us, rfl, rfl, g1, g2, yy⟩ := ylds_zipT r1 r2 h1 q q'
          exact ⟨a, b, vs, us, rfl, .inr ⟨g1, g2, p1 W1 H1 _ Ext.refl h1 pk yy⟩⟩
      · exact p1.elim
    · exact p1.elim
  · exact p1.elim
theorem p62 : (2 : Int) ^ 62 = 4611686018427387904 := by decide
theorem si_rng1 (hg : Gl X "range") (hm : X.mg "range" = none) (ha : SA X EX [e] as) (hs : starEach [e] X.env = [(false, eval e X.env)] := by rfl) : SI X EX tg (.Call (.Name "range" p) [e] [] pos) (EV.iRng1 as) := by
  refine (pi_range1 hg hm ha hs).wk fun σ H R h => ?_
  obtain ⟨W, S, ρ, h, er, p⟩ := h
  refine TAr.stepI h er p fun xs S1 W1 H1 vs e1 h1 er1 r1 p1 => ?_
  split at p1
  · cases r1 with | cons r1 r2 =>
    cases r2
    cases r1 with | d r1 =>
    cases r1
    split at p1
    · rename_i hz
      exact ⟨_, rfl, by rw [p62]; exact hz.1, by rw [p62]; exact hz.2, p1 W1 H1 _ Ext.refl h1 (by simp) (ylds_rng _ _)⟩
    · exact p1.elim
  · exact p1.elim
theorem si_rng2 {e2 : Expr} (hg : Gl X "range") (hm : X.mg "range" = none) (ha : SA X EX [e, e2] as) (hs : starEach [e, e2] X.env = [(false, eval e X.env), (false, eval e2 X.env)] := by rfl) (hs2 : starEach [e2] X.env = [(false, eval e2 X.env)] := by rfl) :
    SI X EX tg (.Call (.Name "range" p) [e, e2] [] pos) (EV.iRng2 as) := by
  refine (pi_range2 hg hm ha hs hs2).wk fun σ H R h => ?_
  obtain ⟨W, S, ρ, h, er, p⟩ := h
  refine TAr.stepI h er p fun xs S1 W1 H1 vs e1 h1 er1 r1 p1 => ?_
  split at p1
  · cases r1 with | cons r1 r2 =>
    cases r2 with | cons r2 r3 =>
    cases r3
    cases r1 with | d r1 =>
    cases r2 with | d r2 =>
    cases r1; cases r2
    split at p1
    · rename_i hz
      exact ⟨_, _, rfl, by rw [p62]; exact hz, p1 W1 H1 _ Ext.refl h1 (by simp) (ylds_rng _ _)⟩
    · exact p1.elim
  · exact p1.elim
end

/-! ### for -/
open Classical in
noncomputable def forL (g : MG) (body : MS) (pins : List (Nat × Cell)) : List Vl → MS
  | [], ρ, S => if pinsOk pins S then .nx ρ S else .bad
  | x :: xs, ρ, S => if pinsOk pins S then (match g x ρ S with
    | none => .bad
    | some ρ1 => match body ρ1 S with
      | .nx ρ2 S2 => forL g body pins xs ρ2 S2
      | .ct ρ2 S2 => forL g body pins xs ρ2 S2
      | .bk ρ2 S2 => .nx ρ2 S2
      | r => r) else .bad
def RI.toS (r : RI) (ρ : Nv) (f : List Vl → List (Nat × Cell) → Sto → RS) : RS := match r with
  | .ok xs p S => f xs p S
  | .exc e S => .exc e ρ S
  | .bad => .bad
@[simp] theorem RI.toS_ok (xs : List Vl) (p : List (Nat × Cell)) (S : Sto) (ρ : Nv) (f : List Vl → List (Nat × Cell) → Sto → RS) : (RI.ok xs p S).toS ρ f = f xs p S := rfl
@[simp] theorem RI.toS_exc (e : Exn) (S : Sto) (ρ : Nv) (f : List Vl → List (Nat × Cell) → Sto → RS) : (RI.exc e S).toS ρ f = .exc e ρ S := rfl
@[simp] theorem RI.toS_bad (ρ : Nv) (f : List Vl → List (Nat × Cell) → Sto → RS) : RI.bad.toS ρ f = .bad := rfl
noncomputable def sFor (g : MG) (mi : MI) (body : MS) : MS := fun ρ S => (mi ρ S).toS ρ fun xs p S1 => forL g body p xs ρ S1
theorem ss_for {X : Cx} {EX : WX} {tg iter : Expr} {body : List Stmt} {pos : Pos} {g : MG} {sl : List Nat} {mi : MI} {mb : MS} (hp : PassesOwn (model X.prog X.w) X.A X.env X.xe) (hc : X.calm = true) (hi : SI X EX tg iter mi) (hg : SG X tg g sl) (hb : SSs X EX body mb)
    (hs : ∀ x, foldedSetIterable iter X.env x = pure x := by intro _; rfl) : SS X EX (.For tg iter body [] pos) (sFor g mi mb) := by
  obtain ⟨t, g1, g2⟩ := hg
  refine (ps_for hp hc hi g1 hb hs).wk fun D σ H h => ?_
  obtain ⟨W, S, ρ, h, er, p⟩ := h
  refine ⟨W, S, ρ, h, er, ?_⟩
  unfold sFor at p
  cases q : mi ρ S with
  | bad => rw [q] at p; exact p
  | exc x S1 => rw [q] at p; exact fun W1 H1 C d e1 h1 q1 => p W1 H1 σ C d e1 h1 (er.ext e1) q1
  | ok xs pins S1 =>
    rw [q] at p
    simp only [RI.toS_ok] at p
    intro W1 H1 J e1 h1 pk y
    refine ⟨fun i m σ' H' => m + i = xs.length ∧ ∃ W' S' ρ', Ext W1 H1 W' H' ∧ HR X.K X.mg W' S' H' ∧ ER X.K W' H' ρ' σ' ∧ PSt X.K X.mg EX W' H' D (forL g mb pins (xs.drop i) ρ' S'), ⟨xs.length, rfl, W1, S1, ρ, Ext.refl, h1, er.ext e1, PSt.ext e1 p⟩, ?_⟩
    rintro i m σ' H' ⟨hm, W', S', ρ', e', h', er', p'⟩
    cases hd : xs.drop i with
    | nil =>
      rw [hd] at p'
      unfold forL at p'
      split at p'
      · rename_i pk'
        have hi : xs.length = i := by
          have := congrArg List.length hd
          rw [List.length_drop, List.length_nil] at this
          omega
        refine .inl ⟨?_, p' W' H' σ' Ext.refl h' er'⟩
        rw [← hi]
        exact y.stop W' S' H' e' h' pk'
      · exact p'.elim
    | cons x r =>
      rw [hd] at p'
      unfold forL at p'
      have hlt : i < xs.length := by
        have := congrArg List.length hd
        rw [List.length_drop, List.length_cons] at this
        omega
      have hx : xs[i]? = some x := by
        have := List.getElem?_drop (xs := xs) (i := i) (j := 0)
        rw [hd] at this
        simpa using this.symm
      have hr : xs.drop (i + 1) = r := by
        have := List.drop_drop (i := 1) (j := i) (l := xs)
        rw [hd] at this
        simpa [Nat.add_comm] using this.symm
      split at p'
      · rename_i pk'
        refine .inr ⟨y.go W' S' H' i e' h' pk' hlt, fun σ2 H2 => ∃ W2 S2 ρ2, Ext W1 H1 W2 H2 ∧ HR X.K X.mg W2 S2 H2 ∧ ER X.K W2 H2 ρ2 σ2 ∧ PSt X.K X.mg EX W2 H2 D (forL g mb pins r ρ2 S2), fun σ2 H2 ⟨W2, S2, ρ2, a1, a2, a3, a4⟩ => ⟨m - 1, by omega, by omega, W2, S2, ρ2, a1, a2, a3, by rw [hr]; exact a4⟩, fun v H2 hy => ?_⟩
        obtain ⟨W2, e2, h2, r2⟩ := y.yld W' S' H' i x v H2 e' h' pk' hx hy
        cases q1 : g x ρ' S' with
        | none => rw [q1] at p'; exact p'.elim
        | some ρ1 =>
          simp only [q1] at p'
          refine g2 W2 S' H2 ρ' σ' v x ρ1 _ h2 (er'.ext e2) r2 q1 fun σ3 er3 _ => ?_
          refine ⟨W2, S', ρ1, h2, er3, ?_⟩
          have e02 := e'.trans e2
          have p2 := fun (r : RS) (hr : PSt X.K X.mg EX W' H' D r) => PSt.ext e2 hr
          cases q2 : mb ρ1 S' with
          | nx ρ2 S2 => simp only [q2] at p'; exact fun W3 H3 σ4 e3 h3 er4 => ⟨W3, S2, ρ2, e02.trans e3, h3, er4, PSt.ext e3 (p2 _ p')⟩
          | ct ρ2 S2 => simp only [q2] at p'; exact fun W3 H3 σ4 e3 h3 er4 => ⟨W3, S2, ρ2, e02.trans e3, h3, er4, PSt.ext e3 (p2 _ p')⟩
          | bk ρ2 S2 => simp only [q2] at p'; exact p2 _ p'
          | ret x S2 => simp only [q2] at p'; exact p2 _ p'
          | exc x ρ2 S2 => simp only [q2] at p'; exact p2 _ p'
          | bad => simp only [q2] at p'; exact p'.elim
      · exact p'.elim
end EV

/-! EvComp: list comprehensions, while, what is forgotten of the store. -/
namespace EV
open PySem PySem.Spec PyProof.Rows L2
abbrev E0x : WX := fun _ _ _ _ => False
def wipeN (ρ : Nv) : List Nat → Nv
  | [] => ρ
  | v :: vs => (wipeN ρ vs).set v none
theorem wipeN_length (ρ : Nv) : ∀ vs : List Nat, (wipeN ρ vs).length = ρ.length
  | [] => rfl
  | v :: vs => by unfold wipeN; rw [List.length_set, wipeN_length ρ vs]
theorem ER.wipe {K : PySem.W.Frag} {W : Wd} {H : Hp} {ρ : Nv} {σ : L2.St} (h : ER K W H ρ σ) : ∀ vs : List Nat, ER K W H (wipeN ρ vs) (L2.wipe σ vs)
  | [] => h
  | v :: vs => by
    have ih := ER.wipe h vs
    unfold wipeN L2.wipe
    refine ⟨by rw [List.length_set, List.length_set]; exact ih.len, fun i x q => ?_⟩
    by_cases hv : v = i
    · subst hv
      by_cases hl : v < (wipeN ρ vs).length
      · rw [List.getElem?_set_self hl] at q; cases q
      · rw [List.getElem?_eq_none (by simpa using hl)] at q; cases q
    · rw [List.getElem?_set_ne hv] at q ⊢
      exact ih.at_ i x q
/-- nothing that is raised gets out -/
def RE.nox (r : RE) (f : Vl → Sto → RA) : RA := match r with
  | .ok x S => f x S
  | _ => .bad
@[simp] theorem RE.nox_ok (x : Vl) (S : Sto) (f : Vl → Sto → RA) : (RE.ok x S).nox f = f x S := rfl
@[simp] theorem RE.nox_exc (x : Exn) (S : Sto) (f : Vl → Sto → RA) : (RE.exc x S).nox f = .bad := rfl
@[simp] theorem RE.nox_bad (f : Vl → Sto → RA) : RE.bad.nox f = .bad := rfl
open Classical in
noncomputable def lcL (g : MG) (t e : ME) (pins : List (Nat × Cell)) (vs : List Nat) (ρ : Nv) : List Vl → List Vl → Sto → RA
  | [], acc, S => if pinsOk pins S then .ok acc S else .bad
  | x :: xs, acc, S => if pinsOk pins S then (match g x (wipeN ρ vs) S with
    | none => .bad
    | some ρ1 => (t ρ1 S).nox fun b S1 => onB b .bad fun b => if b then (e ρ1 S1).nox fun y S2 => lcL g t e pins vs ρ xs (acc ++ [y]) S2 else lcL g t e pins vs ρ xs acc S1) else .bad
def RI.bind (r : RI) (f : List Vl → List (Nat × Cell) → Sto → RE) : RE := match r with
  | .ok xs p S => f xs p S
  | .exc e S => .exc e S
  | .bad => .bad
@[simp] theorem RI.bind_ok (xs : List Vl) (p : List (Nat × Cell)) (S : Sto) (f : List Vl → List (Nat × Cell) → Sto → RE) : (RI.ok xs p S).bind f = f xs p S := rfl
@[simp] theorem RI.bind_exc (e : Exn) (S : Sto) (f : List Vl → List (Nat × Cell) → Sto → RE) : (RI.exc e S).bind f = .exc e S := rfl
@[simp] theorem RI.bind_bad (f : List Vl → List (Nat × Cell) → Sto → RE) : RI.bad.bind f = .bad := rfl
/-- a comprehension whose list never changes; one whose list is a cell -/
def RA.nx (r : RA) (f : List Vl → Sto → RE) : RE := match r with
  | .ok xs S => f xs S
  | _ => .bad
@[simp] theorem RA.nx_ok (xs : List Vl) (S : Sto) (f : List Vl → Sto → RE) : (RA.ok xs S).nx f = f xs S := rfl
@[simp] theorem RA.nx_exc (x : Exn) (S : Sto) (f : List Vl → Sto → RE) : (RA.exc x S).nx f = .bad := rfl
@[simp] theorem RA.nx_bad (f : List Vl → Sto → RE) : RA.bad.nx f = .bad := rfl
noncomputable def mLc (g : MG) (mi : MI) (t e : ME) (vs : List Nat) : ME := fun ρ S => (mi ρ S).bind fun xs p S1 => if xs.length ≤ 1000000 then (lcL g t e p vs ρ xs [] S1).nx fun acc S2 => (match allD acc with
  | some ds => .ok (.d (.list ds)) S2
  | none => .bad) else .bad
noncomputable def mLcM (g : MG) (mi : MI) (t e : ME) (vs : List Nat) : ME := fun ρ S => (mi ρ S).bind fun xs p S1 => if xs.length ≤ 1000000 then (lcL g t e p vs ρ xs [] S1).nx fun acc S2 => .ok (.r S2.length) (S2 ++ [.lst acc]) else .bad
def mYes : ME := fun _ S => .ok (.d (.bool true)) S
section
variable {K : PySem.W.Frag} {mg : Str → Option Value} {EX : WX} {W W1 : Wd} {H H1 : Hp} {S S1 : Sto} {D : Addr} {o : HO} {σ : L2.St} {Q : VK}
theorem Ext.put (e : Ext W1 H1 W H) (h1 : HR K mg W1 S1 H1) (h : HR K mg W S H) (hr : W.R D) (hn : H1 D = none) : Ext W1 H1 W (upd H D o) :=
  ⟨e.pre, e.fz, fun a q => by
    have hd : a ≠ D := fun z => (h.res D hr).2.1 (z ▸ e.fz a q)
    rw [upd_ne hd]
    exact e.st a q, fun a q => by
    have hd : a ≠ D := fun z => h1.nR hn (z ▸ q)
    rw [upd_ne hd]
    exact e.rs a q⟩
theorem Ext.give (e : Ext W1 H1 W H) (h1 : HR K mg W1 S1 H1) (hn : H1 D = none) : Ext W1 H1 ((W.free D).fz D) H :=
  ⟨e.pre, fun a q => .inl (e.fz a q), e.st, fun a q => ⟨⟨(e.rs a q).1, fun z => h1.nR hn (z ▸ q)⟩, (e.rs a q).2⟩⟩
theorem Ext.cellOf (e : Ext W1 H1 W H) (h1 : HR K mg W1 S1 H1) (hn : H1 D = none) : Ext W1 H1 ((W.free D).push D) H :=
  ⟨fun l a q => by
    have hl := (List.getElem?_eq_some_iff.mp (e.pre l a q)).1
    show (W.M ++ [D])[l]? = some a
    rw [List.getElem?_append_left hl]
    exact e.pre l a q, e.fz, e.st, fun a q => ⟨⟨(e.rs a q).1, fun z => h1.nR hn (z ▸ q)⟩, (e.rs a q).2⟩⟩
/-- what is kept of a comprehension's list -/
def Fin1 (K : PySem.W.Frag) (mg : Str → Option Value) (W1 : Wd) (H1 : Hp) (D : Addr) (Q : VK) : RA → Prop
  | .ok acc S' => ∀ W' H' us, Ext W1 H1 W' H' → HR K mg W' S' H' → W'.R D → H' D = some (.lst us) → RepA K W' H' us acc → Q (.ref D) H'
  | _ => False
theorem lc_reads {g : MG} {t : TG} {sl vs : List Nat} {mt me : ME} {pins : List (Nat × Cell)} {xs : List Vl} {J : It} {ρ : Nv} (hsl : ∀ i ∈ sl, i ∈ vs)
    (g2 : ∀ W S H ρ σ v x ρ' Q, HR K mg W S H → ER K W H ρ σ → Rep K W H v x → g x ρ S = some ρ' → (∀ σ', ER K W H ρ' σ' → (∀ vs : List Nat, (∀ i ∈ sl, i ∈ vs) → L2.wipe σ' vs = L2.wipe σ vs) → Q σ' H) → t v σ H Q)
    (h1 : HR K mg W1 S1 H1) (er : ER K W1 H1 ρ σ) (y : Ylds K mg J W1 H1 pins xs) (hz : xs.length ≤ 1000000) (hD : H1 D = none) (p : Fin1 K mg W1 H1 D Q (lcL g mt me pins vs ρ xs [] S1)) :
    ∃ Wi : Nat → Nat → Hp → Prop, (∃ m, Wi 0 m (upd H1 D (.lst []))) ∧ ∀ i m H, Wi i m H → (J.stop i H ∧ Q (.ref D) H) ∨ (J.go i H ∧ ∃ Nx : Hp → Prop, (∀ H', Nx H' → ∃ m', m' < m ∧ Wi (i + 1) m' H') ∧ ∀ x H', J.yld i H x H' → t x (L2.wipe σ vs) H' fun σ2 H2 => L2.wipe σ2 vs = L2.wipe σ vs ∧
      TB K mg E0x mt σ2 H2 fun c H3 => if c = true then T K mg E0x me σ2 H3 fun y H4 => ∃ acc, H4 D = some (.lst acc) ∧ acc.length < sizeLine ∧ Nx (upd H4 D (.lst (acc ++ [y]))) else Nx H3) := by
  obtain ⟨hr0, er0⟩ := h1.rsv (o := .lst []) hD
  -- what holds ahead of turn i, with r left
  let I := fun (i : Nat) (r : List Vl) (H : Hp) => ∃ W' S' acc us, Ext W1 H1 W' H ∧ HR K mg W' S' H ∧ W'.R D ∧ H D = some (.lst us) ∧ RepA K W' H us acc ∧ acc.length ≤ i ∧ Fin1 K mg W1 H1 D Q (lcL g mt me pins vs ρ r acc S')
  refine ⟨fun i m H => m + i = xs.length ∧ I i (xs.drop i) H, ⟨xs.length, rfl, W1.rsv D, S1, [], [], er0, hr0, .inr rfl, upd_same, .nil, Nat.le_refl _, p⟩, ?_⟩
  rintro i m H ⟨hm, W', S', acc, us, e', h', hR, hHD, ra, hl, p'⟩
  cases hd : xs.drop i with
  | nil =>
    rw [hd] at p'
    unfold lcL at p'
    split at p'
    · rename_i pk'
      have hi : xs.length = i := by
        have q := congrArg List.length hd
        rw [List.length_drop, List.length_nil] at q
        omega
      refine .inl ⟨?_, p' W' H us e' h' hR hHD ra⟩
      rw [← hi]
      exact y.stop W' S' H e' h' pk'
    · exact p'.elim
  | cons x r =>
    rw [hd] at p'
    unfold lcL at p'
    have hlt : i < xs.length := by
      have q := congrArg List.length hd
      rw [List.length_drop, List.length_cons] at q
      omega
    have hx : xs[i]? = some x := by
      have q := List.getElem?_drop (xs := xs) (i := i) (j := 0)
      rw [hd] at q
      simpa using q.symm
    have hr : xs.drop (i + 1) = r := by
      have q := List.drop_drop (i := 1) (j := i) (l := xs)
      rw [hd] at q
      simpa [Nat.add_comm] using q.symm
    split at p'
    · rename_i pk'
      refine .inr ⟨y.go W' S' H i e' h' pk' hlt, I (i + 1) r, fun H' q => ⟨m - 1, by omega, by omega, by rw [hr]; exact q⟩, fun v H2 hy => ?_⟩
      obtain ⟨W2, e2, h2, r2⟩ := y.yld W' S' H i x v H2 e' h' pk' hx hy
      cases q1 : g x (wipeN ρ vs) S' with
      | none => rw [q1] at p'; exact p'.elim
      | some ρ1 =>
        simp only [q1] at p'
        have e02 := e'.trans e2
        refine g2 W2 S' H2 _ _ v x ρ1 _ h2 ((er.ext e02).wipe vs) r2 q1 fun σ3 er3 hw => ?_
        have hw' : ∀ (τ : L2.St) (ws : List Nat), L2.wipe (L2.wipe τ ws) ws = L2.wipe τ ws := by
          intro τ ws
          have key : ∀ (τ : L2.St) (ws : List Nat) (i : Nat), (L2.wipe τ ws)[i]? = if i ∈ ws then (if i < τ.length then some none else none) else τ[i]? := by
            intro τ ws
            induction ws with
            | nil => intro i; simp [L2.wipe]
            | cons k ws ih =>
              intro i
              unfold L2.wipe
              by_cases hk : k = i
              · subst hk
                by_cases hlt : k < τ.length
                · rw [List.getElem?_set_self (by rw [L2.wipe_length]; exact hlt)]
                  simp [hlt]
                · rw [List.getElem?_eq_none (by rw [List.length_set, L2.wipe_length]; omega)]
                  simp [hlt]
              · rw [List.getElem?_set_ne hk, ih]
                by_cases hi : i ∈ ws
                · simp [hi]
                · simp [hi, Ne.symm hk]
          apply List.ext_getElem?
          intro i
          rw [key, key, L2.wipe_length]
          split <;> rfl
        refine ⟨(hw vs hsl).trans (hw' σ vs), ?_⟩
        refine ⟨W2, S', ρ1, h2, er3, ?_⟩
        cases q2 : mt ρ1 S' with
        | exc z S2 => rw [q2] at p'; exact p'.elim
        | bad => rw [q2] at p'; exact p'.elim
        | ok b S3 =>
          rw [q2] at p'
          simp only [RE.nox_ok] at p'
          cases b with
          | d b =>
            cases b with
            | bool b =>
              intro W3 H3 e3 h3
              simp only [onB_b] at p'
              have e03 := e02.trans e3
              obtain ⟨R2, HD2⟩ := e2.rs D hR
              obtain ⟨R3, HD3⟩ := e3.rs D R2
              have ra3 := RepA.ext e3 _ _ (RepA.ext e2 _ _ ra)
              cases b with
              | false =>
                rw [if_neg Bool.false_ne_true] at p' ⊢
                exact ⟨W3, S3, acc, us, e03, h3, R3, by rw [HD3, HD2, hHD], ra3, by omega, p'⟩
              | true =>
                rw [if_pos rfl] at p' ⊢
                refine ⟨W3, S3, ρ1, h3, er3.ext e3, ?_⟩
                cases q3 : me ρ1 S3 with
                | exc z S4 => rw [q3] at p'; exact p'.elim
                | bad => rw [q3] at p'; exact p'.elim
                | ok z S4 =>
                  rw [q3] at p'
                  simp only [RE.nox_ok] at p'
                  intro W4 H4 w e4 h4 rw4
                  obtain ⟨R4, HD4⟩ := e4.rs D R3
                  have ra4 := RepA.ext e4 _ _ ra3
                  have e04 := e03.trans e4
                  refine ⟨us, by rw [HD4, HD3, HD2, hHD], ?_, ?_⟩
                  · rw [ra4.length, sizeLine_eq]; omega
                  · obtain ⟨h5, ex5⟩ := h4.rput (o := .lst (us ++ [w])) R4
                    exact ⟨W4, S4, acc ++ [z], us ++ [w], e04.put h1 h4 R4 hD, h5, R4, upd_same, (RepA.ext0 ex5 _ _ ra4).append (.cons (Rep.ext0 ex5 _ _ rw4) .nil), by simp; omega, p'⟩
            | _ => exact p'.elim
          | _ => exact p'.elim
    · exact p'.elim
end
/-- a test within a comprehension -/
structure ST1 (X : Cx) (ifs : List Expr) (m : ME) : Prop where
  pts : PTs X ifs (TB X.K X.mg E0x m)
theorem st_nil {X : Cx} : ST1 X [] mYes := ⟨⟨fun pins s σ H Q I ⟨W, S, ρ, h, e, p⟩ => pts_nil.run pins s σ H Q I (p W H .refl h)⟩⟩
theorem st_one {X : Cx} {c : Expr} {m : ME} (h : SB X E0x c m) : ST1 X [c] m := ⟨pts_one h⟩
/-! ### the rules -/
def tGc (K : PySem.W.Frag) (mg : Str → Option Value) (g : MG) (sl : List Nat) : TG := fun v σ H Q => ∃ W S ρ x ρ', HR K mg W S H ∧ ER K W H ρ σ ∧ Rep K W H v x ∧ g x ρ S = some ρ' ∧ ∀ σ', ER K W H ρ' σ' → (∀ vs : List Nat, (∀ i ∈ sl, i ∈ vs) → L2.wipe σ' vs = L2.wipe σ vs) → Q σ' H
theorem SG.can {X : Cx} {tg : Expr} {g : MG} {sl : List Nat} (h : SG X tg g sl) : PG X tg (tGc X.K X.mg g sl) := by
  obtain ⟨t, p, q⟩ := h
  exact ⟨fun pins s σ H v u Q I r ⟨W, S, ρ, x, ρ', h, e, rr, hg, k⟩ => p.run pins s σ H v u Q I r (q W S H ρ σ v x ρ' Q h e rr hg k)⟩
section
variable {X : Cx} {EX : WX} {elt tg iter : Expr} {ifs : List Expr} {scope : Scope} {own : List (Str × Nat)} {pos spos py : Pos} {g : MG} {sl : List Nat} {mi : MI} {mt me : ME} {y : Str} {i : Nat}
abbrev Cx.bl (X : Cx) (scope : Scope) (s : Shared) (H : Hp) (C : Addr) (cl : List (Str × Addr)) (fp : List Addr) : Cx := X.blk s H scope (compEnvC scope cl C X.env) fp
theorem tLc_of (hsl : ∀ i ∈ sl, i ∈ own.map (·.2)) {σ : L2.St} {H : Hp} {Q : VK} (hp : T X.K X.mg EX (mLc g mi mt me (own.map (·.2))) σ H Q) :
    tLc (TIt X.K X.mg EX mi) (tGc X.K X.mg g sl) (TB X.K X.mg E0x mt) (T X.K X.mg E0x me) (own.map (·.2)) σ H Q := by
  obtain ⟨W, S, ρ, h, er, p⟩ := hp
  refine ⟨W, S, ρ, h, er, ?_⟩
  unfold mLc at p
  cases q : mi ρ S with
  | bad => rw [q] at p; exact p
  | exc x S1 => rw [q] at p; exact p
  | ok xs pins S1 =>
    rw [q] at p
    simp only [RI.bind_ok] at p
    intro W1 H1 J e1 h1 pk y D hD
    split at p
    · rename_i hz
      refine lc_reads (t := tGc X.K X.mg g sl) hsl (fun W S H ρ σ v x ρ' Q a1 a2 a3 a4 a5 => ⟨W, S, ρ, x, ρ', a1, a2, a3, a4, a5⟩) h1 (er.ext e1) y hz hD ?_
      cases q2 : lcL g mt me pins (own.map (·.2)) ρ xs [] S1 with
      | bad => rw [q2] at p; exact p.elim
      | exc x S2 => rw [q2] at p; exact p.elim
      | ok acc S2 =>
        rw [q2] at p
        simp only [RA.nx_ok] at p
        intro W' H' us e' h' hR hHD ra
        cases q3 : allD acc with
        | none => simp only [q3] at p; exact p.elim
        | some ds =>
          simp only [q3] at p
          rw [allD_some q3] at ra
          obtain ⟨g1, g2⟩ := h'.give hR
          have f1 := RepA.toD (RepA.ext0 g2 _ _ ra)
          exact p _ H' (.ref D) (e1.trans (e'.give h1 hD)) g1 (.d (.lst ⟨.inr rfl, hHD⟩ f1))
    · exact p.elim
theorem tLcM_of (hsl : ∀ i ∈ sl, i ∈ own.map (·.2)) {σ : L2.St} {H : Hp} {Q : VK} (hp : T X.K X.mg EX (mLcM g mi mt me (own.map (·.2))) σ H Q) :
    tLc (TIt X.K X.mg EX mi) (tGc X.K X.mg g sl) (TB X.K X.mg E0x mt) (T X.K X.mg E0x me) (own.map (·.2)) σ H Q := by
  obtain ⟨W, S, ρ, h, er, p⟩ := hp
  refine ⟨W, S, ρ, h, er, ?_⟩
  unfold mLcM at p
  cases q : mi ρ S with
  | bad => rw [q] at p; exact p
  | exc x S1 => rw [q] at p; exact p
  | ok xs pins S1 =>
    rw [q] at p
    simp only [RI.bind_ok] at p
    intro W1 H1 J e1 h1 pk y D hD
    split at p
    · rename_i hz
      refine lc_reads (t := tGc X.K X.mg g sl) hsl (fun W S H ρ σ v x ρ' Q a1 a2 a3 a4 a5 => ⟨W, S, ρ, x, ρ', a1, a2, a3, a4, a5⟩) h1 (er.ext e1) y hz hD ?_
      cases q2 : lcL g mt me pins (own.map (·.2)) ρ xs [] S1 with
      | bad => rw [q2] at p; exact p.elim
      | exc x S2 => rw [q2] at p; exact p.elim
      | ok acc S2 =>
        rw [q2] at p
        simp only [RA.nx_ok] at p
        intro W' H' us e' h' hR hHD ra
        have ex : Ex0 W' H' ((W'.free D).push D) H' := ⟨fun l a q => by
          have hl := (List.getElem?_eq_some_iff.mp q).1
          show (W'.M ++ [D])[l]? = some a
          rw [List.getElem?_append_left hl]; exact q, fun _ q => q, fun _ _ => rfl⟩
        obtain ⟨g1, g2⟩ := h'.cellOf (c := .lst acc) hR ⟨us, hHD, RepA.ext0 ex _ _ ra⟩
        refine p _ H' (.ref D) (e1.trans (e'.cellOf h1 hD)) g1 (.r ?_)
        show (W'.M ++ [D])[S2.length]? = some D
        rw [h'.len]
        simp
    · exact p.elim
theorem se_lc (hc : X.calm = true) (hN : X.N.Nodup) (own : List (Str × Nat)) (hi : SI X EX tg iter mi) (ok : blkC X.N X.env.scope scope own = true)
    (hg : ∀ s H C cl fp, SG (Cx.bl X scope s H C cl fp) tg g sl) (ht : ∀ s H C cl fp, ST1 (Cx.bl X scope s H C cl fp) ifs mt) (he : ∀ s H C cl fp, SE (Cx.bl X scope s H C cl fp) E0x elt me)
    (hsl : ∀ i ∈ sl, i ∈ own.map (·.2) := by decide) (hs : ∀ x, foldedSetIterable iter X.env x = pure x := by intro _; rfl) : SE X EX (.ListComp elt [⟨tg, iter, ifs, 0⟩] scope pos) (mLc g mi mt me (own.map (·.2))) :=
  (pe_lc hc hN hi (blkOk_by ok) (fun s H C cl fp => (hg s H C cl fp).can) (fun s H C cl fp => (ht s H C cl fp).pts) he hs).wk fun σ H Q h => tLc_of hsl h
theorem se_lcM (hc : X.calm = true) (hN : X.N.Nodup) (own : List (Str × Nat)) (hi : SI X EX tg iter mi) (ok : blkC X.N X.env.scope scope own = true)
    (hg : ∀ s H C cl fp, SG (Cx.bl X scope s H C cl fp) tg g sl) (ht : ∀ s H C cl fp, ST1 (Cx.bl X scope s H C cl fp) ifs mt) (he : ∀ s H C cl fp, SE (Cx.bl X scope s H C cl fp) E0x elt me)
    (hsl : ∀ i ∈ sl, i ∈ own.map (·.2) := by decide) (hs : ∀ x, foldedSetIterable iter X.env x = pure x := by intro _; rfl) : SE X EX (.ListComp elt [⟨tg, iter, ifs, 0⟩] scope pos) (mLcM g mi mt me (own.map (·.2))) :=
  (pe_lc hc hN hi (blkOk_by ok) (fun s H C cl fp => (hg s H C cl fp).can) (fun s H C cl fp => (ht s H C cl fp).pts) he hs).wk fun σ H Q h => tLcM_of hsl h
theorem tAsg_of {t : TE} {m : ME} (ht : ∀ σ H Q, T X.K X.mg EX m σ H Q → t σ H Q) {D : Ends} {σ : L2.St} {H : Hp} (h : TSt X.K X.mg EX (sSet i m) D σ H) : tAsg t (gName i) D σ H := by
  obtain ⟨W, S, ρ, h, e, p⟩ := h
  refine ht _ _ _ (T.stepS h e p fun x S1 W1 H1 v e1 h1 er1 r1 p1 => ?_)
  exact p1 W1 H1 _ Ext.refl h1 (er1.set r1 i)
/-- name = [..] -/
theorem ss_setLc (i : Nat) (hc : X.calm = true) (hN : X.N.Nodup) (own : List (Str × Nat)) (hi : SI X EX tg iter mi) (ok : blkC X.N X.env.scope scope own = true)
    (hg : ∀ s H C cl fp, SG (Cx.bl X scope s H C cl fp) tg g sl) (ht : ∀ s H C cl fp, ST1 (Cx.bl X scope s H C cl fp) ifs mt) (he : ∀ s H C cl fp, SE (Cx.bl X scope s H C cl fp) E0x elt me)
    (hy : X.N[i]? = some y := by rfl) (hyl : X.env.scope.names.lookup y = some .local := by rfl) (hsw : swapsWith (.ListComp elt [⟨tg, iter, ifs, 0⟩] scope pos) (some (.Name y py)) spos.line X.env = pure true := by exact sw_true rfl rfl rfl rfl)
    (hsl : ∀ i ∈ sl, i ∈ own.map (·.2) := by decide) (hs : ∀ x, foldedSetIterable iter X.env x = pure x := by intro _; rfl) : SS X EX (.Assign [.Name y py] (.ListComp elt [⟨tg, iter, ifs, 0⟩] scope pos) spos) (sSet i (mLc g mi mt me (own.map (·.2)))) :=
  (ps_setLc hc hN hy hyl hsw hi (blkOk_by ok) (fun s H C cl fp => (hg s H C cl fp).can) (fun s H C cl fp => (ht s H C cl fp).pts) he hs).wk fun D σ H h => tAsg_of (fun _ _ _ => tLc_of hsl) h
theorem ss_setLcM (i : Nat) (hc : X.calm = true) (hN : X.N.Nodup) (own : List (Str × Nat)) (hi : SI X EX tg iter mi) (ok : blkC X.N X.env.scope scope own = true)
    (hg : ∀ s H C cl fp, SG (Cx.bl X scope s H C cl fp) tg g sl) (ht : ∀ s H C cl fp, ST1 (Cx.bl X scope s H C cl fp) ifs mt) (he : ∀ s H C cl fp, SE (Cx.bl X scope s H C cl fp) E0x elt me)
    (hy : X.N[i]? = some y := by rfl) (hyl : X.env.scope.names.lookup y = some .local := by rfl) (hsw : swapsWith (.ListComp elt [⟨tg, iter, ifs, 0⟩] scope pos) (some (.Name y py)) spos.line X.env = pure true := by exact sw_true rfl rfl rfl rfl)
    (hsl : ∀ i ∈ sl, i ∈ own.map (·.2) := by decide) (hs : ∀ x, foldedSetIterable iter X.env x = pure x := by intro _; rfl) : SS X EX (.Assign [.Name y py] (.ListComp elt [⟨tg, iter, ifs, 0⟩] scope pos) spos) (sSet i (mLcM g mi mt me (own.map (·.2)))) :=
  (ps_setLc hc hN hy hyl hsw hi (blkOk_by ok) (fun s H C cl fp => (hg s H C cl fp).can) (fun s H C cl fp => (ht s H C cl fp).pts) he hs).wk fun D σ H h => tAsg_of (fun _ _ _ => tLcM_of hsl) h
end
end EV

/-! EvMeth: methods of built-in types. -/
namespace EV
open PySem PySem.Spec PyProof.Rows L2
def MtS (X : Cx) (EX : WX) (id : String) (f : Vl → List Vl → Sto → RE) : Prop :=
  ∃ r, MtR X id r ∧ ∀ W S H σ x v xs vs Q, HR X.K X.mg W S H → Rep X.K W H v x → RepA X.K W H vs xs → PV X.K X.mg EX W H σ Q (f x xs S) → r v vs H Q
/-- of what built-in type a receiver is -/
def rty (x : Vl) (S : Sto) : String := match x with
  | .d (.str _) => "str"
  | .d (.int _) => "int"
  | .d (.list _) => "list"
  | .k _ => "tuple"
  | .q _ => "list"
  | .d (.dict _) => "dict"
  | .r l => match S[l]? with
    | some (.lst _) => "list"
    | some (.dk _) => "dict"
    | some (.dt _) => "dict"
    | _ => ""
  | _ => ""
theorem rty_ok {K : PySem.W.Frag} {mg : Str → Option Value} {W : Wd} {S : Sto} {H : Hp} {v : V} {x : Vl} {T : String} (h : HR K mg W S H) (r : Rep K W H v x) (e : rty x S = T) (hT : T ≠ "") : tyV K T v H := by
  subst e
  unfold rty at hT ⊢
  cases r with
  | d r =>
    cases r with
    | str z => rfl
    | int i => rfl
    | lst h1 h2 => exact .inl ⟨rfl, _, h1.sq⟩
    | dk h0 h1 h2 => exact .inr (.inr (.inl ⟨rfl, .inl ⟨_, h1⟩⟩))
    | _ => exact absurd rfl hT
  | t h1 h2 => exact absurd rfl hT
  | q h1 h2 => exact .inl ⟨rfl, _, h1.sq⟩
  | k h1 h2 =>
    obtain ⟨o, _, _, e1, e2, e3, _⟩ := h1
    exact .inr (.inl ⟨rfl, o, e1, e2, e3⟩)
  | r h1 =>
    rename_i a l
    simp only at hT ⊢
    cases q : S[l]? with
    | none => rw [q] at hT; exact absurd rfl hT
    | some c =>
      rw [q] at hT
      have hc := h.cell l c a q h1
      cases c with
      | lst xs => obtain ⟨vs, c1, c2⟩ := hc; exact .inl ⟨rfl, vs, .of c1⟩
      | dk xs => obtain ⟨vs, c1, c2⟩ := hc; exact .inr (.inr (.inl ⟨rfl, .inl ⟨_, c1⟩⟩))
      | dt xs => obtain ⟨vs, c1, c2⟩ := hc; exact .inr (.inr (.inl ⟨rfl, .inr ⟨_, c1⟩⟩))
      | _ => exact absurd rfl hT
def mMeth (T : String) (f : Vl → List Vl → Sto → RE) (mo : ME) (as : MA) : ME := fun ρ S => (mo ρ S).bind fun x S1 => if rty x S1 = T then (as ρ S1).bind fun xs S2 => f x xs S2 else .bad
section
variable {X : Cx} {EX : WX} {f : Vl → List Vl → Sto → RE} {name : Str} {apos cpos : Pos} {o e : Expr} {es : List Expr} {mo : ME} {as : MA} {id T : String}
theorem se_meth0 (m : MtS X EX id f) (pa : PlainAttrs T) (slot : Slot T name id) (hty : typeOf (.builtin id) = pure (.type "method_descriptor")) (ho : SE X EX o mo) (hT : T ≠ "" := by decide)
    (hbase : attributeBase o name X.env (eval o X.env) = eval o X.env := by rfl) (hline : (apos.endLine == cpos.line) = true := by rfl) : SE X EX (.Call (.Attribute o name apos) [] [] cpos) (mMeth T f mo aNil) := by
  obtain ⟨r, m1, m2⟩ := m
  refine (pe_bm0 pa slot hty m1 ho hbase hline).wk fun σ H Q h => ?_
  obtain ⟨W, S, ρ, h, er, p⟩ := h
  refine EV.T.step h er p fun x S1 W1 H1 v e1 h1 er1 r1 p1 => ?_
  split at p1
  · rename_i hx
    exact ⟨rty_ok h1 r1 hx hT, m2 W1 S1 H1 σ x v [] [] Q h1 r1 .nil p1⟩
  · exact p1.elim
theorem se_meth (m : MtS X EX id f) (pa : PlainAttrs T) (slot : Slot T name id) (hty : typeOf (.builtin id) = pure (.type "method_descriptor")) (ho : SE X EX o mo) (ha : SA X EX (e :: es) as) (hT : T ≠ "" := by decide)
    (hbase : attributeBase o name X.env (eval o X.env) = eval o X.env := by rfl)
    (hfew : ((backTo cpos (starEach (e :: es) X.env)).all (fun x => !x.1) && (backToKw cpos (keywordEach [] X.env)).all (fun x => x.1.isSome)
      && decide ((e :: es).length + ([] : List Keyword).length + (if ([] : List Keyword).isEmpty then 0 else 1) < 30)) = true := by rfl)
    (hline : (apos.endLine == cpos.line) = true := by rfl) (hs : starEach (e :: es) X.env = (false, eval e X.env) :: starEach es X.env := by rfl) (hplain : (backTo cpos (starEach es X.env)).any (·.1) = false := by rfl) :
    SE X EX (.Call (.Attribute o name apos) (e :: es) [] cpos) (mMeth T f mo as) := by
  obtain ⟨r, m1, m2⟩ := m
  refine (pe_bm pa slot hty m1 ho ha hbase hfew hline hs hplain).wk fun σ H Q h => ?_
  obtain ⟨W, S, ρ, h, er, p⟩ := h
  refine EV.T.step h er p fun x S1 W1 H1 v e1 h1 er1 r1 p1 => ?_
  split at p1
  · rename_i hx
    refine ⟨rty_ok h1 r1 hx hT, ?_⟩
    exact TAr.step h1 er1 p1 fun xs S2 W2 H2 vs e2 h2 er2 r2 p2 => m2 W2 S2 H2 σ x v xs vs Q h2 (Rep.ext e2 _ _ r1) r2 p2
  · exact p1.elim

/-! lists that change -/
theorem cell_lst {K : PySem.W.Frag} {mg : Str → Option Value} {W : Wd} {S : Sto} {H : Hp} {v : V} {l : Nat} {xs : List Vl} (h : HR K mg W S H) (r : Rep K W H v (.r l)) (q : S[l]? = some (.lst xs)) :
    ∃ a vs, v = .ref a ∧ W.M[l]? = some a ∧ H a = some (.lst vs) ∧ RepA K W H vs xs ∧ ∀ (ys : List V) (zs : List Vl), RepA K W H ys zs → HR K mg W (S.set l (.lst zs)) (upd H a (.lst ys)) ∧ Ext W H W (upd H a (.lst ys)) := by
  cases r with | r h1 =>
  rename_i a
  obtain ⟨vs, c1, c2⟩ := h.cell l _ a q h1
  refine ⟨a, vs, rfl, h1, c1, c2, fun ys zs r => ?_⟩
  have nl := h.live l _ a q h1 (by simp)
  have ex : Ext W H W (upd H a (.lst ys)) := ⟨fun _ _ e => e, fun _ e => e, fun b e => upd_ne fun z => nl (z ▸ e), fun b e => ⟨e, upd_ne fun z => (h.res b e).2.2 (z ▸ List.mem_of_getElem? h1)⟩⟩
  exact h.set (o := .lst ys) (c' := .lst zs) q h1 (by simp) ⟨_, upd_same, RepA.ext ex _ _ r⟩ (by simp)
def appV (x : Vl) (ys : List Vl) (S : Sto) : RE := match x, ys with
  | .r l, [y] => match S[l]? with
    | some (.lst xs) => if xs.length < 1000000 then .ok (.d .none) (S.set l (.lst (xs ++ [y]))) else .bad
    | _ => .bad
  | _, _ => .bad
theorem mt_appV : MtS X EX "list.append" appV := by
  refine ⟨rAppend, mt_append, fun W S H σ x v ys vs Q h r ra p => ?_⟩
  unfold appV at p
  split at p
  · rename_i l y
    split at p
    · rename_i xs q
      split at p
      · rename_i hz
        obtain ⟨a, us, rfl, h1, c1, c2, k⟩ := cell_lst h r q
        cases ra with | cons r1 r2 =>
        cases r2
        rename_i u
        obtain ⟨h2, e2⟩ := k (us ++ [u]) (xs ++ [y]) (c2.append (.cons r1 .nil))
        refine ⟨a, us, u, rfl, rfl, c1, by rw [c2.length, sizeLine_eq]; omega, p W _ .non e2 h2 (.d .non)⟩
      · exact p.elim
    · exact p.elim
  · exact p.elim
/-- l.extend(another list) -/
def extV (x : Vl) (ys : List Vl) (S : Sto) : RE := match x, ys with
  | .r l, [y] => match S[l]?, seqV y S with
    | some (.lst xs), some (true, zs) => if xs.length + zs.length < 1000000 then (match y with
      | .r k => match S[k]? with
        | some (.lst _) => .ok (.d .none) (S.set l (.lst (xs ++ zs)))
        | _ => .bad
      | .d _ => .ok (.d .none) (S.set l (.lst (xs ++ zs)))
      | _ => .bad) else .bad
    | _, _ => .bad
  | _, _ => .bad
theorem mt_extV : MtS X EX "list.extend" extV := by
  refine ⟨rExtend, mt_extend, fun W S H σ x v ys vs Q h r ra p => ?_⟩
  unfold extV at p
  split at p
  · rename_i l y
    split at p
    · rename_i xs zs q q2
      split at p
      · rename_i hz
        obtain ⟨a, us, rfl, h1, c1, c2, k⟩ := cell_lst h r q
        cases ra with | cons r1 r2 =>
        cases r2
        rename_i u
        have key : ∃ b ws, u = .ref b ∧ H b = some (.lst ws) ∧ RepA X.K W H ws zs ∧ PV X.K X.mg EX W H σ Q (.ok (.d .none) (S.set l (.lst (xs ++ zs)))) := by
          cases r1 with
          | d r1 =>
            cases r1 with
            | lst g1 g2 => cases q2; exact ⟨_, _, rfl, g1.2, .ofD g2, p⟩
            | _ => cases q2
          | t _ _ => cases q2
          | k _ _ => cases q2
          | q _ _ => exact p.elim
          | r g1 =>
            rename_i b k
            simp only at p
            split at p
            · rename_i ws qk
              obtain ⟨ws', d1, d2⟩ := h.cell k _ b qk g1
              simp only [seqV, qk] at q2
              cases q2
              exact ⟨b, ws', rfl, d1, d2, p⟩
            · exact p.elim
        obtain ⟨b, ws, rfl, d1, d2, p⟩ := key
        obtain ⟨h2, e2⟩ := k (us ++ ws) (xs ++ zs) (c2.append d2)
        exact ⟨a, b, us, ws, rfl, rfl, c1, d1, by rw [c2.length, d2.length, sizeLine_eq]; omega, p W _ .non e2 h2 (.d .non)⟩
      · exact p.elim
    · exact p.elim
  · exact p.elim
/-- l.pop() -/
def popV (x : Vl) (ys : List Vl) (S : Sto) : RE := match x, ys with
  | .r l, [] => match S[l]? with
    | some (.lst xs) => match xs[xs.length - 1]? with
      | some y => .ok y (S.set l (.lst xs.dropLast))
      | none => .bad
    | _ => .bad
  | _, _ => .bad
theorem RepA.dropLast {K : PySem.W.Frag} {W : Wd} {H : Hp} {vs : List V} {xs : List Vl} (h : RepA K W H vs xs) : RepA K W H vs.dropLast xs.dropLast := by
  rw [List.dropLast_eq_take, List.dropLast_eq_take, h.length]
  exact h.take _
theorem mt_popV : MtS X EX "list.pop" popV := by
  refine ⟨rPop, mt_pop, fun W S H σ x v ys vs Q h r ra p => ?_⟩
  unfold popV at p
  split at p
  · rename_i l
    split at p
    · rename_i xs q
      split at p
      · rename_i y qy
        obtain ⟨a, us, rfl, h1, c1, c2, k⟩ := cell_lst h r q
        cases ra
        obtain ⟨u, e1, r1⟩ := c2.get' qy
        obtain ⟨h2, e2⟩ := k us.dropLast xs.dropLast c2.dropLast
        exact ⟨a, us, u, rfl, rfl, c1, by rw [c2.length]; exact e1, p W _ u e2 h2 (Rep.ext e2 _ _ r1)⟩
      · exact p.elim
    · exact p.elim
  · exact p.elim
/-! t.index(text), t a tuple of the module's top -/
def tixV (x : Vl) (ys : List Vl) (S : Sto) : RE := match x, ys with
  | .k ds, [.d (.str z)] => match strsD ds with
    | some zs => match zs.findIdx? (fun y => decide (y = z)) with
      | some j => .ok (.d (.int j)) S
      | none => .bad
    | none => .bad
  | _, _ => .bad
theorem mt_tixV : MtS X EX "tuple.index" tixV := by
  refine ⟨_, mt_tup_index, fun W S H σ x v ys vs Q h r ra p => ?_⟩
  unfold tixV at p
  split at p
  · rename_i ds z
    split at p
    · rename_i zs q
      split at p
      · rename_i j qj
        cases r with | k g1 g2 =>
        cases ra with | cons r1 r2 =>
        cases r2
        cases r1 with | d r1 =>
        cases r1
        obtain ⟨hlt, e1, e2⟩ := List.findIdx?_eq_some_iff_getElem.mp qj
        have := strsD_ok g2 q
        subst this
        refine ⟨_, zs, z, j, rfl, rfl, g1.sq, ?_, fun m hm e => ?_, p.hereD h (.int _)⟩
        · rw [List.getElem?_eq_getElem hlt]
          have := of_decide_eq_true e1
          rw [this]
        · have hm' : m < zs.length := Nat.lt_trans hm hlt
          rw [List.getElem?_eq_getElem hm'] at e
          cases e
          have := e2 m hm
          simp at this
      · exact p.elim
    · exact p.elim
  · exact p.elim
/-! texts -/
def mM1 (f : Vl → Vl → Sto → RE) (mo me : ME) : ME := fun ρ S => (mo ρ S).bind fun x S1 => match x with
  | .d (.str z) => (me ρ S1).bind fun y S2 => f (.d (.str z)) y S2
  | _ => .bad
def splV (x y : Vl) (S : Sto) : RE := match x, y with
  | .d (.str a), .d (.str b) => if (b.length == 0) = false ∧ a.length ≤ 1000000 then .ok (.d (.list ((Txt.split a b).map .str))) S else .bad
  | _, _ => .bad
def joinV (x y : Vl) (S : Sto) : RE := match x with
  | .d (.str a) => match seqV y S with
    | some (_, xs) => match (allD xs).bind strsD with
      | some ys => if (ys.map (·.length)).sum + ys.length * a.length ≤ 16777216 then .ok (.d (.str (Txt.join a ys))) S else .bad
      | none => .bad
    | none => .bad
  | _ => .bad
theorem FdA.strs {F : Addr → Prop} {H : Hp} : ∀ ys : List Str, FdA F H (ys.map V.str) (ys.map PyData.str)
  | [] => .nil
  | y :: ys => .cons (.str y) (FdA.strs ys)
variable {me : ME}
theorem se_split (ho : SE X EX o mo) (he : SE X EX e me) (hs : starEach [e] X.env = [(false, eval e X.env)] := by rfl) (hbase : attributeBase o "split" X.env (eval o X.env) = eval o X.env := by rfl) (hline : (apos.endLine == cpos.line) = true := by rfl) :
    SE X EX (.Call (.Attribute o "split" apos) [e] [] cpos) (mM1 splV mo me) := by
  refine (pe_split ho he hs hbase hline).wk fun σ H Q h => ?_
  obtain ⟨W, S, ρ, h, er, p⟩ := h
  refine EV.T.step h er p fun x S1 W1 H1 v e1 h1 er1 r1 p1 => ?_
  split at p1
  · rename_i z
    cases r1 with | d r1 =>
    cases r1
    refine ⟨⟨_, rfl⟩, ?_⟩
    refine EV.T.step h1 er1 p1 fun y S2 W2 H2 u e2 h2 er2 r2 p2 => ?_
    unfold splV at p2
    split at p2
    · rename_i a b heq
      cases heq
      split at p2
      · rename_i hz
        cases r2 with | d r2 =>
        cases r2
        refine ⟨_, _, rfl, rfl, hz.1, by rw [sizeLine_eq]; omega, fun q hq => ?_⟩
        exact p2.newF h2 hq (newLst h2 hq (FdA.strs _))
      · exact p2.elim
    · exact p2.elim
  · exact p1.elim
theorem se_join (ho : SE X EX o mo) (he : SE X EX e me) (hs : starEach [e] X.env = [(false, eval e X.env)] := by rfl) (hbase : attributeBase o "join" X.env (eval o X.env) = eval o X.env := by rfl) (hline : (apos.endLine == cpos.line) = true := by rfl) :
    SE X EX (.Call (.Attribute o "join" apos) [e] [] cpos) (mM1 joinV mo me) := by
  refine (pe_join ho he hs hbase hline).wk fun σ H Q h => ?_
  obtain ⟨W, S, ρ, h, er, p⟩ := h
  refine EV.T.step h er p fun x S1 W1 H1 v e1 h1 er1 r1 p1 => ?_
  split at p1
  · rename_i z
    cases r1 with | d r1 =>
    cases r1
    refine ⟨⟨_, rfl⟩, ?_⟩
    refine EV.T.step h1 er1 p1 fun y S2 W2 H2 u e2 h2 er2 r2 p2 => ?_
    unfold joinV at p2
    simp only at p2
    split at p2
    · rename_i b xs q
      split at p2
      · rename_i ys q2
        split at p2
        · rename_i hz
          obtain ⟨a, vs, rfl, g1, g2, g3⟩ := seqV_ok h2 r2 q
          rw [Option.bind_eq_some_iff] at q2
          obtain ⟨ds, q3, q4⟩ := q2
          have := allD_some q3
          subst this
          have := strsD_ok (RepA.toD g1) q4
          subst this
          refine ⟨z, a, ys, rfl, rfl, ?_, hz, p2.hereD h2 (.str _)⟩
          cases b with
          | true => exact .inl (g2 rfl)
          | false => exact .inr (g3 rfl)
        · exact p2.elim
      · exact p2.elim
    · exact p2.elim
  · exact p1.elim
end
end EV

/-! EvMaxD: max(list, default=x); dict(pairs). -/
namespace EV
open PySem PySem.Spec PyProof.Rows L2
def bestI (f : Nat → Int) : Nat → Option Int
  | 0 => none
  | j + 1 => some (match bestI f j with
    | none => f j
    | some m => if f j > m then f j else m)
def HeldB (xs : Array Value) : Option Int → Prop
  | none => xs = #[]
  | some m => ∃ t, xs = #[.int m t, .int m t]
section
variable {prog : Program} {w : World} {A : Around} {R : Result → Shared → Prop} {I : Addr} {fp wr : List Addr} {n : Nat} {St : Nat → Heap → Prop} {f : Nat → Int} {d : Value}
theorem maxD_loop (W : Walks prog w A.in1 I fp wr n (fun i v => ∃ t, v = .int (f i) t) St) (S : Addr) (hSf : S ∉ fp) :
    ∀ (k j : Nat) (s : Shared) (xs : Array Value) (c : Nat), n - j = k → j ≤ n → St j s.heap → HeldB xs (bestI f j) →
    s.heap.get? S = some { cls := .type "list", dict := none, data := .seq xs c, slots := #[] } →
    (∀ v h' tk, (match bestI f n with | none => v = d | some m => ∃ t, v = Value.int m t) → (∀ b o, b ∉ wr → b ≠ S → s.heap.get? b = some o → h'.get? b = some o) → R (.ok (.ret v)) { s with heap := h', toks := tk }) →
    codeAny (model prog w) A (.builtin "max.loop" ⟨[.ref I, .none, .ref S], [("default", d)]⟩) R s := by
  have offS : S ∉ wr := fun h => hSf (W.sub _ h)
  have nm : (toString "max" ++ toString ".loop" : String) = "max.loop" := by decide
  intro k
  induction k with
  | zero =>
    intro j s xs c hk hj hst hB hS hR
    have hin : n = j := by omega
    subst hin
    refine codeAny_builtin F.entry_max_loop ?_
    rw [Around.under_plainId F.plain_max_loop _]
    show wpAny _ A.in1 (seqItems? (.ref S) >>= _) _ _ s
    refine wpAny_bind (wpAny_seqItems hS rfl ?_)
    show wpAny _ A.in1 (tryCatch (pyNext (.ref I)) _ >>= _) _ _ s
    refine wpAny_bind (wpAny_tryCatch (W.done s _ _ hst fun h' tk kp => ?_))
    have hS' := kp S _ offS hS
    cases hb : bestI f n with
    | none =>
      rw [hb] at hB hR
      have hx : xs = #[] := hB
      subst hx
      refine wpAny_bind (wpAny_rule (wpAny_pure ?_))
      exact hR d h' tk rfl fun b o h1 _ e => kp b o h1 e
    | some m =>
      rw [hb] at hB hR
      obtain ⟨t, hx⟩ := hB
      subst hx
      show wpAny _ A.in1 (updateSeq S (fun _ => #[]) >>= _) _ _ _
      refine wpAny_bind ?_
      refine wpAny_updateSeq hS' rfl (wpAny_bind (wpAny_letGo (wpAny_pure ?_)))
      exact hR _ _ tk ⟨t, rfl⟩ fun b o h1 h2 e => (Heap.get?_update_other _ _ (Ne.symm h2)).trans (kp b o h1 e)
  | succ k ih =>
    intro j s xs c hk hj hst hB hS hR
    have hlt : j < n := by omega
    refine codeAny_builtin F.entry_max_loop ?_
    rw [Around.under_plainId F.plain_max_loop _]
    show wpAny _ A.in1 (seqItems? (.ref S) >>= _) _ _ s
    refine wpAny_bind (wpAny_seqItems hS rfl ?_)
    show wpAny _ A.in1 (tryCatch (pyNext (.ref I)) _ >>= _) _ _ s
    refine wpAny_bind (wpAny_tryCatch (W.item j s _ _ hlt hst fun v h' tk hP hst' kp => ?_))
    obtain ⟨tv, rfl⟩ := hP
    have hS' := kp S _ offS hS
    -- the next turn, the cell's list written or not
    have go : ∀ (h2 : Heap) (ys : Array Value) (c' : Nat), (∀ b o, b ≠ S → h'.get? b = some o → h2.get? b = some o) → h2.get? S = some { cls := .type "list", dict := none, data := .seq ys c', slots := #[] } → HeldB ys (bestI f (j + 1)) →
        codeAny (model prog w) A (.builtin "max.loop" ⟨[.ref I, .none, .ref S], [("default", d)]⟩) R { s with heap := h2, toks := tk } := fun h2 ys c' k2 e2 hh =>
      ih (j + 1) { s with heap := h2, toks := tk } ys c' (by omega) hlt (W.frame _ _ _ hst' fun b hb o e => k2 b o (fun z => hSf (z ▸ hb)) e) hh e2 fun v' h3 tk3 hv k3 =>
        hR v' h3 tk3 hv fun b o h1 h4 e => k3 b o h1 h4 (k2 b o h4 (kp b o h1 e))
    cases hb : bestI f j with
    | none =>
      rw [hb] at hB
      have hx : xs = #[] := hB
      subst hx
      show wpAny _ A.in1 (updateSeq S (fun _ => #[.int (f j) tv, .int (f j) tv]) >>= _) _ _ _
      refine wpAny_bind ?_
      refine wpAny_updateSeq hS' rfl ?_
      rw [nm]
      refine wpAny_pure ⟨plainId_quiet F.plain_max_loop _, go _ _ _ (fun b o h1 e => (Heap.get?_update_other _ _ (Ne.symm h1)).trans e) (Heap.get?_update_self _ hS' rfl) ?_⟩
      unfold bestI
      rw [hb]
      exact ⟨tv, rfl⟩
    | some m =>
      rw [hb] at hB
      obtain ⟨t, hx⟩ := hB
      subst hx
      show wpAny _ A.in1 (tryCatch (holding [.int (f j) tv, .int (f j) tv] (richCompare .Gt (.int (f j) tv) (.int m t) >>= _)) _ >>= _) _ _ _
      refine wpAny_bind (wpAny_tryCatch (wpAny_holding (wpAny_bind (richCompare_gives (op := .Gt) (typeIs_int _ _ tv) (typeIs_int _ _ t) F.slot_int_gt F.entry_int_gt (F.args_int_gt_2 _ _) (gives_int_gt _ _ tv t) (fun x => nomatch x) ?_))))
      refine wpAny_bind (wpAny_holding (wpAny_truthy_bool ?_))
      refine wpAny_bind (wpAny_letGo (wpAny_pure ?_))
      cases hg : decide (f j > m) with
      | true =>
        simp only [if_true]
        refine wpAny_bind ?_
        refine wpAny_updateSeq hS' rfl (wpAny_bind (wpAny_letGo ?_))
        rw [nm]
        refine wpAny_pure ⟨plainId_quiet F.plain_max_loop _, go _ _ _ (fun b o h1 e => (Heap.get?_update_other _ _ (Ne.symm h1)).trans e) (Heap.get?_update_self _ hS' rfl) ?_⟩
        unfold bestI
        rw [hb]
        simp only [if_pos (of_decide_eq_true hg)]
        exact ⟨tv, rfl⟩
      | false =>
        simp only [Bool.false_eq_true, if_false]
        refine wpAny_bind (wpAny_letGo ?_)
        rw [nm]
        refine wpAny_pure ⟨plainId_quiet F.plain_max_loop _, go _ _ _ (fun _ _ _ e => e) hS' ?_⟩
        unfold bestI
        rw [hb]
        simp only [if_neg (of_decide_eq_false hg)]
        exact ⟨t, rfl⟩
end
section
variable {prog : Program} {w : World} {A : Around} {E : Value → Shared → Prop} {s : Shared} {d : Value}
theorem args_maxD (a d : Value) : argsOk "max" ⟨[a], [("default", d)]⟩ := by unfold argsOk; kernel_rfl
theorem call_maxD {l : Addr} {its : List Value} {ns : List Int} {Q : Value → Shared → Prop} (hh : A.handled = none) (hl : s.heap.IsList l its.toArray) (hi : IntsAre its ns)
    (h : ∀ v h' tk, (∀ b o, s.heap.get? b = some o → h'.get? b = some o) → (match bestI (fun i => ns.getD i 0) ns.length with | none => v = d | some m => ∃ t, v = Value.int m t) → Q v { s with heap := h', toks := tk }) :
    wpAny (model prog w) A (call (.builtin "max") [.ref l] [("default", d)]) Q E s := by
  have nm : (toString "max" ++ toString ".loop" : String) = "max.loop" := by decide
  refine wpAny_call (codeAny_call_builtin F.plain_max F.entry_max ?_)
  have body : wpAny (model prog w) A.in1 (Builtin.«max» ⟨[.ref l], [("default", d)]⟩) (fun fin s' => match fin with
      | .done f => wants Q E (.ok f) s'
      | .again c' => c'.quiet = true ∧ codeAny (model prog w) A c' (wants Q E) s') E s := by
    show wpAny _ A.in1 (Builtin.Builtins.bindParams "max" ["key", "default"] 0 ⟨[], [("default", d)]⟩ >>= _) _ _ s
    refine wpAny_bind (wpAny_of_eq (show Builtin.Builtins.bindParams "max" ["key", "default"] 0 ⟨[], [("default", d)]⟩ = pure [none, some d] from rfl) ?_)
    refine wpAny_bind (wpAny_pure ?_)
    refine wpAny_bind (iter_anyList hl fun s₂ e st hfp hlI => ?_)
    subst e
    refine wpAny_bind (wpAny_newObj_type ?_)
    rw [nm]
    have lens : its.toArray.size = ns.length := by rw [List.size_toArray]; exact hi.length
    have W0 := Walks.list (prog := prog) (w := w) (A := A.in1) hh s.heap.objs.size l hlI its.toArray
    have W : Walks prog w A.in1 s.heap.objs.size [s.heap.objs.size, l] [s.heap.objs.size] ns.length (fun i v => ∃ t, v = .int (ns.getD i 0) t) (fun i h => h.IsListIter s.heap.objs.size l i ∧ h.IsList l its.toArray) :=
      ⟨W0.sub, W0.frame, fun i s Q E hi' st hq => W0.item i s Q E (by rw [lens]; exact hi') st fun v h' tk hv => by
        refine hq v h' tk ?_
        have hv' : its[i]? = some v := by simpa using hv
        obtain ⟨t, e2⟩ := hi.get i _ (List.getElem?_eq_getElem hi')
        rw [hv'] at e2
        cases e2
        exact ⟨t, by rw [List.getD_eq_getElem?_getD, List.getElem?_eq_getElem hi']; rfl⟩, fun s Q E st => W0.done s Q E (by rw [lens]; exact st), W0.self⟩
    refine wpAny_pure ⟨plainId_quiet F.plain_max_loop _, maxD_loop W _ (fun hm => Nat.lt_irrefl _ (hfp _ hm)) ns.length 0 _ #[] 0 (Nat.sub_zero _) (Nat.zero_le _)
      (W.frame _ _ _ st fun b _ o e => Heap.get?_push_of_some _ e) rfl (Heap.get?_push_size _ rfl) fun v h' tk hv kp => ?_⟩
    refine h v h' tk (fun b o e => ?_) hv
    have hb := Heap.lt_size e
    refine kp b o (fun z => absurd hb (by rw [List.mem_singleton.mp z]; exact Nat.lt_irrefl _)) (fun z => ?_) (Heap.get?_push_of_some _ (Heap.get?_push_of_some _ e))
    rw [z, Heap.size_push] at hb
    exact absurd (Nat.lt_of_succ_lt hb) (Nat.lt_irrefl _)
  simp only [checkBuiltinCall, F.kind_max]
  cases hsig : Manifest.signature? "max" with
  | none => exact wpAny_pure body
  | some sig =>
    have ha := args_maxD (.ref l) d
    simp only [argsOk, hsig] at ha
    have h2 : Bind.checkArgs "max" sig ⟨[.ref l], [("default", d)]⟩ = pure () := ha
    show wpAny _ A.in1 (Bind.checkArgs "max" sig ⟨[.ref l], [("default", d)]⟩) _ _ s
    rw [h2]
    exact wpAny_pure body
end
/-! ### max(xs, default=x), as a built-in called with a keyword -/
def kwList (as : MA) : MA := as
def mBltK (g : List Vl → List Vl → Sto → RE) (as ak : MA) : ME := fun ρ S => (as ρ S).bind fun xs S1 => (ak ρ S1).bind fun zs S2 => g xs zs S2
def BltKS (X : Cx) (EX : WX) (f : Value) (ks : List Str) (g : List Vl → List Vl → Sto → RE) : Prop :=
  ∃ r, CallRK X f ks r ∧ ∀ W S H σ xs vs zs ws Q, HR X.K X.mg W S H → RepA X.K W H vs xs → RepA X.K W H ws zs → PV X.K X.mg EX W H σ Q (g xs zs S) → r vs ws H Q
/-- the keywords' values -/
abbrev SK (X : Cx) (EX : WX) (kws : List Keyword) (m : MA) : Prop := PK X kws (TAr X.K X.mg EX m)
section
variable {X : Cx} {EX : WX} {g : List Vl → List Vl → Sto → RE} {x : Str} {p pos : Pos} {e : Expr} {es : List Expr} {kws : List Keyword} {as ak : MA} {id : String} {ks : List Str} {me : ME}
theorem sk_nil : SK X EX [] aNil := ⟨fun po pins s σ H Q I h => by
  obtain ⟨W, S, ρ, h, _, q⟩ := h
  exact pk_nil.run po pins s σ H Q I (q W H [] .refl h .nil)⟩
theorem sk_cons {nm : Option Str} {kpos : Pos} (ha : SE X EX e me) (hr : SK X EX kws ak) : SK X EX (⟨nm, e, kpos⟩ :: kws) (aCons me ak) := ⟨fun po pins s σ H Q I h => by
  refine (pk_cons ha hr).run po pins s σ H Q I ?_
  obtain ⟨W, S, ρ, h, er, q⟩ := h
  refine T.stepA h er q fun x S1 W1 H1 v e1 h1 er1 r1 p1 => ?_
  exact TAr.stepA h1 er1 p1 fun xs S2 W2 H2 vs e2 h2 er2 r2 p2 => p2 W2 H2 _ .refl h2 (.cons (Rep.ext e2 _ _ r1) r2)⟩
theorem se_callBK (o : BltKS X EX (.builtin id) ks g) (hg : Gl X x) (hm : X.mg x = none) (hv : bootBuiltins x = some (.builtin id)) (ha : SA X EX (e :: es) as) (hk : SK X EX kws ak) (hn : x ≠ "__name__" := by decide) (hdb : (x == ("__debug__" : Str)) = false := by decide)
    (he : backTo pos (starEach (e :: es) X.env) = (false, eval e X.env) :: backTo pos (starEach es X.env) := by rfl) (hpl : (backTo pos (starEach (e :: es) X.env)).any (·.1) = false := by rfl)
    (hall : (backToKw pos (keywordEach kws X.env)).all (·.1.isSome) = true := by rfl) (hnone : (backToKw pos (keywordEach kws X.env)).any (·.1.isNone) = false := by rfl) (hks : (backToKw pos (keywordEach kws X.env)).filterMap (·.1) = ks := by rfl) :
    SE X EX (.Call (.Name x p) (e :: es) kws pos) (mBltK g as ak) := by
  obtain ⟨r, o1, o2⟩ := o
  refine (pe_callBK o1 hg hm hv ha hk hn hdb he hpl hall hnone hks).wk fun σ H Q h => ?_
  obtain ⟨W, S, ρ, h, er, p⟩ := h
  refine TAr.step h er p fun xs S1 W1 H1 vs e1 h1 er1 r1 p1 => ?_
  exact TAr.step h1 er1 p1 fun zs S2 W2 H2 ws e2 h2 er2 r2 p2 => o2 W2 S2 H2 σ xs vs zs ws Q h2 (RepA.ext e2 _ _ r1) r2 p2
def maxDV (xs zs : List Vl) (S : Sto) : RE := match xs, zs with
  | [x], [z] => match seqD x S with
    | some (true, ds) => match intsD ds with
      | some ns => if ns = [] then .ok z S else .ok (.d (.int (listMax 0 ns))) S
      | none => .bad
    | _ => .bad
  | _, _ => .bad
theorem bestI_max (ns : List Int) : ∀ j, j < ns.length → ∃ m, bestI (fun i => ns.getD i 0) (j + 1) = some m ∧ (∃ i, i ≤ j ∧ m = ns.getD i 0) ∧ ∀ i, i ≤ j → ns.getD i 0 ≤ m := by
  intro j
  induction j with
  | zero =>
    intro _
    refine ⟨ns.getD 0 0, rfl, ⟨0, Nat.le_refl _, rfl⟩, fun i hi => ?_⟩
    have h0 : i = 0 := by omega
    rw [h0]
    exact Int.le_refl _
  | succ j ih =>
    intro hj
    obtain ⟨m, e1, ⟨i, hi, e2⟩, e3⟩ := ih (by omega)
    unfold bestI
    rw [e1]
    simp only
    split
    · rename_i hg
      refine ⟨_, rfl, ⟨j + 1, Nat.le_refl _, rfl⟩, fun i hi => ?_⟩
      rcases Nat.lt_or_ge i (j + 1) with z | z
      · have := e3 i (by omega); omega
      · have : i = j + 1 := by omega
        subst this; exact Int.le_refl _
    · rename_i hg
      refine ⟨_, rfl, ⟨i, by omega, e2⟩, fun i' hi' => ?_⟩
      rcases Nat.lt_or_ge i' (j + 1) with z | z
      · exact e3 i' (by omega)
      · have : i' = j + 1 := by omega
        subst this; omega
theorem blt_maxD (hc : X.calm = true) : BltKS X EX (.builtin "max") ["default"] maxDV := by
  refine ⟨fun vs ws H Q => ∃ a ns z, vs = [.ref a] ∧ ws = [z] ∧ SqL X.K H a (ns.map V.int) ∧ (ns = [] → Q z H) ∧ (ns ≠ [] → Q (.int (listMax 0 ns)) H), fun pins s σ H xs zs us ws Q I r1 r2 h => ?_, fun W S H σ xs vs zs ws Q h r1 r2 p => ?_⟩
  · obtain ⟨a, ns, z, rfl, rfl, hs, q1, q2⟩ := h
    obtain ⟨its, rv, hl, _⟩ := I.list hs
    obtain ⟨u, rfl, ru⟩ := vals1 r2
    rw [Vals.ref1 r1]
    refine call_maxD (I.ok.hd hc) hl.isList rv.ints fun v h' tk hk hv => ?_
    have I' := I.kept (t' := tk) hk
    cases hn : ns with
    | nil =>
      subst hn
      have hv : v = u := hv
      subst hv
      exact ⟨z, H, I', ru, q1 rfl⟩
    | cons n r =>
      obtain ⟨m, e1, ⟨i, hi, e2⟩, e3⟩ := bestI_max ns r.length (by rw [hn]; exact Nat.lt_succ_self _)
      rw [hn] at hv
      have e1' : bestI (fun i => (n :: r).getD i 0) (n :: r).length = some m := by rw [← hn]; rw [hn] at e1 ⊢; exact e1
      rw [e1'] at hv
      obtain ⟨t, rfl⟩ := hv
      have q := q2 (by rw [hn]; simp)
      have hm : m ∈ ns := by rw [e2]; exact PySem.getD_mem (by rw [hn]; simp; omega)
      have hmax : ∀ y ∈ ns, y ≤ m := fun y hy => by
        obtain ⟨j, hj, rfl⟩ := List.mem_iff_getElem.mp hy
        have := e3 j (by rw [hn] at hj; simp at hj; omega)
        rwa [List.getD_eq_getElem?_getD, List.getElem?_eq_getElem hj] at this
      rw [← listMax_is (d := 0) hm hmax] at q
      exact ⟨.int m, H, I', ⟨t, rfl⟩, q⟩
  · unfold maxDV at p
    split at p
    · rename_i x z
      cases r1 with | cons r1 r1' =>
      cases r1'
      cases r2 with | cons r2 r2' =>
      cases r2'
      split at p
      · rename_i ds e
        split at p
        · rename_i ns e2
          obtain ⟨a, vs, rfl, g1, g2, g3⟩ := seqD_ok h r1 e
          have := intsD_ok g1 e2
          subst this
          refine ⟨a, ns, _, rfl, rfl, g2 rfl, fun e => ?_, fun e => ?_⟩
          · rw [if_pos e] at p; exact p.here h r2
          · rw [if_neg e] at p; exact p.hereD h (.int _)
        · exact p.elim
      · exact p.elim
    · exact p.elim
end
end EV

/-! EvDict: dict(pairs), d.get(k, x), displays of dicts. -/
namespace EV
open PySem PySem.Spec PyProof.Rows L2
/-! ### dict(a list or a tuple of pairs) -/
section
variable {X : Cx} {EX : WX} {pins : List (Addr × Obj)} {σ : L2.St} {H : Hp} {s : Shared}
def PairsV (K : PySem.W.Frag) (H : Hp) (ps : List Addr) (kvs : List (Key × V)) : Prop := Paired (fun p kv => SqT K H p [kV kv.1, kv.2]) ps kvs
theorem all_refs : ∀ ps : List Addr, (ps.map V.ref).all isRefV = true
  | [] => rfl
  | _ :: r => by rw [List.map_cons, List.all_cons, all_refs r]; rfl
theorem pairsT_of (I : Inv X pins σ H s) : ∀ {ps : List Addr} {kvs : List (Key × V)}, PairsV X.K H ps kvs →
    ∃ (prs : List (Key × Value)) (vs : List (Value × Value)), KV kvs prs ∧ prs.length = ps.length ∧ vs.length = ps.length ∧ ∀ (j : Nat) (q : Value × Value), vs[j]? = some q → ∃ (b : Addr) (k : Key), ps[j]? = some b ∧ IsTup s.heap b #[q.1, q.2] ∧ prs[j]? = some (k, q.2) ∧ keyIs k q.1 = true
  | _, _, .nil => ⟨[], [], .nil, rfl, rfl, fun j q e => by simp at e⟩
  | _, _, .cons (a := p) (b := kv) h t => by
    obtain ⟨prs, vs, r, hl, lv, hp⟩ := pairsT_of I t
    obtain ⟨its, rv, ht, _⟩ := I.tuple h
    obtain ⟨u, y, ei, ru, ry⟩ := vals2 rv
    subst ei
    refine ⟨(kv.1, y) :: prs, (u, y) :: vs, .cons ⟨rfl, ry⟩ r, by simp [hl], by simp [lv], fun j q e => ?_⟩
    cases j with
    | zero => cases Option.some.inj e; exact ⟨p, kv.1, rfl, ht, rfl, kV_is (P := X.prog) (w := X.w) ru⟩
    | succ j =>
      obtain ⟨b, k, e1, e2, e3, e4⟩ := hp j q (by simpa using e)
      exact ⟨b, k, by simpa using e1, e2, by simpa using e3, e4⟩
theorem call_dictT (hcalm : X.calm = true) : CallR X (.type "dict") (fun xs H Q => ∃ (a : Addr) (ps : List Addr) (kvs : List (Key × V)) (F : Addr → Prop), xs = [.ref a] ∧ TpF F H a (ps.map V.ref) ∧ PairsV X.K H ps kvs ∧
    ∀ p, H p = none → Q (.ref p) (upd H p (.dK (mergeK [] kvs)))) := by
  intro pins s σ H xs us Q I r q
  obtain ⟨a, ps, kvs, F, ex, hq, hp, q⟩ := q
  subst ex
  rw [Vals.ref1 r]
  obtain ⟨_, o, hd, ea⟩ := hq
  unfold tupO at ea
  rw [if_pos (all_refs ps)] at ea
  obtain ⟨ho, hz, its, rv, ⟨o', h1, h2, n, h3⟩⟩ := (show ObjOk X.prog X.w H s.heap a (.frz o (.tup (ps.map V.ref))) from I.hok a _ ea)
  rw [ho] at h1
  cases h1
  have ei := refs_at rv
  subst ei
  rw [List.length_map] at hz
  obtain ⟨prs, vs, rel, hl, lv, hv⟩ := pairsT_of I hp
  refine PySem.call_dict_pairs (knd := mixKind X.prog X.w) (kvs := prs) (PairArg.tuple a (ps.map Value.ref).toArray (fun j => ps.getD j 0) vs) (I.ok.hd hcalm) ⟨⟨o, n, ho, h2, hd, h3⟩, ?_, fun j k v e => ?_⟩ ⟨hl.trans lv.symm, fun i k v e => ?_⟩ (by rw [lv]; exact hz) fun h' tk hd' kp => ?_
  · rw [List.size_toArray, List.length_map, lv]
  · obtain ⟨b, k', e1, e2, e3, e4⟩ := hv j (k, v) e
    have e5 : ps.getD j 0 = b := by rw [List.getD_eq_getElem?_getD, e1]; rfl
    refine ⟨?_, .inl ?_⟩
    · show _ = some (Value.ref (ps.getD j 0))
      rw [List.getElem?_toArray, List.getElem?_map, e1, e5]; rfl
    · obtain ⟨o, x1, x2, n, x3⟩ := e2
      show s.heap.IsTuple (ps.getD j 0) _
      rw [e5]
      exact ⟨o, x1, x2, n, x3⟩
  · obtain ⟨b, k', e1, e2, e3, e4⟩ := hv i (k, v) e
    exact ⟨k', e3, e4⟩
  · have hm : (s.heap.objs.size == sysModules) = false := beq_eq_false_iff_ne.mpr (Nat.ne_of_gt I.big)
    have hln : (mergeK [] kvs).length ≤ sizeLine := by
      refine Nat.le_trans (length_mergeK kvs []) ?_
      rw [List.length_nil, Nat.zero_add, rel.length, hl]
      exact hz
    have kp' : ∀ b o, s.heap.get? b = some o → h'.get? b = some o := fun b o e => kp b o (fun z => absurd z (by simp)) e
    exact ⟨.ref s.heap.objs.size, upd H s.heap.objs.size (.dK (mergeK [] kvs)), I.laid (t' := tk) kp' (Nat.le_refl _) (show ObjOk X.prog X.w _ _ _ (.dK (mergeK [] kvs)) from ⟨hln, hm, merged [] prs, KV.merge rel .nil, hd'⟩), rfl, q _ (I.hok.fresh (Nat.le_refl _))⟩
end

section
variable {X : Cx} {EX : WX}
/-- a pair (key, value) -/
def pairV : Vl → Option (Key × Vl)
  | .d (.tuple [k, v]) => (unKey k).map fun k => (k, .d v)
  | .t [.d k, v] => (unKey k).map fun k => (k, v)
  | _ => none
def pairsV : List Vl → Option (List (Key × Vl))
  | [] => some []
  | x :: r => match pairV x, pairsV r with
    | some p, some ps => some (p :: ps)
    | _, _ => none
def mergeC (kvs more : List (Key × Vl)) : List (Key × Vl) := more.foldl (fun acc kv => putC acc kv.1 kv.2) kvs
theorem RepK.merge {K : PySem.W.Frag} {W : Wd} {H : Hp} : ∀ {more : List (Key × V)} {moreC : List (Key × Vl)} {us : List (Key × V)} {xs : List (Key × Vl)}, RepK K W H more moreC → RepK K W H us xs → RepK K W H (mergeK us more) (mergeC xs moreC)
  | _, _, _, _, .nil, h => h
  | _, _, _, _, .cons (k := k) r t, h => by have q := RepK.merge t (RepK.put k r h); exact q
theorem pairV_ok {K : PySem.W.Frag} {W : Wd} {H : Hp} {v : V} {x : Vl} {p : Key × Vl} (r : Rep K W H v x) (e : pairV x = some p) : ∃ b w, v = .ref b ∧ SqT K H b [kV p.1, w] ∧ Rep K W H w p.2 := by
  unfold pairV at e
  split at e
  · rename_i k y
    cases r with | d r =>
    cases r with | tup h1 h2 =>
    cases h2 with | cons g1 g2 =>
    cases g2 with | cons g2 g3 =>
    cases g3
    simp only [Option.map_eq_some_iff] at e
    obtain ⟨k', e1, e2⟩ := e
    subst e2
    have := unKey_ok g1 e1
    subst this
    exact ⟨_, _, rfl, h1.sq, .d g2⟩
  · rename_i k y
    cases r with | t h1 h2 =>
    cases h2 with | cons g1 g2 =>
    cases g2 with | cons g2 g3 =>
    cases g3
    cases g1 with | d g1 =>
    simp only [Option.map_eq_some_iff] at e
    obtain ⟨k', e1, e2⟩ := e
    subst e2
    have := unKey_ok g1 e1
    subst this
    exact ⟨_, _, rfl, h1.sq, g2⟩
  · cases e
theorem pairsV_ok {K : PySem.W.Frag} {W : Wd} {H : Hp} : ∀ {xs : List Vl} {vs : List V} {kvs : List (Key × Vl)}, RepA K W H vs xs → pairsV xs = some kvs → ∃ ps us, vs = ps.map V.ref ∧ PairsV K H ps us ∧ RepK K W H us kvs
  | _, _, _, .nil, e => by cases e; exact ⟨[], [], rfl, .nil, .nil⟩
  | _, _, _, .cons (x := x) (xs := xs) r t, e => by
    unfold pairsV at e
    cases q : pairV x with
    | none => rw [q] at e; cases e
    | some p =>
      cases q' : pairsV xs with
      | none => rw [q, q'] at e; cases e
      | some ps' =>
        rw [q, q'] at e
        cases e
        obtain ⟨b, w, rfl, h1, h2⟩ := pairV_ok r q
        obtain ⟨ps, us, rfl, h3, h4⟩ := pairsV_ok t q'
        exact ⟨b :: ps, (p.1, w) :: us, rfl, .cons h1 h3, .cons h2 h4⟩
def dictV (x : Vl) (S : Sto) : RE := match x with
  | .d (.tuple ds) => match pairsV (ds.map .d) with
    | some kvs => .ok (.r S.length) (S ++ [.dk (mergeC [] kvs)])
    | none => .bad
  | x => match seqV x S with
    | some (true, xs) => match pairsV xs with
      | some kvs => .ok (.r S.length) (S ++ [.dk (mergeC [] kvs)])
      | none => .bad
    | _ => .bad
theorem CallR.or' {f : Value} {r r' : List V → Hp → VK → Prop} (h : CallR X f r) (h' : CallR X f r') : CallR X f (fun xs H Q => r xs H Q ∨ r' xs H Q) := by
  intro pins s σ H xs us Q I rx q
  exact q.elim (h pins s σ H xs us Q I rx) (h' pins s σ H xs us Q I rx)
theorem blt_dict (hc : X.calm = true) : BltS X EX (.type "dict") (one dictV) := by
  refine blt1 (CallR.or' (call_dictT hc) (call_dictP hc)) fun W S H σ x v Q h r p => ?_
  have mk : ∀ {us : List (Key × V)} {kvs : List (Key × Vl)}, RepK X.K W H us kvs → PV X.K X.mg EX W H σ Q (.ok (.r S.length) (S ++ [.dk (mergeC [] kvs)])) → ∀ q, H q = none → Q (.ref q) (upd H q (.dK (mergeK [] us))) := fun rk p q hq =>
    p.newC h hq ⟨_, upd_same, RepK.merge (rk.ext (ext_push h hq)) .nil⟩
  unfold dictV at p
  split at p
  · rename_i ds
    cases r with | d r =>
    cases r with | tup h1 h2 =>
    split at p
    · rename_i kvs e
      obtain ⟨ps, us, rfl, g1, g2⟩ := pairsV_ok (RepA.ofD h2) e
      exact .inl ⟨_, ps, us, W.F, rfl, h1, g1, mk g2 p⟩
    · exact p.elim
  · split at p
    · rename_i xs e
      split at p
      · rename_i kvs e2
        obtain ⟨a, vs, rfl, k1, k2, k3⟩ := seqV_ok h r e
        obtain ⟨ps, us, rfl, g1, g2⟩ := pairsV_ok k1 e2
        exact .inr ⟨a, ps, us, rfl, k2 rfl, g1, mk g2 p⟩
      · exact p.elim
    · exact p.elim

/-! ### d.get(k, x) -/
def isDV (x : Vl) (S : Sto) : Bool := match x with
  | .r l => match S[l]? with
    | some (.dk _) => true
    | some (.dt _) => true
    | _ => false
  | _ => false
theorem isDV_ok {K : PySem.W.Frag} {mg : Str → Option Value} {W : Wd} {S : Sto} {H : Hp} {v : V} {x : Vl} (h : HR K mg W S H) (r : Rep K W H v x) (e : isDV x S = true) : ∃ a, v = .ref a ∧ IsD H a := by
  unfold isDV at e
  split at e
  · cases r with | r h1 =>
    rename_i a
    split at e
    · rename_i q; obtain ⟨us, c1, _⟩ := h.cell _ _ _ q h1; exact ⟨a, rfl, .inl ⟨_, .of c1⟩⟩
    · rename_i q; obtain ⟨us, c1, _⟩ := h.cell _ _ _ q h1; exact ⟨a, rfl, .inr ⟨_, .of c1⟩⟩
    · cases e
  · cases e
def mGet2 (mo my mz : ME) : ME := fun ρ S => (mo ρ S).bind fun x S1 => if isDV x S1 then (my ρ S1).bind fun y S2 => (mz ρ S2).bind fun z S3 => (match dictAt x y S3 with
  | some o => .ok (o.getD z) S3
  | none => .bad) else .bad
variable {o e f : Expr} {mo my mz : ME} {apos cpos : Pos}
theorem se_get2 (hu : X.A.units + 1 < cLine) (ho : SE X EX o mo) (he : SE X EX e my) (hf : SE X EX f mz) (m : M2 X o "get" apos e f cpos := by exact ⟨rfl, rfl, rfl, rfl⟩) : SE X EX (.Call (.Attribute o "get" apos) [e, f] [] cpos) (mGet2 mo my mz) := by
  refine (pe_dget2 hu ho he hf m).wk fun σ H Q h => ?_
  obtain ⟨W, S, ρ, h, er, p⟩ := h
  refine EV.T.step h er p fun x S1 W1 H1 v e1 h1 er1 r1 p1 => ?_
  split at p1
  · rename_i hx
    obtain ⟨a, rfl, hd⟩ := isDV_ok h1 r1 hx
    refine ⟨a, rfl, hd, EV.T.step h1 er1 p1 fun y S2 W2 H2 u e2 h2 er2 r2 p2 => ?_⟩
    refine EV.T.step h2 er2 p2 fun z S3 W3 H3 w e3 h3 er3 r3 p3 => ?_
    cases q : dictAt x y S3 with
    | none => simp only [q] at p3; exact p3.elim
    | some ov =>
      simp only [q] at p3
      obtain ⟨a', ov', ea, g, k⟩ := dictAt_ok h3 (Rep.ext e3 _ _ (Rep.ext e2 _ _ r1)) (Rep.ext e3 _ _ r2) q
      cases ea
      refine ⟨ov', g, ?_⟩
      rcases k with ⟨rfl, rfl⟩ | ⟨w', z', rfl, rfl, rk⟩
      · exact p3.here h3 r3
      · exact p3.here h3 rk
  · exact p1.elim

/-! ### displays of dicts -/
def aList : List ME → MA
  | [] => aNil
  | m :: r => aCons m (aList r)
def dTrs (X : Cx) (EX : WX) (ks : List Str) (ms : List ME) : List (TE × TE) := List.zipWith (fun k m => (tC (.str k), T X.K X.mg EX m)) ks ms
def DispS (X : Cx) (EX : WX) (pos : Pos) (keys : List (Option Expr)) (values : List Expr) (ks : List Str) (ms : List ME) : Prop := PPs X pos keys values (dTrs X EX ks ms) ∧ ks.length = ms.length
theorem ds_nil {pos : Pos} : DispS X EX pos [] [] [] [] := ⟨pps_nil, rfl⟩
theorem ds_cons {pos kp : Pos} {k : Str} {j} {keys : List (Option Expr)} {values : List Expr} {v : Expr} {ks : List Str} {m : ME} {ms : List ME} (hv : SE X EX v m) (h : DispS X EX pos keys values ks ms) :
    DispS X EX pos (some (.Constant (.str k) j kp) :: keys) (v :: values) (k :: ks) (m :: ms) := ⟨pps_cons pe_str hv h.1, by simp [h.2]⟩
def dispC (ks : List Str) (xs : List Vl) : List (Key × Vl) := List.zipWith (fun k x => (Sum.inr k, x)) ks xs
def mDisp (ks : List Str) (ms : List ME) : ME := fun ρ S => (aList ms ρ S).bind fun xs S1 => .ok (.r S1.length) (S1 ++ [.dk (mergeC [] (dispC ks xs))])
theorem tPairs_of : ∀ {ks : List Str} {ms : List ME} {W : Wd} {S : Sto} {H : Hp} {ρ : Nv} {σ : L2.St} {Q : List (V × V) → Hp → Prop}, ks.length = ms.length → HR X.K X.mg W S H → ER X.K W H ρ σ →
    PAr X.K X.mg EX W H σ (fun vs H' => Q (List.zipWith (fun k v => (V.str k, v)) ks vs) H') (aList ms ρ S) → tPairs (dTrs X EX ks ms) σ H Q
  | [], [], W, S, H, ρ, σ, Q, _, h, er, p => p W H [] .refl h .nil
  | k :: ks, m :: ms, W, S, H, ρ, σ, Q, hl, h, er, p => by
    show T X.K X.mg EX m σ H fun y H2 => tPairs (dTrs X EX ks ms) σ H2 fun ps H3 => Q ((.str k, y) :: ps) H3
    refine T.stepA h er p fun x S1 W1 H1 v e1 h1 er1 r1 p1 => ?_
    refine tPairs_of (by simpa using hl) h1 er1 ?_
    cases q : aList ms ρ S1 with
    | bad => rw [q] at p1; exact p1
    | exc z S2 => rw [q] at p1; exact p1
    | ok xs S2 =>
      rw [q] at p1
      intro W2 H2 vs e2 h2 r2
      exact p1 W2 H2 (v :: vs) e2 h2 (.cons (Rep.ext e2 _ _ r1) r2)
theorem dispK {K : PySem.W.Frag} {W : Wd} {H : Hp} : ∀ {ks : List Str} {vs : List V} {xs : List Vl}, RepA K W H vs xs → RepK K W H (List.zipWith (fun k v => (Sum.inr k, v)) ks vs) (dispC ks xs)
  | [], _, _, _ => by simp only [dispC, List.zipWith_nil_left]; exact .nil
  | k :: ks, _, _, .nil => .nil
  | k :: ks, _, _, .cons r t => .cons r (dispK t)
theorem zip_kV : ∀ (ks : List Str) (vs : List V), List.zipWith (fun k v => (V.str k, v)) ks vs = (List.zipWith (fun k v => ((Sum.inr k : Key), v)) ks vs).map fun kv => (kV kv.1, kv.2)
  | [], _ => by simp
  | k :: ks, [] => rfl
  | k :: ks, v :: vs => by
    rw [List.zipWith_cons_cons, List.zipWith_cons_cons, List.map_cons, zip_kV ks vs]
    rfl
theorem aList_mono {K : PySem.W.Frag} {mg : Str → Option Value} {W : Wd} {H : Hp} {σ : L2.St} {Q Q' : List V → Hp → Prop} {r : RA} (p : PAr K mg EX W H σ Q r) (k : ∀ xs S W' H' vs, r = .ok xs S → Ext W H W' H' → HR K mg W' S H' → RepA K W' H' vs xs → Q vs H' → Q' vs H') : PAr K mg EX W H σ Q' r := by
  cases r with
  | bad => exact p
  | exc z S => exact p
  | ok xs S => exact fun W' H' vs e h r => k xs S W' H' vs rfl e h r (p W' H' vs e h r)
theorem se_disp {pos : Pos} {keys : List (Option Expr)} {values : List Expr} {ks : List Str} {ms : List ME} (d : DispS X EX pos keys values ks ms) (hall : keys.all (·.isSome) = true := by rfl) (hl : keys.length = values.length := by rfl) (h0 : keys ≠ [] := by simp)
    (h15 : keys.length ≤ 15 := by decide) (hk : ks.length = keys.length := by rfl) : SE X EX (.Dict keys values pos) (mDisp ks ms) := by
  refine (pe_disp d.1 hall hl h0 h15).wk fun σ H Q h => ?_
  obtain ⟨W, S, ρ, h, er, p⟩ := h
  intro a ha
  obtain ⟨h1, e1⟩ := h.rsv (o := .dK []) ha
  refine tPairs_of d.2 h1 (er.ext e1) ?_
  unfold mDisp at p
  cases q : aList ms ρ S with
  | bad => rw [q] at p; exact p
  | exc z S2 => rw [q] at p; exact fun W' H' C dd e' h' k => p W' H' C dd (e1.trans e') h' k
  | ok xs S2 =>
    rw [q] at p
    simp only [RA.bind_ok] at p
    intro W2 H2 vs e2 h2 r2
    obtain ⟨hR, hD⟩ := e2.rs a (.inr rfl)
    rw [upd_same] at hD
    refine ⟨hD, List.zipWith (fun k v => (Sum.inr k, v)) ks vs, zip_kV ks vs, ?_, ?_⟩
    · rw [List.length_zipWith, hk]; omega
    · obtain ⟨h3, e3⟩ := h2.rput (o := .dK (mergeK [] (List.zipWith (fun k v => (Sum.inr k, v)) ks vs))) hR
      have ex : Ex0 W2 (upd H2 a (.dK (mergeK [] (List.zipWith (fun k v => (Sum.inr k, v)) ks vs)))) ((W2.free a).push a) (upd H2 a (.dK (mergeK [] (List.zipWith (fun k v => (Sum.inr k, v)) ks vs)))) := ⟨fun l b q => by
          have hl := (List.getElem?_eq_some_iff.mp q).1
          show (W2.M ++ [a])[l]? = some b
          rw [List.getElem?_append_left hl]; exact q, fun _ q => q, fun _ _ => rfl⟩
      obtain ⟨h4, e4⟩ := h3.cellOf (c := .dk (mergeC [] (dispC ks xs))) hR ⟨_, upd_same, RepK.merge (dispK (RepA.ext0 ex _ _ (RepA.ext0 e3 _ _ r2))) .nil⟩
      have e12 : Ext W H W2 (upd H2 a (.dK (mergeK [] (List.zipWith (fun k v => (Sum.inr k, v)) ks vs)))) := (e1.trans e2).put h h2 hR ha
      refine p _ _ (.ref a) ?_ h4 (.r ?_)
      · exact e12.cellOf h ha
      · show (W2.M ++ [a])[S2.length]? = some a
        rw [h2.len]; simp
end
end EV

/-! EvFn: what a def promises where no object's text is being told; calls; the law's own call. -/
namespace EV
open PySem PySem.Spec PyProof.Rows L2

structure FnG (P : Program) (w : World) (K : PySem.W.Frag) (mg : Str → Option Value) (base : Heap) (CX : CXT) (k : Nat) (f : Addr) (fd : FuncData) (ps : List Str) (sp : Sp) : Prop where
  arity : ∀ vs H Q E, sp vs H Q E → vs.length = ps.length
  runs : ∀ (A : Around) (outer : List Env) (s : Shared) (H : Hp) (args : Args) (us : List Value) (vs : List V) (Q : VK) (E : XK), Room k A → A.guards = some [] → Env0 P w K mg base A outer s H →
    BindsTo s fd args (ps.zip us) → Vals vs us → sp vs H Q E → codeAny (model P w) A (.call (.ref f) args) (CR CX outer P w H s Q E) s
theorem FnG.mono {P : Program} {w : World} {K : PySem.W.Frag} {mg : Str → Option Value} {base : Heap} {CX : CXT} {j k : Nat} {f : Addr} {fd : FuncData} {ps : List Str} {sp : Sp} (F : FnG P w K mg base CX j f fd ps sp) (h : j ≤ k) :
    FnG P w K mg base CX k f fd ps sp := ⟨F.arity, fun A outer s H args us vs Q E hr => F.runs A outer s H args us vs Q E (hr.mono h)⟩

section
variable {P : Program} {w : World} {K : PySem.W.Frag} {mg : Str → Option Value} {base : Heap}
/-- a def's promise, by its body -/
theorem fnG_of {CX : CXT} {x qual : Str} {st : Stmt} {f : Addr} {fd : FuncData} {N ps : List Str} {k : Nat} {sp : Sp} (F : Fun K x qual st f fd) (S : FnScope N ps (defScope st)) (ar : ∀ vs H Q E, sp vs H Q E → vs.length = ps.length)
    (body : ∀ (cdv : Value) (A : Around) (outer : List Env) (s : Shared) (H : Hp) (vs : List V) (Q : VK) (E : XK), Room k (A.deeper (envOfC qual (defScope st) s.heap.objs.size f cdv)) → (A.deeper (envOfC qual (defScope st) s.heap.objs.size f cdv)).guards = some [] → sp vs H Q E →
      ∃ t, PSs (cxOf CX P w K mg base N qual (defScope st) f cdv A outer s H E) (defBody st) t ∧ t { nx := fun _ H' => Q .non H', rt := Q } (start N vs) H) : FnG P w K mg base CX (k + 1) f fd ps sp := by
  obtain ⟨oc, od, kV, doc, pm, an, cdv, ct, osl, rfl, lk, hcd⟩ := F.ex
  refine ⟨ar, fun A outer s H args us vs Q E hr hgd e0 hb r hsp => ?_⟩
  have keep := fun b o e => (e0.bs b o e).1
  have KX : K.In s.heap := e0.mod.kin.keeps keep
  have cells : ∀ y ∈ ps.zip us, (defScope st).names.lookup y.1 = some .local ∨ ((defScope st).names.lookup y.1 = some .cell ∧ ((cellsFrom (s.heap.objs.size + 1) (defScope st).names []).lookup y.1).isSome = true) := fun y hy =>
    (S.par y.1 (List.of_mem_zip hy).1).imp _root_.id fun q => ⟨q, PySem.W.cellsFrom_some _ _ _ (.inl q)⟩
  refine codeAny_call_function hr.depth (KX _ _ lk) rfl S.co S.gen rfl (PySem.W.codeRec_of KX hcd) (hb _ _ _ _ ?_)
  refine wpAny_newFunctionEnv_cells S.kind cells fun env he s1 x => ?_
  subst he
  refine ⟨(e0.mod.nolimit.keeps keep).keeps x.toInCall.keep, codeAny_func ?_⟩
  obtain ⟨t, ht, hq⟩ := body cdv A outer s H vs Q E (hr.deeper _) hgd hsp
  have I := inv_start (E := E) (CX := CX) (cd := cdv) (qual := qual) S hr.hd e0 (ar _ _ _ _ hsp) r x
  refine wpAny_mono (ht.run [] s1 (start N vs) H _ I hq) (fun fl s' hs => ?_) fun e s' hs => hs
  cases fl with
  | ret u => obtain ⟨v, σ', H', J, rv, q⟩ := hs; exact ⟨v, H', J.os, J.bare, J.base, J.hok, rv, q⟩
  | next => obtain ⟨σ', H', J, q⟩ := hs; exact ⟨.non, H', J.os, J.bare, J.base, J.hok, rfl, q⟩
  | brk => obtain ⟨_, _, _, q⟩ := hs; exact q.elim
  | cont => obtain ⟨_, _, _, q⟩ := hs; exact q.elim
end
section
variable {X : Cx} {CX : CXT} {k : Nat} {f : Addr} {fd : FuncData} {ps : List Str} {sp : Sp} {E : XK} {x : Str} {p pos : Pos} {e : Expr} {es : List Expr} {t : TA}
theorem runG {pins : List (Addr × Obj)} {σ : L2.St} {H : Hp} {s : Shared} {Q : VK} {us : List Value} {vs : List V} (F : FnG X.prog X.w X.K X.mg X.base CX k f fd ps sp) (hr : Room k X.A) (gd : X.A.guards = some []) (hb : Binds X.K fd ps []) (hx : Passes CX X E)
    (I : Inv X pins σ H s) (r : Vals vs us) (h : sp vs H Q E) : wpAny (model X.prog X.w) X.A (call (.ref f) us) (EP X pins σ Q) X.xe s := by
  have hl : (us ++ ([] : List Value)).length = ps.length := by rw [List.append_nil, ← r.length]; exact F.arity _ _ _ _ h
  have hbd := hb s us I.kIn hl
  rw [List.append_nil] at hbd
  refine wpAny_call (codeAny_mono (F.runs X.A X.stack s H ⟨us, []⟩ us vs Q E hr gd I.env0 hbd r h) fun r s' hq => ?_)
  cases r with
  | error e => exact hx pins σ H s e s' I hq
  | ok fl => cases fl <;> first | exact I.after hq | exact False.elim hq
theorem pe_callG (F : FnG X.prog X.w X.K X.mg X.base CX k f fd ps sp) (hr : Room k X.A) (gd : X.A.guards = some []) (hg : Gl X x) (hm : X.mg x = some (.ref f)) (hk : PySem.W.keepIn X.K (.ref f) = true) (hb : Binds X.K fd ps []) (hx : Passes CX X E)
    (ha : PA X (e :: es) t) (hdb : (x == ("__debug__" : Str)) = false := by decide) (he : starEach (e :: es) X.env = (false, eval e X.env) :: starEach es X.env := by rfl) (hpl : (backTo pos (starEach es X.env)).any (·.1) = false := by rfl) :
    PE X (.Call (.Name x p) (e :: es) [] pos) (fun σ H Q => t σ H fun vs H1 => sp vs H1 Q E) := by
  refine ⟨fun pins s σ H Q I h => ?_⟩
  refine wpAny_Call_Name_kw (ld_glob I hg hm ?_ hdb)
  exact PySem.W.callWith_K (h₀ := X.base) I.ok.mod.kin hk (thn (ha.run pos pins s σ H _ I h) fun us s1 ⟨vs, H1, I1, r, q⟩ => ⟨I1.kIn, runG F hr gd hb hx I1 r q⟩) he hpl
theorem pe_callG0 (F : FnG X.prog X.w X.K X.mg X.base CX k f fd ps sp) (hr : Room k X.A) (gd : X.A.guards = some []) (hg : Gl X x) (hm : X.mg x = some (.ref f)) (hk : PySem.W.keepIn X.K (.ref f) = true) (hb : Binds X.K fd ps []) (hx : Passes CX X E)
    (hdb : (x == ("__debug__" : Str)) = false := by decide) : PE X (.Call (.Name x p) [] [] pos) (fun σ H Q => sp [] H Q E) := by
  refine ⟨fun pins s σ H Q I h => ?_⟩
  refine wpAny_Call_Name_kw (ld_glob I hg hm ?_ hdb)
  exact PySem.W.callWith_K0 I.kIn hk (runG (us := []) F hr gd hb hx I .nil h)
end

/-! ### what is forgotten of the store behind a call -/
mutual
def clV (n : Nat) : Vl → Bool
  | .d _ => true
  | .k _ => true
  | .q _ => true
  | .r l => decide (l < n)
  | .t xs => clA n xs
def clA (n : Nat) : List Vl → Bool
  | [] => true
  | x :: xs => clV n x && clA n xs
end
def clC (n : Nat) : Cell → Bool
  | .dead => true
  | .lst xs => clA n xs
  | .dk kvs => kvs.all fun kv => clV n kv.2
  | .dt kvs => kvs.all fun kv => clV n kv.2
  | .ins _ fs => fs.all fun kv => clV n kv.2
def cutS (n : Nat) (x : Vl) (S : Sto) : Sto := if clV n x && (S.take n).all (clC n) then S.take n else S
section
variable {K : PySem.W.Frag} {mg : Str → Option Value} {W : Wd} {S : Sto} {H : Hp} {n : Nat}
mutual
theorem Rep.tk : ∀ (x : Vl) (v : V), clV n x = true → Rep K W H v x → Rep K (W.tk n) H v x
  | .d x, _, _, h => by cases h with | d h => exact .d h
  | .k x, _, _, h => by cases h with | k h1 h2 => exact .k h1 h2
  | .q x, _, _, h => by cases h with | q h1 h2 => exact .q h1 h2
  | .r l, _, c, h => by
    cases h with | r h =>
    refine .r ?_
    show (W.M.take n)[l]? = _
    rw [List.getElem?_take_of_lt (of_decide_eq_true c)]
    exact h
  | .t xs, _, c, h => by cases h with | t h1 h2 => exact .t h1 (RepA.tk xs _ c h2)
theorem RepA.tk : ∀ (xs : List Vl) (vs : List V), clA n xs = true → RepA K W H vs xs → RepA K (W.tk n) H vs xs
  | [], _, _, h => by cases h; exact .nil
  | x :: xs, _, c, h => by
    cases h with | cons h1 h2 =>
    have c' : (clV n x && clA n xs) = true := c
    obtain ⟨c1, c2⟩ := Bool.and_eq_true_iff.mp c'
    exact .cons (Rep.tk x _ c1 h1) (RepA.tk xs _ c2 h2)
end
theorem RepK.tk {κ : Type} : ∀ {us : List (κ × V)} {xs : List (κ × Vl)}, (xs.all fun kv => clV n kv.2) = true → RepK K W H us xs → RepK K (W.tk n) H us xs
  | _, _, _, .nil => .nil
  | _, _, c, .cons h t => by
    rw [List.all_cons] at c
    obtain ⟨c1, c2⟩ := Bool.and_eq_true_iff.mp c
    exact .cons (Rep.tk _ _ c1 h) (RepK.tk c2 t)
theorem CRep.tk {a : Addr} {c : Cell} (h : clC n c = true) (q : CRep K mg W H a c) : CRep K mg (W.tk n) H a c := by
  cases c with
  | dead => trivial
  | lst xs => obtain ⟨vs, h1, h2⟩ := q; exact ⟨vs, h1, RepA.tk _ _ h h2⟩
  | dk xs => obtain ⟨vs, h1, h2⟩ := q; exact ⟨vs, h1, h2.tk h⟩
  | dt xs => obtain ⟨vs, h1, h2⟩ := q; exact ⟨vs, h1, h2.tk h⟩
  | ins C fs => obtain ⟨c, dx, us, h0, h1, h2⟩ := q; exact ⟨c, dx, us, h0, h1, h2.tk h⟩
theorem HR.tk (h : HR K mg W S H) (c : (S.take n).all (clC n) = true) : HR K mg (W.tk n) (S.take n) H where
  len := by show (S.take n).length = (W.M.take n).length; rw [List.length_take, List.length_take, h.len]
  nd := h.nd.sublist (List.take_sublist _ _)
  cell := fun l c' a h1 h2 => by
    have h2 : (W.M.take n)[l]? = some a := h2
    have hl : l < n := by
      have := (List.getElem?_eq_some_iff.mp h1).1
      rw [List.length_take] at this
      omega
    have hc := List.all_eq_true.mp c c' (List.mem_of_getElem? h1)
    rw [List.getElem?_take_of_lt hl] at h1 h2
    exact (h.cell l c' a h1 h2).tk hc
  live := fun l c' a h1 h2 => by
    have h2 : (W.M.take n)[l]? = some a := h2
    have hl : l < n := by
      have := (List.getElem?_eq_some_iff.mp h1).1
      rw [List.length_take] at this
      omega
    rw [List.getElem?_take_of_lt hl] at h1 h2
    exact h.live l c' a h1 h2
  have_ := h.have_
  mem := fun a q => h.mem a (List.mem_of_mem_take q)
  res := fun a q => let ⟨r1, r2, r3⟩ := h.res a q; ⟨r1, r2, fun z => r3 (List.mem_of_mem_take z)⟩
end
/-- behind a call: the end's store, cut or not -/
theorem cut_ok {K : PySem.W.Frag} {mg : Str → Option Value} {W W1 : Wd} {H H1 : Hp} {S S1 : Sto} {x : Vl} {v : V} (h0 : HR K mg W S H) (e : Ext W H W1 H1) (h : HR K mg W1 S1 H1) (r : Rep K W1 H1 v x) :
    ∃ W2, Ext W H W2 H1 ∧ HR K mg W2 (cutS S.length x S1) H1 ∧ Rep K W2 H1 v x := by
  unfold cutS
  split
  · rename_i c
    obtain ⟨c1, c2⟩ := Bool.and_eq_true_iff.mp c
    refine ⟨W1.tk S.length, ⟨fun l a q => ?_, e.fz, e.st, e.rs⟩, h.tk c2, Rep.tk _ _ c1 r⟩
    have hl := (List.getElem?_eq_some_iff.mp q).1
    show (W1.M.take S.length)[l]? = some a
    rw [List.getElem?_take_of_lt (by rw [h0.len]; exact hl)]
    exact e.pre l a q
  · exact ⟨W1, e, h, r⟩

/-! ### a def as a function of values and store -/
def envAt (k : Nat) (xs : List Vl) : Nv := xs.map some ++ List.replicate (k - xs.length) none
/-- a def that raises nothing -/
def spM (body : MS) (k : Nat) (xs : List Vl) (S : Sto) : RE := match body (envAt k xs) S with
  | .ret x S' => .ok x (cutS S.length x S')
  | .nx _ S' => .ok (.d .none) (cutS S.length (.d .none) S')
  | _ => .bad
def spG (K : PySem.W.Frag) (mg : Str → Option Value) (m : List Vl → Sto → RE) (n : Nat) : Sp := fun vs H Q _ => vs.length = n ∧ ∃ W S xs, HR K mg W S H ∧ RepA K W H vs xs ∧ PV K mg E0x W H [] Q (m xs S)
theorem er_start {K : PySem.W.Frag} {W : Wd} {H : Hp} {vs : List V} {xs : List Vl} (N : List Str) (r : RepA K W H vs xs) : ER K W H (envAt N.length xs) (L2.start N vs) := by
  unfold envAt L2.start
  refine ⟨by simp [r.length], fun i x q => ?_⟩
  by_cases hi : i < xs.length
  · rw [List.getElem?_append_left (by simpa using hi), List.getElem?_map] at q
    rw [List.getElem?_append_left (by simpa [r.length] using hi), List.getElem?_map]
    cases e : xs[i]? with
    | none => rw [e] at q; cases q
    | some y =>
      rw [e] at q
      cases q
      obtain ⟨v, h1, h2⟩ := r.get' e
      exact ⟨v, by rw [h1]; rfl, h2⟩
  · rw [List.getElem?_append_right (by simpa using hi), List.getElem?_replicate] at q
    split at q <;> cases q
section
variable {P : Program} {w : World} {K : PySem.W.Frag} {mg : Str → Option Value} {base : Heap}
theorem fnG0 {x qual : Str} {st : Stmt} {f : Addr} {fd : FuncData} {N ps : List Str} {k : Nat} {m : MS} (F : Fun K x qual st f fd) (S : FnScope N ps (defScope st))
    (body : ∀ (cdv : Value) (A : Around) (outer : List Env) (s : Shared) (H : Hp) (E : XK), Room k (A.deeper (envOfC qual (defScope st) s.heap.objs.size f cdv)) → (A.deeper (envOfC qual (defScope st) s.heap.objs.size f cdv)).guards = some [] →
      SSs (cxOf CX0 P w K mg base N qual (defScope st) f cdv A outer s H E).nox E0x (defBody st) m) : FnG P w K mg base CX0 (k + 1) f fd ps (spG K mg (spM m N.length) ps.length) := by
  refine fnG_of F S (fun vs H Q E h => h.1) fun cdv A outer s H vs Q E hr gd h => ⟨_, (body cdv A outer s H E hr gd).nox, ?_⟩
  obtain ⟨hl, W, S0, xs, h, r, p⟩ := h
  refine ⟨W, S0, envAt N.length xs, h, er_start N r, ?_⟩
  unfold spM at p
  cases q : m (envAt N.length xs) S0 with
  | nx ρ' S' =>
    rw [q] at p
    intro W' H' σ' e' h' er'
    obtain ⟨W2, e2, h2, r2⟩ := cut_ok h e' h' (.d .non)
    exact p W2 H' _ e2 h2 r2
  | ret y S' =>
    rw [q] at p
    intro W' H' v e' h' rv
    obtain ⟨W2, e2, h2, r2⟩ := cut_ok h e' h' rv
    exact p W2 H' _ e2 h2 r2
  | bk _ _ => rw [q] at p; exact p.elim
  | ct _ _ => rw [q] at p; exact p.elim
  | exc _ _ _ => rw [q] at p; exact p.elim
  | bad => rw [q] at p; exact p.elim
end
/-- a def that may be called -/
structure CalG (P : Program) (w : World) (K : PySem.W.Frag) (mg : Str → Option Value) (base : Heap) (k : Nat) (x : Str) (m : List Vl → Sto → RE) (n : Nat) : Prop where
  ex : ∃ (f : Addr) (fd : FuncData) (ps : List Str), FnG P w K mg base CX0 k f fd ps (spG K mg m n) ∧ mg x = some (.ref f) ∧ PySem.W.keepIn K (.ref f) = true ∧ Binds K fd ps []
def RE.ok' (r : RE) : RE := match r with
  | .ok x S => .ok x S
  | _ => .bad
@[simp] theorem RE.ok'_ok (x : Vl) (S : Sto) : (RE.ok x S).ok' = .ok x S := rfl
@[simp] theorem RE.ok'_bad : RE.bad.ok' = .bad := rfl
def mCall (n : Nat) (m : List Vl → Sto → RE) (as : MA) : ME := fun ρ S => (as ρ S).bind fun xs S1 => if xs.length = n then (m xs S1).ok' else .bad
section
variable {X : Cx} {EX : WX} {k j n : Nat} {x : Str} {p pos : Pos} {e : Expr} {es : List Expr} {m : List Vl → Sto → RE} {as : MA}
theorem ok_spG {W : Wd} {S : Sto} {H : Hp} {xs : List Vl} {vs : List V} {σ : L2.St} {Q : VK} (h : HR X.K X.mg W S H) (r : RepA X.K W H vs xs) (p : PV X.K X.mg EX W H σ Q (if xs.length = n then (m xs S).ok' else .bad)) : spG X.K X.mg m n vs H Q E0 := by
  split at p
  · rename_i hl
    refine ⟨by rw [r.length]; exact hl, W, S, xs, h, r, ?_⟩
    cases q : m xs S with
    | ok y S' => rw [q] at p; exact p
    | exc _ _ => rw [q] at p; exact p.elim
    | bad => rw [q] at p; exact p.elim
  · exact p.elim
theorem se_call (c : CalG X.prog X.w X.K X.mg X.base k x m n) (hr : Room j X.A) (hk : k ≤ j) (gd : X.A.guards = some []) (hg : Gl X x) (ha : SA X EX (e :: es) as)
    (hdb : (x == ("__debug__" : Str)) = false := by decide) (he : starEach (e :: es) X.env = (false, eval e X.env) :: starEach es X.env := by rfl) (hpl : (backTo pos (starEach es X.env)).any (·.1) = false := by rfl) :
    SE X EX (.Call (.Name x p) (e :: es) [] pos) (mCall n m as) := by
  obtain ⟨f, fd, ps, F, hm, kp, b⟩ := c.ex
  refine (pe_callG F (hr.mono hk) gd hg hm kp b pass0 ha hdb he hpl).wk fun σ H Q h => ?_
  obtain ⟨W, S, ρ, h, er, p⟩ := h
  exact TAr.step h er p fun xs S1 W1 H1 vs e1 h1 er1 r1 p1 => ok_spG h1 r1 p1
theorem se_call0 (c : CalG X.prog X.w X.K X.mg X.base k x m n) (hr : Room j X.A) (hk : k ≤ j) (gd : X.A.guards = some []) (hg : Gl X x) (hdb : (x == ("__debug__" : Str)) = false := by decide) :
    SE X EX (.Call (.Name x p) [] [] pos) (mCall n m aNil) := by
  obtain ⟨f, fd, ps, F, hm, kp, b⟩ := c.ex
  refine (pe_callG0 F (hr.mono hk) gd hg hm kp b pass0 hdb).wk fun σ H Q h => ?_
  obtain ⟨W, S, ρ, h, er, p⟩ := h
  exact ok_spG h .nil p
end
end EV

/-! EvEnd: the law's own call. -/
namespace EV
open PySem PySem.Spec PyProof.Rows L2
/-- the law is called, nobody telling an object's text -/
theorem lawG {P : Program} {w : World} {K : PySem.W.Frag} {mg mb : Str → Option Value} {k : Nat} {fa a : Addr} {fd : FuncData} {x : Str} {sp : Sp} {s₁ : Shared} {vs : List Value} {ns : List Int}
    (KX : K.In s₁.heap) (hns : s₁.heap.Ns mainGlobals mg) (hb : s₁.heap.Ns builtinsNs mb) (hbb : ∀ x : Str, x ≠ "__name__" → mb x = bootBuiltins x) (hlim : s₁.heap.NoLimit) (hg : s₁.gens = #[])
    (ha : s₁.heap.get? a = some { cls := .type "list", data := .seq vs.toArray }) (hi : IntsAre vs ns) (hl : ns.length ≤ sizeLine) (hr : Room k callerA)
    (F : ∀ base : Heap, K.In base → base.Ns mainGlobals mg → FnG P w K mg base CX0 k fa fd [x] sp) (hbind : ∀ (s : Shared) (u : Value), BindsTo s fd ⟨[u], []⟩ [(x, u)])
    (hsp : ∀ (H : Hp) (F : Addr → Prop), (∀ b, F b → H b ≠ none) → SqF K F H a (ns.map V.int) → sp [.ref a] H (fun v _ => v = .bl true) E0) :
    codeAny (model P w) callerA (.call (.ref fa) ⟨[.ref a], []⟩) (fun r s' => r = .ok (.ret (.bool true)) ∧ OldK s₁.heap s'.heap ∧ s'.os = s₁.os ∧ AllBare s'.gens) s₁ := by
  have rv := vals_ints hi
  -- T: what is tracked at the start, the script or nothing
  have go : ∀ (T : Hp) (F0 : Addr → Prop), (∀ b, F0 b → T b ≠ none) → SqF K F0 T a (ns.map V.int) → HOk P w T s₁.heap → (∀ b u, T b = some u → b = a ∧ K.lookup a = none ∧ ∃ o ys, u = .frz o (.lst ys)) →
      codeAny (model P w) callerA (.call (.ref fa) ⟨[.ref a], []⟩) (fun r s' => r = .ok (.ret (.bool true)) ∧ OldK s₁.heap s'.heap ∧ s'.os = s₁.os ∧ AllBare s'.gens) s₁ := by
    intro T F0 hF hS hok hT
    have vis : ∀ {b : Addr} {o : Obj}, s₁.heap.get? b = some o → T b = none → (hidT s₁.heap T).get? b = some o := fun e n => hidT_get e n
    have ns1 : ∀ {b : Addr} {m : Str → Option Value}, s₁.heap.Ns b m → (hidT s₁.heap T).Ns b m := by
      rintro b m ⟨o, es, ep, e, d, r⟩
      refine ⟨o, es, ep, vis e ?_, d, r⟩
      cases q : T b with
      | none => rfl
      | some u =>
        obtain ⟨rfl, _⟩ := hT b u q
        rw [ha] at e
        cases e
        exact absurd d (by intro z; cases z)
    have kin : K.In (hidT s₁.heap T) := fun b o e => vis (KX b o e) (by
      cases q : T b with
      | none => rfl
      | some u =>
        obtain ⟨rfl, h2, _⟩ := hT b u q
        rw [h2] at e
        cases e)
    obtain ⟨mc, l1, l2⟩ := hlim
    have e0 : Env0 P w K mg (hidT s₁.heap T) callerA [] s₁ T := ⟨rfl, ⟨kin, ns1 hns, ⟨mb, ns1 hb, hbb⟩, mc, ns1 l1, l2⟩, fun b o e => of_hidT e, Nat.le_of_eq (hidT_size _ _), trivial, fun b hb => (List.not_mem_nil hb).elim, hok, .of_eq hg⟩
    refine codeAny_mono ((F _ kin (ns1 hns)).runs callerA [] s₁ T ⟨[.ref a], []⟩ [.ref a] [.ref a] _ _ hr rfl e0 (hbind s₁ (.ref a)) (.cons rfl .nil) (hsp T F0 hF hS)) fun r s' h => ?_
    cases r with
    | error e => exact h.elim
    | ok fl =>
      cases fl with
      | ret u =>
        obtain ⟨v, H', os, bare, un, hok', r', q⟩ := h
        have q : v = .bl true := q
        subst q
        obtain rfl : u = Value.bool true := r'
        refine ⟨rfl, OldK.of_keep fun b o e => ?_, os, bare⟩
        cases q : T b with
        | none => exact un.keep b o e q (fun z => (List.not_mem_nil z).elim) (by simp)
        | some t =>
          obtain ⟨_, _, ob, ys, rfl⟩ := hT b t q
          have e1 := (hok b _ q).1
          have e2 := (hok' b _ (un.frzs b ob _ q)).1
          rw [e] at e1
          cases e1
          exact e2
      | next => exact False.elim h
      | brk => exact False.elim h
      | cont => exact False.elim h
  cases hk : K.lookup a with
  | some o =>
    have e := KX a o hk
    rw [ha] at e
    cases e
    exact go (fun _ => none) (fun _ => False) (fun _ z => z.elim) (.inl ⟨_, vs.toArray, _, hk, rfl, rfl, rfl, by rw [List.size_toArray, hi.length]; exact hl, by simpa using rv⟩) (fun b u z => nomatch z) fun b u z => nomatch z
  | none =>
    have only : ∀ b u, (if b = a then some (HO.frz { cls := .type "list", data := .seq vs.toArray } (.lst (ns.map V.int))) else none) = some u → b = a ∧ u = .frz { cls := .type "list", data := .seq vs.toArray } (.lst (ns.map V.int)) := fun b u z => by
      by_cases hb : b = a
      · rw [if_pos hb] at z; cases z; exact ⟨hb, rfl⟩
      · rw [if_neg hb] at z; cases z
    refine go (fun b => if b = a then some (.frz { cls := .type "list", data := .seq vs.toArray } (.lst (ns.map V.int))) else none) (fun b => b = a) (fun b hb => by simp [hb]) (.inr ⟨rfl, .inr ⟨_, if_pos rfl⟩⟩) (fun b u z => ?_) fun b u z => ?_
    · obtain ⟨rfl, rfl⟩ := only b u z
      exact ⟨ha, by rw [List.length_map]; exact hl, vs, _, rv, ha⟩
    · obtain ⟨rfl, rfl⟩ := only b u z
      exact ⟨rfl, hk, _, _, rfl⟩
theorem FdA.ints {F : Addr → Prop} {H : Hp} : ∀ ns : List Int, FdA F H (ns.map V.int) (ns.map PyData.int)
  | [] => .nil
  | n :: ns => .cons (.int n) (FdA.ints ns)
theorem walkG {l : PySem.W.OpenLaw} {n k : Nat} {q : Program} {loose : List Str} {XP : (Str → Option Value) → Heap → Prop} {YP : World → Heap → Prop} {d : DefRec} {K : Params → PySem.W.Frag} {x : Str} {m : List Vl → Sto → RE}
    (hn : l.most = some n) (hn2 : n ≤ sizeLine) (hdf : d.params.defaults = []) (hr : Room k callerA) (hY : ∀ (w : World) (h : Heap), YP w h → (K w.params).In h)
    (F : ∀ (w : World) (mg : Str → Option Value) (fa : Addr) (h : Heap), (K w.params).In h → h.Ns mainGlobals mg → mg d.name = some (.ref fa) →
      ∃ fd : FuncData, (∀ (s : Shared) (u : Value), BindsTo s fd ⟨[u], []⟩ [(x, u)]) ∧ ∀ base : Heap, (K w.params).In base → base.Ns mainGlobals mg → FnG l.prog w (K w.params) mg base CX0 k fa fd [x] (spG (K w.params) mg m 1))
    (law : ∀ ns : List Int, ns.length ≤ n → ∃ S', m [.q (ns.map .int)] [] = .ok (.d (.bool true)) S') :
    PySem.W.WalkO q loose XP YP l.row.toRowW d [] (fun f vs => PySem.call f vs) := by
  refine Att.attach_call hn hdf fun w s₀ s₁ mg mb fa o pm cd doc a vs ns G Y ho hd hcd hmg hobj hints hlen hg => ?_
  have KX := hY w _ Y
  obtain ⟨fd, hb, hF⟩ := F w mg fa _ KX G.T.g hmg
  refine lawG KX G.T.g G.T.b G.T.builtins G.T.nolimit hg hobj hints (Nat.le_trans hlen hn2) hr hF hb fun H F0 h0 hS => ?_
  obtain ⟨S', e⟩ := law ns hlen
  refine ⟨rfl, ⟨[], F0, fun _ => False⟩, [], [.q (ns.map .int)], ⟨rfl, List.nodup_nil, fun l c a q => by simp at q, fun l c a q => by simp at q, h0, fun a q => by simp at q, fun a q => q.elim⟩, .cons (.q hS (FdA.ints ns)) .nil, ?_⟩
  rw [e]
  intro W' H' v _ _ r
  cases r with | d r =>
  cases r
  rfl

end EV

/-! EvMore: repr; two names at once. -/
namespace EV
open PySem PySem.Spec PyProof.Rows L2
section
variable {X : Cx} {EX : WX}
def reprOk (d : PyData) : Bool := d.canLay0 && d.showable && !d.hasDict && decide (d.depth ≤ 40) && decide (d.shown.length ≤ 1000000)
def reprV (x : Vl) (S : Sto) : RE := match view x S with
  | some d => if reprOk d then .ok (.d (.str d.shown)) S else .bad
  | none => .bad
theorem call_reprD (gd : X.A.guards = some []) (hu : X.A.units + 64 < cLine) : CallR X (.builtin "repr") (fun xs H Q => ∃ x d, xs = [x] ∧ Dp X.K H x d ∧ reprOk d = true ∧ Q (.str d.shown) H) := by
  intro pins s σ H xs us Q I r q
  obtain ⟨x, d, rfl, hd, ok, q⟩ := q
  obtain ⟨u, rfl, rx⟩ := vals1 r
  obtain ⟨as, rd⟩ := Dp.reads I d x u hd rx
  unfold reprOk at ok
  simp only [Bool.and_eq_true, Bool.not_eq_true', decide_eq_true_eq] at ok
  obtain ⟨⟨⟨⟨k1, k2⟩, k3⟩, k4⟩, k5⟩ := ok
  have hz : d.shown.length ≤ sizeLine := by rw [sizeLine_eq]; omega
  have done : ∀ h' (u : Tok) (tk : Nat), (∀ b o, s.heap.get? b = some o → h'.get? b = some o) → EP X pins σ Q (.str d.shown u) { s with heap := h', toks := tk } := fun h' u tk hk => ⟨.str d.shown, H, I.kept (t' := tk) hk, ⟨u, rfl⟩, q⟩
  have atRef : ∀ a, u = .ref a → wpAny (model X.prog X.w) X.A (call (.builtin "repr") [u]) (EP X pins σ Q) X.xe s := fun a e => by
    subst e
    exact repr_of_reads' rd k2 (fun z => by rw [k3] at z; cases z) gd (by omega) (fun _ _ e => e) (fun h' u tk hk => done h' u tk hk) hz
  cases hd with
  | non => cases rx; exact PySem.P.repr_of_none (done s.heap _ _ fun _ _ e => e)
  | bl b => cases rx; exact PySem.P.repr_of_bool (done s.heap _ _ fun _ _ e => e)
  | int i =>
    obtain ⟨t, rfl⟩ := rx
    exact PySem.P.repr_of_int (of_decide_eq_true k2) (done s.heap _ _ fun _ _ e => e)
  | str z =>
    obtain ⟨t, rfl⟩ := rx
    exact PySem.P.repr_of_str (done s.heap _ _ fun _ _ e => e) hz
  | lst h1 h2 => exact atRef _ rx
  | tup h1 h2 => exact atRef _ rx
theorem blt_repr (gd : X.A.guards = some []) (hu : X.A.units + 64 < cLine) : BltS X EX (.builtin "repr") (one reprV) := by
  refine blt1 (call_reprD gd hu) fun W S H σ x v Q h r p => ?_
  unfold reprV at p
  split at p
  · rename_i d e
    split at p
    · rename_i ok
      have c : d.canLay0 = true := by
        unfold reprOk at ok
        simp only [Bool.and_eq_true] at ok
        exact ok.1.1.1.1
      exact ⟨v, d, rfl, view_dp h r e c, ok, p.hereD h (.str _)⟩
    · exact p.elim
  · exact p.elim
/-! ### a, b = x, y -/
variable {i j : Nat} {x y : Str} {a b : Expr} {as : MA} {px py pt pos : Pos} {kt k2 : _} {pt2 : Pos}
theorem ss_par (i j : Nat) (hc : X.calm = true) (hN : X.N.Nodup) (ha : SA X EX [a, b] as) (hi : X.N[i]? = some x := by rfl) (hj : X.N[j]? = some y := by rfl) (hij : i ≠ j := by decide)
    (hx : X.env.scope.names.lookup x = some .local := by rfl) (hy : X.env.scope.names.lookup y = some .local := by rfl) (hw : swappedStores [.Tuple [.Name x px, .Name y py] kt pt] (.Tuple [a, b] k2 pt2) X.env = pure (some [x, y]) := by rfl)
    (hs : swapsWithSole [.Tuple [.Name x px, .Name y py] kt pt] (.Tuple [a, b] k2 pt2) pos.line X.env = pure false := by rfl) : SS X EX (.Assign [.Tuple [.Name x px, .Name y py] kt pt] (.Tuple [a, b] k2 pt2) pos) (sPar i j as) := by
  refine (ps_par hc hN hi hj hij hx hy ha hw hs).wk fun D σ H h => ?_
  obtain ⟨W, S, ρ, h, er, p⟩ := h
  refine ⟨W, S, ρ, h, er, ?_⟩
  unfold sPar at p
  cases q : as ρ S with
  | bad => rw [q] at p; exact p.elim
  | exc z S1 => rw [q] at p; exact fun W' H' C d e1 h1 q1 => p W' H' σ C d e1 h1 (er.ext e1) q1
  | ok xs S1 =>
    rw [q] at p
    intro W1 H1 vs e1 h1 r1
    split at p
    · rename_i u v S2 heq
      cases heq
      cases r1 with | cons r1 r2 =>
      cases r2 with | cons r2 r3 =>
      cases r3
      exact ⟨_, _, rfl, p W1 H1 _ e1 h1 (((er.ext e1).set r1 i).set r2 j)⟩
    · exact p.elim
    · rename_i heq; cases heq
    · exact p.elim
/-! ### an expression or a statement that is never reached -/
theorem se_never {e : Expr} : SE X EX e (fun _ _ => .bad) := ⟨fun _ _ _ _ _ _ ⟨_, _, _, _, _, p⟩ => p.elim⟩
end
end EV

/-! EvCon: constants of the module. -/
namespace EV
open PySem PySem.Spec PyProof.Rows L2
def mBad : ME := fun _ _ => .bad
def mK (ds : List PyData) : ME := fun _ S => .ok (.k ds) S
def ConS (mg : Str → Option Value) (x : Str) (d : PyData) : Prop := ∃ u v, mg x = some u ∧ RelV v u ∧ Fd (fun _ => False) (fun _ => none) v d
def ConT (K : PySem.W.Frag) (mg : Str → Option Value) (x : Str) (ds : List PyData) : Prop := ∃ a vs, mg x = some (.ref a) ∧ KTup K a vs ∧ FdA (fun _ => False) (fun _ => none) vs ds
section
variable {X : Cx} {EX : WX} {x : Str} {pos : Pos} {d : PyData} {ds : List PyData}
theorem se_nv {e : Expr} : SE X EX e mBad := se_never
theorem se_con (h : ConS X.mg x d) (hg : Gl X x) (hd : (x == ("__debug__" : Str)) = false := by decide) : SE X EX (.Name x pos) (mC d) := by
  obtain ⟨u, v, hm, r, c⟩ := h
  exact se_glob hg hm r c hd
theorem se_conT (h : ConT X.K X.mg x ds) (hg : Gl X x) (hd : (x == ("__debug__" : Str)) = false := by decide) : SE X EX (.Name x pos) (mK ds) := by
  obtain ⟨a, vs, hm, hk, c⟩ := h
  refine (pe_glob (v := .ref a) hg hm rfl hd).wk fun σ H Q ⟨W, _, _, h, _, p⟩ => ?_
  exact p.here h (.k hk (FdA.st (fun _ z => z.elim) (fun _ z => z.elim) _ _ c))
theorem conS_int {mg : Str → Option Value} {i : Int} {t : Tok} (h : mg x = some (.int i t)) : ConS mg x (.int i) := ⟨_, .int i, h, ⟨t, rfl⟩, .int i⟩
theorem conS_str {mg : Str → Option Value} {z : Str} {t : Tok} (h : mg x = some (.str z t)) : ConS mg x (.str z) := ⟨_, .str z, h, ⟨t, rfl⟩, .str z⟩
/-- flat data as values -/
def flatVs : List PyData → Option (List V)
  | [] => some []
  | .int i :: r => (flatVs r).map (V.int i :: ·)
  | .str z :: r => (flatVs r).map (V.str z :: ·)
  | _ => none
theorem flatVs_ok : ∀ {ds : List PyData} {vs : List V}, flatVs ds = some vs → FdA (fun _ => False) (fun _ => none) vs ds
  | [], _, e => by cases e; exact .nil
  | .int i :: r, _, e => by
    simp only [flatVs, Option.map_eq_some_iff] at e
    obtain ⟨us, e1, rfl⟩ := e
    exact .cons (.int i) (flatVs_ok e1)
  | .str i :: r, _, e => by
    simp only [flatVs, Option.map_eq_some_iff] at e
    obtain ⟨us, e1, rfl⟩ := e
    exact .cons (.str i) (flatVs_ok e1)
theorem conT_of {K : PySem.W.Frag} {mg : Str → Option Value} {a : Addr} {its : Array Value} {n : Nat} {sl : Array (Option Value)} {vs : List V} (h : mg x = some (.ref a)) (l : K.lookup a = some ⟨.type "tuple", none, .seq its n, sl⟩)
    (hz : its.size ≤ sizeLine) (r : Vals vs its.toList) (f : flatVs ds = some vs) : ConT K mg x ds := ⟨a, vs, h, ⟨_, its, n, l, rfl, rfl, rfl, hz, r⟩, flatVs_ok f⟩
end
end EV

/-! EvSort: rising rows, each one once or as often as it is told. -/
namespace EV
open PySem PySem.Spec PyProof.Rows L2
structure Lt {α : Type} (lt : α → α → Bool) : Prop where
  irr : ∀ a, lt a a = false
  tr : ∀ a b c, lt a b = true → lt b c = true → lt a c = true
  tri : ∀ a b, lt a b = false → lt b a = false → a = b
section
variable {α : Type} [DecidableEq α] {lt : α → α → Bool}
def insU (lt : α → α → Bool) (z : α) : List α → List α
  | [] => [z]
  | y :: r => if z = y then y :: r else if lt z y then z :: y :: r else y :: insU lt z r
def sortU (lt : α → α → Bool) (zs : List α) : List α := zs.foldr (insU lt) []
def insD (lt : α → α → Bool) (z : α) : List α → List α
  | [] => [z]
  | y :: r => if lt y z then y :: insD lt z r else z :: y :: r
def sortD (lt : α → α → Bool) (zs : List α) : List α := zs.foldr (insD lt) []
theorem insU_mem (z : α) : ∀ (l : List α) (x : α), x ∈ insU lt z l ↔ x = z ∨ x ∈ l
  | [], x => by simp [insU]
  | y :: r, x => by
    have ih := insU_mem z r x
    unfold insU
    split
    · rename_i e; subst e; simp
    · split
      · simp
      · simp only [List.mem_cons, ih]
        constructor
        · rintro (h | h | h) <;> simp [h]
        · rintro (h | h | h) <;> simp [h]
theorem insU_up (o : Lt lt) (z : α) : ∀ l : List α, l.Pairwise (fun a b => lt a b = true) → (insU lt z l).Pairwise (fun a b => lt a b = true)
  | [], _ => by simp [insU]
  | y :: r, h => by
    obtain ⟨h1, h2⟩ := List.pairwise_cons.mp h
    have ih := insU_up o z r h2
    unfold insU
    split
    · exact h
    · rename_i ne
      split
      · rename_i e
        refine List.pairwise_cons.mpr ⟨fun x hx => ?_, h⟩
        rcases List.mem_cons.mp hx with rfl | hx
        · exact e
        · exact o.tr _ _ _ e (h1 x hx)
      · rename_i e
        refine List.pairwise_cons.mpr ⟨fun x hx => ?_, ih⟩
        rcases (insU_mem z r x).mp hx with rfl | hx
        · cases q : lt y x with
          | true => rfl
          | false => exact absurd (o.tri x y (by simpa using e) q) ne
        · exact h1 x hx
theorem sortU_mem (zs : List α) (x : α) : x ∈ sortU lt zs ↔ x ∈ zs := by
  induction zs with
  | nil => simp [sortU]
  | cons z zs ih =>
    show x ∈ insU lt z (sortU lt zs) ↔ _
    rw [insU_mem, ih, List.mem_cons]
theorem sortU_up (o : Lt lt) (zs : List α) : (sortU lt zs).Pairwise (fun a b => lt a b = true) := by
  induction zs with
  | nil => exact List.Pairwise.nil
  | cons z zs ih => exact insU_up o z _ ih
theorem up_nodup (o : Lt lt) {l : List α} (h : l.Pairwise (fun a b => lt a b = true)) : l.Nodup :=
  h.imp fun {a b} q e => by rw [e, o.irr] at q; cases q
theorem up_one (o : Lt lt) : ∀ {l1 l2 : List α}, l1.Pairwise (fun a b => lt a b = true) → l2.Pairwise (fun a b => lt a b = true) → (∀ x, x ∈ l1 ↔ x ∈ l2) → l1 = l2
  | [], [], _, _, _ => rfl
  | [], b :: r, _, _, h => by have := (h b).mpr List.mem_cons_self; cases this
  | a :: r, [], _, _, h => by have := (h a).mp List.mem_cons_self; cases this
  | a :: l1, b :: l2, h1, h2, h => by
    obtain ⟨p1, p2⟩ := List.pairwise_cons.mp h1
    obtain ⟨q1, q2⟩ := List.pairwise_cons.mp h2
    have e : a = b := by
      rcases List.mem_cons.mp ((h a).mp List.mem_cons_self) with e | e
      · exact e
      · rcases List.mem_cons.mp ((h b).mpr List.mem_cons_self) with e2 | e2
        · exact e2.symm
        · have z := o.tr _ _ _ (q1 a e) (p1 b e2)
          rw [o.irr] at z
          cases z
    subst e
    have n1 : a ∉ l1 := fun z => by have := p1 a z; rw [o.irr] at this; cases this
    have n2 : a ∉ l2 := fun z => by have := q1 a z; rw [o.irr] at this; cases this
    rw [up_one o p2 q2 fun x => by
      have := h x
      rw [List.mem_cons, List.mem_cons] at this
      constructor
      · intro z
        rcases this.mp (.inr z) with e | e
        · subst e; exact absurd z n1
        · exact e
      · intro z
        rcases this.mpr (.inr z) with e | e
        · subst e; exact absurd z n2
        · exact e]
theorem sortU_is (o : Lt lt) {l zs : List α} (h : l.Pairwise (fun a b => lt a b = true)) (m : ∀ x, x ∈ l ↔ x ∈ zs) : l = sortU lt zs :=
  up_one o h (sortU_up o zs) fun x => (m x).trans (sortU_mem zs x).symm
theorem sortU_len (zs : List α) : (sortU lt zs).length ≤ zs.length := by
  have ins : ∀ (z : α) (l : List α), (insU lt z l).length ≤ l.length + 1 := by
    intro z l
    induction l with
    | nil => simp [insU]
    | cons y r ih =>
      unfold insU
      split
      · simp
      · split
        · simp
        · simp only [List.length_cons]; omega
  induction zs with
  | nil => simp [sortU]
  | cons z zs ih =>
    have := ins z (sortU lt zs)
    show (insU lt z (sortU lt zs)).length ≤ _
    rw [List.length_cons]
    omega
/-! as often as told -/
theorem insD_perm (z : α) : ∀ l : List α, (insD lt z l).Perm (z :: l)
  | [] => by simp [insD]
  | y :: r => by
    unfold insD
    split
    · exact ((insD_perm z r).cons y).trans (List.Perm.swap z y r)
    · exact List.Perm.refl _
theorem insD_up (o : Lt lt) (z : α) : ∀ l : List α, l.Pairwise (fun a b => lt b a = false) → (insD lt z l).Pairwise (fun a b => lt b a = false)
  | [], _ => by simp [insD]
  | y :: r, h => by
    obtain ⟨h1, h2⟩ := List.pairwise_cons.mp h
    have ih := insD_up o z r h2
    unfold insD
    split
    · rename_i e
      refine List.pairwise_cons.mpr ⟨fun x hx => ?_, ih⟩
      rcases List.mem_cons.mp ((insD_perm z r).mem_iff.mp hx) with rfl | hx
      · cases q : lt x y with
        | false => rfl
        | true => have := o.tr _ _ _ e q; rw [o.irr] at this; cases this
      · exact h1 x hx
    · rename_i e
      have e : lt y z = false := by simpa using e
      refine List.pairwise_cons.mpr ⟨fun x hx => ?_, h⟩
      rcases List.mem_cons.mp hx with rfl | hx
      · exact e
      · cases q : lt x z with
        | false => rfl
        | true =>
          exfalso
          have a := h1 x hx
          cases q2 : lt y x with
          | true => have := o.tr _ _ _ q2 q; rw [e] at this; cases this
          | false =>
            have := o.tri x y a q2
            subst this
            rw [e] at q; cases q
theorem sortD_perm (zs : List α) : (sortD lt zs).Perm zs := by
  induction zs with
  | nil => exact List.Perm.refl _
  | cons z zs ih => exact (insD_perm z _).trans (ih.cons z)
theorem sortD_up (o : Lt lt) (zs : List α) : (sortD lt zs).Pairwise (fun a b => lt b a = false) := by
  induction zs with
  | nil => exact List.Pairwise.nil
  | cons z zs ih => exact insD_up o z _ ih
theorem dn_one (o : Lt lt) : ∀ {l1 l2 : List α}, l1.Pairwise (fun a b => lt b a = false) → l2.Pairwise (fun a b => lt b a = false) → l1.Perm l2 → l1 = l2
  | [], l2, _, _, h => (List.nil_perm.mp h).symm
  | a :: l1, [], _, _, h => by have := h.length_eq; simp at this
  | a :: l1, b :: l2, h1, h2, h => by
    obtain ⟨p1, p2⟩ := List.pairwise_cons.mp h1
    obtain ⟨q1, q2⟩ := List.pairwise_cons.mp h2
    have e : a = b := by
      rcases List.mem_cons.mp (h.mem_iff.mp List.mem_cons_self) with e | e
      · exact e
      · rcases List.mem_cons.mp (h.mem_iff.mpr List.mem_cons_self) with e2 | e2
        · exact e2.symm
        · exact o.tri a b (q1 a e) (p1 b e2)
    subst e
    rw [dn_one o p2 q2 ((List.perm_cons a).mp h)]
theorem sortD_is (o : Lt lt) {l zs : List α} (h : l.Pairwise (fun a b => lt b a = false)) (p : l.Perm zs) : l = sortD lt zs :=
  dn_one o h (sortD_up o zs) (p.trans (sortD_perm zs).symm)
end
/-! whole numbers, texts -/
def ltI (a b : Int) : Bool := decide (a < b)
theorem lt_I : Lt ltI := ⟨fun a => by simp [ltI], fun a b c h1 h2 => by simp only [ltI, decide_eq_true_eq] at *; omega, fun a b h1 h2 => by simp only [ltI, decide_eq_false_iff_not] at *; omega⟩
def ltZ (a b : Str) : Bool := decide (a.cps.toList < b.cps.toList)
theorem Str_ext {a b : Str} (h : a.cps.toList = b.cps.toList) : a = b := by
  obtain ⟨⟨a⟩⟩ := a
  obtain ⟨⟨b⟩⟩ := b
  simp only at h
  rw [h]
theorem lt_Z : Lt ltZ := by
  refine ⟨fun a => ?_, fun a b c h1 h2 => ?_, fun a b h1 h2 => ?_⟩
  · simp only [ltZ, decide_eq_false_iff_not]
    exact List.lt_irrefl _
  · simp only [ltZ, decide_eq_true_eq] at *
    exact List.lt_trans h1 h2
  · simp only [ltZ, decide_eq_false_iff_not] at *
    exact Str_ext (List.le_antisymm (List.not_lt.mp h2) (List.not_lt.mp h1))
end EV

set_option maxHeartbeats 4000000
/-! EvSet: set(xs) of texts or whole numbers, sorted and counted. -/
namespace EV
open PySem PySem.Spec PyProof.Rows L2
/-- keys that are told from their values -/
structure Kf {P : Program} {w : World} {κ : Type} [DecidableEq κ] (kd : PySem.KeyKind P w κ) where
  of : Value → κ
  ok : ∀ k v, kd.is k v = true → of v = k
  sc : ∀ k v, kd.is k v = true → v.scannable = true
section
variable {P : Program} {w : World} {κ : Type} [DecidableEq κ] {kd : PySem.KeyKind P w κ}
def kset (f : Kf kd) (l : List (Int × Value)) : List κ := l.map fun q => f.of q.2
/-- a set at an address: what is in it, how many, its table rising -/
def SetG (f : Kf kd) (h : Heap) (a : Addr) (In : κ → Bool) (n : Nat) : Prop :=
  ∃ ob es ep tb, h.get? a = some ob ∧ ob.ExactSet ∧ ob.data = .set es ep tb ∧ ElemsOf kd es.toList ∧ (kset f es.toList).Nodup ∧ (∀ k, In k = true ↔ k ∈ kset f es.toList) ∧
    es.size < scanBound ∧ tb.fits es.size = true ∧ es.size = n ∧ Ris tb.place.toList ∧ (w.params.followText "set-order" = true ∨ tb.led = true)
variable {f : Kf kd} {h h' : Heap} {a : Addr} {In : κ → Bool} {n : Nat}
theorem SetG.mv (R : SetG f h a In n) (k : ∀ ob, h.get? a = some ob → h'.get? a = some ob) : SetG f h' a In n := by
  obtain ⟨ob, es, ep, tb, e, r⟩ := R
  exact ⟨ob, es, ep, tb, k ob e, r⟩
theorem SetG.as {In' : κ → Bool} (R : SetG f h a In n) (e : ∀ k, In' k = In k) : SetG f h a In' n := by
  rw [show In' = In from funext e]
  exact R
theorem is_iff (f : Kf kd) {q : Int × Value} (g : ∃ k, kd.is k q.2 = true) (k : κ) : kd.is k q.2 = true ↔ f.of q.2 = k := by
  obtain ⟨k0, e⟩ := g
  refine ⟨f.ok k q.2, fun z => ?_⟩
  have := f.ok k0 q.2 e
  rw [← z, this]
  exact e
theorem in_kinds (f : Kf kd) {l : List (Int × Value)} (g : ElemsOf kd l) (k : κ) : k ∈ kset f l ↔ ∃ q ∈ l, kd.is k q.2 = true := by
  unfold kset
  rw [List.mem_map]
  constructor
  · rintro ⟨q, hq, z⟩
    obtain ⟨⟨k0, e, _⟩, _⟩ := g q hq
    exact ⟨q, hq, (is_iff f ⟨k0, e⟩ k).2 z⟩
  · rintro ⟨q, hq, z⟩
    exact ⟨q, hq, f.ok k q.2 z⟩
theorem SetG.setOf (R : SetG f h a In n) : h.SetOf kd a In n := by
  obtain ⟨ob, es, ep, tb, e1, e2, e3, e4, _, e6, e7, e8, e9, _⟩ := R
  exact ⟨ob, es, ep, tb, e1, e2, e3, e4, fun k => (e6 k).trans (in_kinds f e4 k), e7, e8, e9⟩
theorem put_get {ob : Obj} {es es' : Array (Int × Value)} {ep : Nat} {tb tb' : SetTable} (e1 : h.get? a = some ob) (e2 : ob.data = .set es ep tb) :
    (h.update a (Obj.putSet es' tb')).get? a = some { ob with data := .set es' (ep + 1) tb' } := by
  have z := Heap.get?_update_self (Obj.putSet es' tb') e1 (by rw [putSet_of es' tb' e2]; rfl)
  rw [putSet_of es' tb' e2] at z
  exact z
end
section
variable {P : Program} {w : World} {A : Around} {E : Value → Shared → Prop} {s : Shared} {κ : Type} [DecidableEq κ] {kd : PySem.KeyKind P w κ} {f : Kf kd} {a : Addr} {In : κ → Bool} {n : Nat}
theorem setG_tail {g : Bool → Sem Unit} (hg : ∀ (b : Bool) (s1 : Shared) (R : Unit → Shared → Prop), R () s1 → wpAny (model P w) A (g b) R E s1)
    {ob : Obj} {es : Array (Int × Value)} {ep : Nat} {tb : SetTable} (e1 : s.heap.get? a = some ob) (e2 : ob.ExactSet) (e3 : ob.data = .set es ep tb)
    {fs : Array (Int × Value)} {tc : SetTable} {In' : κ → Bool} (g1 : ElemsOf kd fs.toList) (g2 : (kset f fs.toList).Nodup) (g3 : ∀ k, In' k = true ↔ k ∈ kset f fs.toList)
    (g4 : fs.size < scanBound) (g5 : tc.fits fs.size = true) (g6 : Ris tc.place.toList) (g7 : w.params.followText "set-order" = true ∨ tc.led = true) {dum : Bool} {R : Option Bool → Shared → Prop}
    (hR : ∀ h', Heap.SameBut a s.heap h' → SetG f h' a In' fs.size → R (some true) { s with heap := h' }) :
    wpAny (model P w) A (do
        storeSet a fs tc
        if (!dum && tc.tooFull) = true then do
            g (relayAll tc fs (SetTable.grown fs.size)).2.2
            storeSet a (relayAll tc fs (SetTable.grown fs.size)).1 (relayAll tc fs (SetTable.grown fs.size)).2.1
            pure (some true)
          else pure (some true)) R E s := by
  refine wpAny_bind (wpAny_storeSet_of e1 e3 ?_ (fits_of_scanBound g4))
  have o1 := put_get (es' := fs) (tb' := tc) e1 e3
  have same := Heap.SameBut.update s.heap a (Obj.putSet fs tc)
  split
  · have q1 := relayAll_perm tc fs (SetTable.grown fs.size)
    have q2 := relayAll_fits tc fs (SetTable.grown fs.size)
    have q3 := relayAll_ris tc fs (SetTable.grown fs.size)
    have q4 := relayAll_led tc fs (SetTable.grown fs.size)
    generalize relayAll tc fs (SetTable.grown fs.size) = Z at q1 q2 q3 q4 ⊢
    obtain ⟨gs, td, gv⟩ := Z
    dsimp only at q1 q2 q3 q4 ⊢
    have z1 : gs.size = fs.size := by rw [← Array.length_toList, q1.length_eq, Array.length_toList]
    have z2 : gs.size < scanBound := by rw [z1]; exact g4
    refine wpAny_bind (hg _ _ _ ?_)
    refine wpAny_bind (wpAny_storeSet_of o1 rfl ?_ (fits_of_scanBound z2))
    have o2 := put_get (es' := gs) (tb' := td) o1 rfl
    refine wpAny_pure (hR _ (same.trans (Heap.SameBut.update _ a _)) ?_)
    have q5 : (kset f gs.toList).Perm (kset f fs.toList) := q1.map _
    exact ⟨_, gs, _, td, o2, e2, rfl, fun q hq => g1 q (q1.mem_iff.mp hq), q5.nodup_iff.mpr g2, fun k => (g3 k).trans q5.mem_iff.symm, z2, q2, z1, q3, g7.imp id fun z => by rw [q4]; exact z⟩
  · exact wpAny_pure (hR _ same ⟨_, fs, _, tc, o1, e2, rfl, g1, g2, g3, g4, g5, rfl, g6, g7⟩)
theorem setG_hashed {k : κ} {v : Value} {Q : Bool → Shared → Prop} (hk : kd.is k v = true) (R : SetG f s.heap a In n) (room : n + 1 < scanBound)
    (hQ : ∀ h', Heap.SameBut a s.heap h' → SetG f h' a (fun j => In j || decide (j = k)) (if In k = true then n else n + 1) → Q (!In k) { s with heap := h' }) :
    wpAny (model P w) A (setAddHashed a v (kd.hash k)) Q E s := by
  obtain ⟨ob, es, ep, tb, e1, e2, e3, e4, e5, e6, e7, e8, e9, e10, e11⟩ := R
  have sc : v.scannable = true := f.sc k v hk
  have kv : f.of v = k := f.ok k v hk
  unfold setAddHashed setAddHashedIn
  refine wpAny_holding (wpAny_bind (wpAny_setState_of e1 e3 e8 ?_))
  dsimp only
  rw [byScan_of sc e7 e4]
  simp only [↓reduceIte]
  unfold setAddByScan
  refine wpAny_bind ?_
  refine wpAny_bind (wpAny_rule ?_)
  refine wpAny_bind (wpAny_setScan_of hk e1 e3 e8 e4 ?_)
  cases fi : List.findIdx? (fun q => kd.is k q.2) es.toList with
  | some j =>
    dsimp only
    obtain ⟨j1, j2, _⟩ := List.findIdx?_eq_some_iff_getElem.mp fi
    have Ik : In k = true := (e6 k).2 ((in_kinds f e4 k).2 ⟨es.toList[j], List.getElem_mem j1, j2⟩)
    refine wpAny_pure (wpAny_pure ?_)
    have z := hQ s.heap (Heap.SameBut.refl a s.heap) ⟨ob, es, ep, tb, e1, e2, e3, e4, e5, fun i => by
      rw [Bool.or_eq_true, decide_eq_true_eq, ← e6 i]
      exact ⟨fun y => y.elim id (fun e => e ▸ Ik), .inl⟩, e7, e8, by rw [if_pos Ik]; exact e9, e10, e11⟩
    rw [Ik] at z
    exact z
  | none =>
    dsimp only
    have nk : k ∉ kset f es.toList := fun z => by
      obtain ⟨q, hq, y⟩ := (in_kinds f e4 k).1 z
      have c := List.findIdx?_eq_none_iff.mp fi q hq
      rw [y] at c
      cases c
    have Ik : In k = false := by
      cases y : In k with
      | false => rfl
      | true => exact absurd ((e6 k).1 y) nk
    have gw : ∀ (b : Bool) {s1 : Shared} {R : Unit → Shared → Prop}, R () s1 → wpAny (model P w) A (match b with | true => rule "set.scan.the-table-gave-way" | false => pure ()) R E s1 :=
      fun b s1 R q => by cases b <;> first | exact wpAny_pure q | exact wpAny_rule q
    have q1 := layNew_perm tb es (kd.hash k) v
    have q2 := layNew_fits tb es (kd.hash k) v
    have q3 := layNew_ris tb es (kd.hash k) v e10
    have q4 := layNew_led tb es (kd.hash k) v
    generalize layNew tb es (kd.hash k) v = Z at q1 q2 q3 q4 ⊢
    obtain ⟨fs, tc, dum, gv⟩ := Z
    dsimp only at q1 q2 q3 q4 ⊢
    rw [Array.toList_push] at q1
    have p1 : fs.toList.Perm ((kd.hash k, v) :: es.toList) := q1.trans (List.perm_append_singleton _ _)
    have p2 : (kset f fs.toList).Perm (k :: kset f es.toList) := by
      have := p1.map fun q : Int × Value => f.of q.2
      rw [List.map_cons] at this
      show (fs.toList.map fun q => f.of q.2).Perm (k :: es.toList.map fun q => f.of q.2)
      rw [← kv]
      exact this
    have g1 : ElemsOf kd fs.toList := fun q hq => by
      rcases List.mem_cons.mp (p1.mem_iff.mp hq) with z | z
      · rw [z]; exact ⟨⟨k, hk, rfl⟩, sc⟩
      · exact e4 q z
    have g2 : (kset f fs.toList).Nodup := p2.nodup_iff.mpr (List.nodup_cons.mpr ⟨nk, e5⟩)
    have g3 : ∀ i, (In i || decide (i = k)) = true ↔ i ∈ kset f fs.toList := fun i => by
      rw [Bool.or_eq_true, decide_eq_true_eq, e6 i, p2.mem_iff, List.mem_cons]
      exact Or.comm
    have z1 : fs.size = n + 1 := by rw [← Array.length_toList, p1.length_eq, List.length_cons, Array.length_toList, e9]
    have g4 : fs.size < scanBound := by rw [z1]; exact room
    have g7 : w.params.followText "set-order" = true ∨ tc.led = true := e11.imp id fun z => by rw [q4]; exact z
    have fin : ∀ h', Heap.SameBut a s.heap h' → SetG f h' a (fun j => In j || decide (j = k)) fs.size → Q true { s with heap := h' } := fun h' sb r => by
      have z := hQ h' sb
      rw [Ik] at z
      rw [z1] at r
      exact z r
    refine wpAny_bind (gw _ ?_)
    split
    · refine wpAny_bind ?_
      rw [hashByValue_scannable 8 sc]
      refine wpAny_pure ?_
      refine setG_tail (f := f) ?_ e1 e2 e3 g1 g2 g3 g4 ?_ ?_ ?_ ?_
      · intro b s1 R q; cases b <;> first | exact wpAny_pure q | exact wpAny_rule q
      · first | (split <;> first | exact q2 | exact SetTable.fits_plain_off q2) | exact q2
      · first | (split <;> exact q3) | exact q3
      · first | (split <;> exact g7) | exact g7
      · intro h' sb r; dsimp only; exact wpAny_pure (fin h' sb r)
    · refine wpAny_bind (wpAny_pure ?_)
      simp only [↓reduceIte]
      refine setG_tail (f := f) ?_ e1 e2 e3 g1 g2 g3 g4 q2 q3 g7 ?_
      · intro b s1 R q; cases b <;> first | exact wpAny_pure q | exact wpAny_rule q
      · intro h' sb r; dsimp only; exact wpAny_pure (fin h' sb r)
theorem setG_new {h : Heap} {zs : List κ} (e : h.get? a = some { cls := .type "set", dict := none, data := .set #[] 0 (.fresh 0 0 (!w.params.followText "set-order")) }) : SetG f h a (fun j => decide (j ∈ zs.take 0)) 0 :=
  ⟨_, #[], 0, _, e, ⟨rfl, rfl, rfl⟩, rfl, (fun q hq => by simp at hq), (by simp [kset]), (fun k => by simp [kset]), (by decide), (by rfl), rfl, List.Pairwise.nil, by
    show _ ∨ (!w.params.followText "set-order") = true
    cases w.params.followText "set-order"
    · exact .inr rfl
    · exact .inl rfl⟩
end
end EV

/-! EvSet2: set(list), set(tuple); sorted(a set); how many. -/
namespace EV
open PySem PySem.Spec PyProof.Rows L2
section
variable {P : Program} {w : World} {A : Around} {E : Value → Shared → Prop} {s : Shared} {κ : Type} [DecidableEq κ] {kd : PySem.KeyKind P w κ} {f : Kf kd}
theorem setG_loop {it : Addr} {fp wr : List Addr} {G : Array GenState → Array GenState → Prop} {n : Nat} {Pv : Nat → Value → Prop} {St : Nat → Shared → Prop} {R : Result → Shared → Prop}
    (W : WalksS P w A.in1 it fp wr G n Pv St) (p : Addr) (hp : p ∉ fp) (zs : List κ) (hn : n = zs.length) (hb : zs.length + 1 < scanBound) (hv : ∀ i v, Pv i v → ∃ k, zs[i]? = some k ∧ kd.is k v = true ∧ v.scannable = true) :
    ∀ (m i : Nat) (s : Shared), n - i = m → i ≤ n → St i s → (∃ c, c ≤ i ∧ SetG f s.heap p (fun j => decide (j ∈ zs.take i)) c) →
      (∀ s' c, Moved (p :: wr) G s s' → c ≤ n → SetG f s'.heap p (fun j => decide (j ∈ zs)) c → R (.ok (.ret .none)) s') →
      codeAny (model P w) A (.builtin "set.update.loop" ⟨[.ref p, .ref it], []⟩) R s := by
  have nw : p ∉ wr := fun z => hp (W.sub _ z)
  have sub : ∀ b ∈ wr, b ∈ p :: wr := fun b z => List.mem_cons_of_mem _ z
  intro m
  induction m with
  | zero =>
    intro i s em hi hst ⟨c, hc, r⟩ hR
    obtain rfl : i = n := by omega
    refine codeAny_builtin F.entry_set_update_loop ?_
    rw [Around.under_plainId F.plain_set_update_loop _]
    show wpAny _ A.in1 (pyNext (.ref it) >>= _) _ _ s
    refine wpAny_bind (W.done s _ _ hst fun s' mv => ?_)
    show wpAny _ A.in1 (ret Value.none) _ _ s'
    rw [show zs.take i = zs from List.take_of_length_le (by omega)] at r
    exact wpAny_pure (hR s' c (mv.mono sub) hc (r.mv fun ob e => mv.heap p ob nw e))
  | succ m ih =>
    intro i s em hi hst ⟨c, hc, r⟩ hR
    have lt : i < n := by omega
    refine codeAny_builtin F.entry_set_update_loop ?_
    rw [Around.under_plainId F.plain_set_update_loop _]
    show wpAny _ A.in1 (pyNext (.ref it) >>= _) _ _ s
    refine wpAny_bind (W.item i s _ _ lt hst fun v s' pv hst' mv => ?_)
    obtain ⟨z, hz, hk, sc⟩ := hv i v pv
    have r' : SetG f s'.heap p (fun j => decide (j ∈ zs.take i)) c := r.mv fun ob e => mv.heap p ob nw e
    show wpAny _ A.in1 (holding [v] (setAdd p v) >>= _) _ _ s'
    refine wpAny_bind (wpAny_holding ?_)
    unfold setAdd
    refine wpAny_holding ?_
    refine wpAny_bind (kd.pyHash (k := z) hk ?_)
    refine setG_hashed (f := f) (s := { s' with toks := s'.toks + 1 }) hk r' (by omega) fun h' sb r2 => ?_
    have r3 : SetG f h' p (fun j => decide (j ∈ zs.take (i + 1))) (if decide (z ∈ zs.take i) = true then c else c + 1) := r2.as fun j => by
      rw [List.take_add_one, hz]
      simp [List.mem_append]
    have c3 : (if decide (z ∈ zs.take i) = true then c else c + 1) ≤ i + 1 := by split <;> omega
    refine wpAny_pure ⟨plainId_quiet F.plain_set_update_loop _, ih (i + 1) _ (by omega) lt (W.frame _ s' _ _ hst' (Nat.le_succ _) fun b hb ob e => ?_) ⟨_, c3, r3⟩ fun s2 c2 mv2 hc2 r4 => ?_⟩
    · rw [sb.2 b (fun z : b = p => hp (by rw [← z]; exact hb))]; exact e
    · refine hR s2 c2 (Moved.trans W.gtrans ((mv.mono sub).then_heap (Nat.le_succ _) fun b ob hb e => ?_) mv2) hc2 r4
      rw [sb.2 b (fun z : b = p => hb (by rw [z]; exact List.mem_cons_self))]; exact e
end
section
variable {P : Program} {w : World} {A : Around} {E : Value → Shared → Prop} {s : Shared} {κ : Type} [DecidableEq κ] {kd : PySem.KeyKind P w κ} {f : Kf kd}
abbrev newS (w : World) : Obj := { cls := .type "set", dict := none, data := .set #[] 0 (.fresh 0 0 (!w.params.followText "set-order")) }
set_option maxHeartbeats 8000000 in
/-- set(xs), xs a list or a tuple -/
theorem call_setG {l : Addr} {items : Array Value} (zs : List κ) {Q : Value → Shared → Prop} (hh : A.handled = none) (hl : s.heap.IsList l items ∨ s.heap.IsTuple l items)
    (hit : ∀ (i : Nat) (v : Value), items[i]? = some v → ∃ k, zs[i]? = some k ∧ kd.is k v = true ∧ v.scannable = true) (hz : items.size = zs.length) (hb : zs.length + 1 < scanBound)
    (h : ∀ (h' : Heap) (tk c : Nat), SetG f h' s.heap.objs.size (fun j => decide (j ∈ zs)) c → c ≤ zs.length → (∀ b ob, s.heap.get? b = some ob → h'.get? b = some ob) → Q (.ref s.heap.objs.size) { s with heap := h', toks := tk }) :
    wpAny (model P w) A (call (.type "set") [.ref l]) Q E s := by
  obtain ⟨c, tl, mro⟩ := F.called_set.mro
  have made := F.called_set.made
  have subs := F.called_set.sub
  refine wpAny_call (codeAny_of_tree ?_)
  show wpAny _ _ (callAny (.type "set") _) _ _ _
  refine wpAny_pure ⟨Code.quiet_builtin _ (by decide +kernel), codeAny_builtin F.entry_type_call ?_⟩
  rw [Around.under_plain (weight_type_call_type "set" [.ref l] []) rfl]
  have t1 := F.called_set.notType
  have t2 := F.called_set.canCreate
  have t3 := F.typeCall_set_1 (.ref l)
  repeat (any_goals (first | assumption | wp_step))
  refine codeAny_mono (code_set_led1 (.ref l) (E := E) (Q₁ := fun ob s1 => ob = .ref s.heap.objs.size ∧ s1 = { s with heap := s.heap.push (newS w) }) ⟨rfl, rfl⟩) fun r s1 hr => ?_
  cases r with
  | error e => exact hr
  | ok fl =>
    cases fl with
    | ret ob =>
      obtain ⟨rfl, rfl⟩ := hr
      have hS : (s.heap.push (newS w)).get? s.heap.objs.size = some (newS w) := Heap.get?_push_size _ rfl
      have hT : Shared.TypeIs { s with heap := s.heap.push (newS w) } (.ref s.heap.objs.size) "set" := ⟨_, hS, rfl⟩
      have i1 := F.called_set.init.lookup
      have i2 := F.called_set.init.bind (.ref s.heap.objs.size)
      repeat (any_goals (first | assumption | wp_step))
      refine codeAny_mono (codeAny_call_builtin (R := wants (fun r s2 => r = .none ∧ ∃ h' tk c, s2 = { s with heap := h', toks := tk } ∧ SetG f h' s.heap.objs.size (fun j => decide (j ∈ zs)) c ∧ c ≤ zs.length ∧
          (∀ b ob, s.heap.get? b = some ob → h'.get? b = some ob)) E) F.called_set.init.plain F.entry_set_init (check_set_init_1 hT ?_)) fun r2 s2 hr2 => ?_
      · have lS : l < s.heap.objs.size := by
          rcases hl with ⟨ob, e, _⟩ | ⟨ob, e, _⟩ <;> exact Heap.lt_size e
        have h3 : A.in1.in1.in1.handled = none := by simp [hh]
        have neI : l ≠ (s.heap.push (newS w)).objs.size := by
          rw [Heap.size_push]; exact Nat.ne_of_lt (Nat.lt_succ_of_lt lS)
        have nf : s.heap.objs.size ∉ [(s.heap.push (newS w)).objs.size, l] := by
          rw [Heap.size_push]; simp only [List.mem_cons, List.mem_singleton, List.not_mem_nil, or_false, not_or]
          exact ⟨Nat.ne_of_lt (Nat.lt_succ_self _), Nat.ne_of_gt lS⟩
        have fin : ∀ (s' : Shared) (c' : Nat), Moved (s.heap.objs.size :: [(s.heap.push (newS w)).objs.size]) (fun a b => b = a) { s with heap := (s.heap.push (newS w)) } s' → True := fun _ _ _ => trivial
        rcases hl with hl | hl
        · obtain ⟨ol, e1, e2, nl, e3⟩ := hl
          obtain ⟨ocls, odict, odata, oslots⟩ := ol
          simp only at e2 e3
          subst e2; subst e3
          have e4 : (s.heap.push (newS w)).get? l = some { cls := .type "list", dict := odict, data := .seq items nl, slots := oslots } := Heap.get?_push_of_some _ e1
          have u1 := F.sub_list_set
          have u2 := F.sub_list_frozenset
          have u3 : (Value.type "list" == Value.type "dict") = false := by decide
          have l1 : (s.heap.push (newS w)).IsList l items := ⟨_, e4, rfl, nl, rfl⟩
          unfold Builtin.«set.__init__» noKeywords Builtin.Frozenset.updateFrom
          generalize hPI : pyIter = PI
          wp_walk
          subst hPI
          refine wpAny_pyIter_list l1 ?_
          refine wpAny_bind (wpAny_runValue ?_)
          refine setG_loop (f := f) ((Walks.list h3 _ l neI items).toS) s.heap.objs.size
            nf zs hz hb hit (items.size - 0) 0 _ (by omega) (Nat.zero_le _)
            ⟨⟨_, Heap.get?_push_size _ rfl, rfl, rfl⟩, (l1.push _)⟩ ?_ ?_
          · exact ⟨0, Nat.le_refl 0, setG_new (Heap.get?_push_of_some _ hS)⟩
          · intro s' c' mv hc' r'
            obtain ⟨h', g2, d', tk', os'⟩ := s'
            obtain rfl : g2 = s.gens := mv.gens
            obtain rfl : d' = s.drawn := mv.drawn
            obtain rfl : os' = s.os := mv.os
            show wpAny _ _ _ _ _ _
            refine wpAny_pure ?_
            show wpAny _ _ (ret Value.none) _ _ _
            rw [hz] at hc'
            refine wpAny_pure ⟨rfl, h', tk', c', rfl, r', hc', fun b ob e => ?_⟩
            have b0 : b < s.heap.objs.size := Heap.lt_size e
            have b2 : b ≠ (s.heap.push (newS w)).objs.size := by
              rw [Heap.size_push]; exact Nat.ne_of_lt (Nat.lt_succ_of_lt b0)
            exact mv.heap b ob (by simp only [List.mem_cons, List.mem_singleton, List.not_mem_nil, or_false, not_or]; exact ⟨Nat.ne_of_lt b0, b2⟩) (Heap.get?_push_of_some _ (Heap.get?_push_of_some _ e))
        · obtain ⟨ol, e1, e2, nl, e3⟩ := hl
          obtain ⟨ocls, odict, odata, oslots⟩ := ol
          simp only at e2 e3
          subst e2; subst e3
          have e4 : (s.heap.push (newS w)).get? l = some { cls := .type "tuple", dict := odict, data := .seq items nl, slots := oslots } := Heap.get?_push_of_some _ e1
          have u1 := F.sub_tuple_set
          have u2 := F.sub_tuple_frozenset
          have u3 : (Value.type "tuple" == Value.type "dict") = false := by decide
          have l1 : (s.heap.push (newS w)).IsTuple l items := ⟨_, e4, rfl, nl, rfl⟩
          unfold Builtin.«set.__init__» noKeywords Builtin.Frozenset.updateFrom
          generalize hPI : pyIter = PI
          wp_walk
          subst hPI
          refine wpAny_pyIter_tuple l1 ?_
          refine wpAny_bind (wpAny_runValue ?_)
          refine setG_loop (f := f) ((Walks.tuple h3 _ l neI items).toS) s.heap.objs.size
            nf zs hz hb hit (items.size - 0) 0 _ (by omega) (Nat.zero_le _)
            ⟨⟨_, Heap.get?_push_size _ rfl, rfl, rfl⟩, (l1.push _)⟩ ?_ ?_
          · exact ⟨0, Nat.le_refl 0, setG_new (Heap.get?_push_of_some _ hS)⟩
          · intro s' c' mv hc' r'
            obtain ⟨h', g2, d', tk', os'⟩ := s'
            obtain rfl : g2 = s.gens := mv.gens
            obtain rfl : d' = s.drawn := mv.drawn
            obtain rfl : os' = s.os := mv.os
            show wpAny _ _ _ _ _ _
            refine wpAny_pure ?_
            show wpAny _ _ (ret Value.none) _ _ _
            rw [hz] at hc'
            refine wpAny_pure ⟨rfl, h', tk', c', rfl, r', hc', fun b ob e => ?_⟩
            have b0 : b < s.heap.objs.size := Heap.lt_size e
            have b2 : b ≠ (s.heap.push (newS w)).objs.size := by
              rw [Heap.size_push]; exact Nat.ne_of_lt (Nat.lt_succ_of_lt b0)
            exact mv.heap b ob (by simp only [List.mem_cons, List.mem_singleton, List.not_mem_nil, or_false, not_or]; exact ⟨Nat.ne_of_lt b0, b2⟩) (Heap.get?_push_of_some _ (Heap.get?_push_of_some _ e))
      · cases r2 with
        | error e => exact hr2
        | ok fl2 =>
          cases fl2 with
          | ret r =>
            obtain ⟨rfl, h', tk, c', rfl, r', hc', hk'⟩ := hr2
            repeat (any_goals (first | assumption | wp_step))
            exact h _ _ _ r' hc' hk'
          | _ => exact hr2.elim
    | _ => exact hr.elim
end
end EV

/-! EvSet3: sorted(set(xs)), len(set(xs)) of texts or whole numbers. -/
namespace EV
open PySem PySem.Spec PyProof.Rows L2
def kfS (P : Program) (w : World) : Kf (PySem.strKind P w) where
  of := strOf
  ok := fun k v e => by obtain ⟨t, rfl⟩ := Value.isStrOf_shape e; rfl
  sc := fun k v e => by obtain ⟨t, rfl⟩ := Value.isStrOf_shape e; rfl
def intOf : Value → Int
  | .int i _ => i
  | _ => 0
def kfI (P : Program) (w : World) : Kf (PySem.intKind P w) where
  of := intOf
  ok := fun k v e => by obtain ⟨t, rfl⟩ := Value.isInt_shape e; rfl
  sc := fun k v e => by obtain ⟨t, rfl⟩ := Value.isInt_shape e; rfl
theorem ints_map : ∀ (vs : List Value), (∀ v ∈ vs, ∃ i t, v = Value.int i t) → IntsAre vs (vs.map intOf)
  | [], _ => .nil
  | v :: vs, h => by
    obtain ⟨i, t, rfl⟩ := h v List.mem_cons_self
    exact .cons i t (ints_map vs fun u hu => h u (List.mem_cons_of_mem _ hu))
/-- texts, sorted: what comes out -/
theorem out_strs {vs : List Value} {zs : List Str} (hS : StrsAre vs zs) {xs : Array Keyed} (hp : xs.Perm (pairsOf vs)) (hs : SortedToK PyProof.Rows.strKind xs (pairsOf vs).size) :
    ∃ ys, StrsAre (xs.map (·.2)).toList ys ∧ ys.Perm zs ∧ ys.Pairwise (fun a b => ltZ b a = false) := by
  have pl : xs.toList.Perm (vs.zip vs) := by rw [← pairsOf_toList]; exact Array.perm_iff_toList_perm.mp hp
  have pm : ∀ q, q ∈ xs.toList → q.1 = q.2 ∧ q.1 ∈ vs := fun q hq => mem_zip_self (pl.mem_iff.mp hq)
  refine ⟨xs.toList.map fun q => strOf q.1, ?_, ?_, ?_⟩
  · have e : (xs.map (·.2)).toList = xs.toList.map (·.1) := by
      rw [Array.toList_map]; exact List.map_congr_left fun q hq => (pm q hq).1.symm
    rw [e]
    have z := strsAre_map (xs.toList.map (·.1)) fun v hv => by
      obtain ⟨q, hq, rfl⟩ := List.mem_map.mp hv
      exact hS.all _ (pm q hq).2
    rwa [List.map_map] at z
  · have z := pl.map fun q => strOf q.1
    have e : (vs.zip vs).map (fun q => strOf q.1) = zs := by
      have : (vs.zip vs).map (fun q => strOf q.1) = ((vs.zip vs).map Prod.fst).map strOf := by rw [List.map_map]; rfl
      rw [this, List.map_fst_zip (Nat.le_refl _), hS.strs]
    rwa [e] at z
  · rw [List.pairwise_iff_getElem]
    intro i j hi hj hij
    have hi' : i < xs.size := by simpa using hi
    have hj' : j < xs.size := by simpa using hj
    have z := hs i j (Nat.le_of_lt hij) (by rw [← hp.size_eq]; exact hj')
    obtain ⟨x, t, ex⟩ := hS.all _ (pm xs[i] (by simp)).2
    obtain ⟨y, u, ey⟩ := hS.all _ (pm xs[j] (by simp)).2
    rw [KK_str hi' (x := x) (t := t) (q := xs[i].2) (Prod.ext ex rfl), KK_str hj' (x := y) (t := u) (q := xs[j].2) (Prod.ext ey rfl)] at z
    change decide (y.cps.toList < x.cps.toList) = false at z
    simp only [List.getElem_map, Array.getElem_toList]
    rw [show strOf xs[i].1 = x by rw [ex]; rfl, show strOf xs[j].1 = y by rw [ey]; rfl]
    exact z
theorem dn_up {α : Type} {lt : α → α → Bool} (o : Lt lt) {l : List α} (h : l.Pairwise (fun a b => lt b a = false)) (d : l.Nodup) : l.Pairwise (fun a b => lt a b = true) :=
  (h.and d).imp fun {a b} ⟨q1, q2⟩ => by
    cases e : lt a b with
    | true => rfl
    | false => exact absurd (o.tri a b e q1) q2
section
variable {P : Program} {w : World} {A : Around} {E : Value → Shared → Prop} {s : Shared} {a : Addr} {n : Nat}
/-- sorted(a set of texts) -/
theorem call_sortG_S {In : Str → Bool} {Q : Value → Shared → Prop} (R : SetG (kfS P w) s.heap a In n) (hh : A.handled = none)
    (hQ : ∀ s' p (out : Array Value) (c : Nat) (zs : List Str), (∀ b ob, s.heap.get? b = some ob → s'.heap.get? b = some ob) → s'.gens = s.gens → s'.os = s.os → s.heap.objs.size ≤ p →
      s'.heap.get? p = some (seqObj "list" out c) → StrsAre out.toList zs → zs.Pairwise (fun a b => ltZ a b = true) → (∀ k, k ∈ zs ↔ In k = true) → zs.length = n → Q (.ref p) s') :
    wpAny (model P w) A (call (.builtin "sorted") [.ref a]) Q E s := by
  obtain ⟨ob, es, ep, tb, e1, e2, e3, e4, e5, e6, e7, e8, e9, e10, e11⟩ := R
  refine Calls.call_function_entry kind_sorted plain_sorted entry_sorted (args_sorted1 _) ?_
  unfold Builtin.«sorted»
  refine wpAny_bind (m := checkCount "sorted" 1 1 _) (wpAny_pure ?_)
  refine wpAny_bind (collect_set (A := A.in1) hh ⟨ob, e1, e2.1, e3⟩ e8 e7 e10 e11 fun s1 vs k1 hz g1 o1 pm => ?_)
  have vl : vs.length = n := by rw [pm.length_eq, List.length_map, Array.length_toList]; exact e9
  have hI : StrsAre vs (vs.map strOf) := strsAre_map vs fun v hv => by
    obtain ⟨q, hq, z⟩ := List.mem_map.mp (pm.mem_iff.mp hv)
    obtain ⟨⟨k, y, _⟩, _⟩ := e4 q hq
    obtain ⟨t, y⟩ := Value.isStrOf_shape y
    exact ⟨k, t, by rw [← z]; exact y⟩
  have pk : (vs.map strOf).Perm (kset (kfS P w) es.toList) := by
    have q := pm.map strOf
    rw [List.map_map] at q
    exact q
  have sz : vs.length ≤ sizeLine := by rw [vl, ← e9]; exact fits_of_scanBound e7
  refine wpAny_bind (wpAny_newList ?_ (by first | exact sz | simpa using sz))
  have hoL : (s1.heap.push (seqObj "list" vs.toArray 0)).get? s1.heap.objs.size = some (seqObj "list" vs.toArray 0) := Heap.get?_push_size _ rfl
  refine wpAny_bind (wpAny_holding (wpAny_call_entry slot_list_sort ⟨_, hoL, rfl⟩ entry_list_sort (list_sort_treeKAny strKind_oneLt hoL hI.keysOf (fun v₁ v₂ rest e => keyKind_strs (by rw [← e]; exact hI)) sz fun st' a1 a2 => ⟨_, rfl, ?_⟩) (args_list_sort _)))
  obtain ⟨ys, y1, y2, y3⟩ := out_strs hI a1 a2
  obtain ⟨c, hc⟩ := sortedHeap_at (vs := vs) (out := (arrOf st').map (·.2)) hoL
  have pn : ys.Perm (kset (kfS P w) es.toList) := y2.trans pk
  refine wpAny_pure ⟨_, rfl, hQ _ s1.heap.objs.size _ c ys (fun b u e => ?_) g1 o1 hz hc y1 (dn_up lt_Z y3 (pn.nodup_iff.mpr e5)) (fun k => by rw [pn.mem_iff, ← e6 k]) ?_⟩
  · have q := k1 b u e
    have lt := Heap.lt_size q
    show (sortedHeap (s1.heap.push (seqObj "list" vs.toArray 0)) s1.heap.objs.size vs _).get? b = some u
    rw [sortedHeap_old (Nat.ne_of_lt lt) (by rw [size_push']; exact Nat.lt_succ_of_lt lt)]
    exact Heap.get?_push_of_some _ q
  · rw [pn.length_eq]
    show (es.toList.map _).length = n
    rw [List.length_map, Array.length_toList]
    exact e9
/-- sorted(a set of whole numbers) -/
theorem call_sortG_I {In : Int → Bool} {Q : Value → Shared → Prop} (R : SetG (kfI P w) s.heap a In n) (hh : A.handled = none)
    (hQ : ∀ s' p (out : Array Value) (c : Nat) (zs : List Int), (∀ b ob, s.heap.get? b = some ob → s'.heap.get? b = some ob) → s'.gens = s.gens → s'.os = s.os → s.heap.objs.size ≤ p →
      s'.heap.get? p = some (seqObj "list" out c) → IntsAre out.toList zs → zs.Pairwise (fun a b => ltI a b = true) → (∀ k, k ∈ zs ↔ In k = true) → zs.length = n → Q (.ref p) s') :
    wpAny (model P w) A (call (.builtin "sorted") [.ref a]) Q E s := by
  obtain ⟨ob, es, ep, tb, e1, e2, e3, e4, e5, e6, e7, e8, e9, e10, e11⟩ := R
  refine Calls.call_function_entry kind_sorted plain_sorted entry_sorted (args_sorted1 _) ?_
  unfold Builtin.«sorted»
  refine wpAny_bind (m := checkCount "sorted" 1 1 _) (wpAny_pure ?_)
  refine wpAny_bind (collect_set (A := A.in1) hh ⟨ob, e1, e2.1, e3⟩ e8 e7 e10 e11 fun s1 vs k1 hz g1 o1 pm => ?_)
  have vl : vs.length = n := by rw [pm.length_eq, List.length_map, Array.length_toList]; exact e9
  have hI : IntsAre vs (vs.map intOf) := ints_map vs fun v hv => by
    obtain ⟨q, hq, z⟩ := List.mem_map.mp (pm.mem_iff.mp hv)
    obtain ⟨⟨k, y, _⟩, _⟩ := e4 q hq
    obtain ⟨t, y⟩ := Value.isInt_shape y
    exact ⟨k, t, by rw [← z]; exact y⟩
  have pk : (vs.map intOf).Perm (kset (kfI P w) es.toList) := by
    have q := pm.map intOf
    rw [List.map_map] at q
    exact q
  have sz : vs.length ≤ sizeLine := by rw [vl, ← e9]; exact fits_of_scanBound e7
  refine wpAny_bind (wpAny_newList ?_ (by first | exact sz | simpa using sz))
  have hoL : (s1.heap.push (seqObj "list" vs.toArray 0)).get? s1.heap.objs.size = some (seqObj "list" vs.toArray 0) := Heap.get?_push_size _ rfl
  refine wpAny_bind (wpAny_holding (wpAny_call_entry slot_list_sort ⟨_, hoL, rfl⟩ entry_list_sort (list_sort_treeAny hoL hI sz fun out ys a1 a2 a3 => ⟨_, rfl, ?_⟩) (args_list_sort _)))
  obtain ⟨c, hc⟩ := sortedHeap_at (vs := vs) (out := out) hoL
  have pn : ys.Perm (kset (kfI P w) es.toList) := a2.trans pk
  have y3 : ys.Pairwise (fun a b => ltI b a = false) := a3.imp fun {x y} q => by unfold ltI; rw [decide_eq_false_iff_not]; omega
  refine wpAny_pure ⟨_, rfl, hQ _ s1.heap.objs.size _ c ys (fun b u e => ?_) g1 o1 hz hc a1 (dn_up lt_I y3 (pn.nodup_iff.mpr e5)) (fun k => by rw [pn.mem_iff, ← e6 k]) ?_⟩
  · have q := k1 b u e
    have lt := Heap.lt_size q
    show (sortedHeap (s1.heap.push (seqObj "list" vs.toArray 0)) s1.heap.objs.size vs _).get? b = some u
    rw [sortedHeap_old (Nat.ne_of_lt lt) (by rw [size_push']; exact Nat.lt_succ_of_lt lt)]
    exact Heap.get?_push_of_some _ q
  · rw [pn.length_eq]
    show (es.toList.map _).length = n
    rw [List.length_map, Array.length_toList]
    exact e9
end
theorem setG_len {P : Program} {w : World} {κ : Type} [DecidableEq κ] {kd : PySem.KeyKind P w κ} {f : Kf kd} {h : Heap} {a : Addr} {n : Nat} {zs : List κ} {lt : κ → κ → Bool} (o : Lt lt)
    (R : SetG f h a (fun j => decide (j ∈ zs)) n) : n = (sortU lt zs).length := by
  obtain ⟨ob, es, ep, tb, e1, e2, e3, e4, e5, e6, e7, e8, e9, e10, e11⟩ := R
  have p : (kset f es.toList).Perm (sortU lt zs) := (List.perm_ext_iff_of_nodup e5 (up_nodup o (sortU_up o zs))).mpr fun k => by
    rw [sortU_mem, ← e6 k, decide_eq_true_eq]
  rw [← p.length_eq]
  show n = (es.toList.map _).length
  rw [List.length_map, Array.length_toList]
  exact e9.symm
end EV

/-! EvSet4: sorted(set(xs)), len(set(xs)), sorted(xs), xs[::-1]. -/
namespace EV
open PySem PySem.Spec PyProof.Rows L2
section
variable {X : Cx}
/-- texts or whole numbers in a list or a tuple -/
def SqS (K : PySem.W.Frag) (H : Hp) (l : Addr) (zs : List Str) : Prop := SqL K H l (zs.map V.str) ∨ SqT K H l (zs.map V.str)
def SqI (K : PySem.W.Frag) (H : Hp) (l : Addr) (zs : List Int) : Prop := SqL K H l (zs.map V.int) ∨ SqT K H l (zs.map V.int)
theorem strs_are : ∀ {ys : List Str} {us : List Value}, Vals (ys.map V.str) us → StrsAre us ys
  | [], _, .nil => .nil
  | y :: ys, _, .cons r t => by
    obtain ⟨k, rfl⟩ := r
    exact .cons y k (strs_are t)
theorem vals_strs : ∀ {us : List Value} {ys : List Str}, StrsAre us ys → Vals (ys.map V.str) us
  | _, _, .nil => .nil
  | _, _, .cons y k t => .cons ⟨k, rfl⟩ (vals_strs t)
theorem vals_ints : ∀ {us : List Value} {ys : List Int}, IntsAre us ys → Vals (ys.map V.int) us
  | _, _, .nil => .nil
  | _, _, .cons y k t => .cons ⟨k, rfl⟩ (vals_ints t)
theorem strs_get {us : List Value} {ys : List Str} (h : StrsAre us ys) {P : Program} {w : World} (i : Nat) (v : Value) (e : us.toArray[i]? = some v) : ∃ k, ys[i]? = some k ∧ (PySem.strKind P w).is k v = true ∧ v.scannable = true := by
  have e : us[i]? = some v := by simpa using e
  induction h generalizing i with
  | nil => simp at e
  | cons y k t ih =>
    cases i with
    | zero =>
      have : Value.str y k = v := by simpa using e
      subst this
      exact ⟨y, rfl, PySem.strKind_is P w y k, rfl⟩
    | succ i =>
      obtain ⟨z, z1, z2⟩ := ih i (by simpa using e) (by simpa using e)
      exact ⟨z, by simpa using z1, z2⟩
theorem ints_get {us : List Value} {ys : List Int} (h : IntsAre us ys) {P : Program} {w : World} (i : Nat) (v : Value) (e : us.toArray[i]? = some v) : ∃ k, ys[i]? = some k ∧ (PySem.intKind P w).is k v = true ∧ v.scannable = true := by
  have e : us[i]? = some v := by simpa using e
  induction h generalizing i with
  | nil => simp at e
  | cons y k t ih =>
    cases i with
    | zero =>
      have : Value.int y k = v := by simpa using e
      subst this
      exact ⟨y, rfl, PySem.intKind_is P w y k, rfl⟩
    | succ i =>
      obtain ⟨z, z1, z2⟩ := ih i (by simpa using e) (by simpa using e)
      exact ⟨z, by simpa using z1, z2⟩
theorem sb1001 : (1001 : Nat) < scanBound := by decide
/-- set(xs), then something done with it -/
theorem set_strs {pins : List (Addr × Obj)} {σ : L2.St} {H : Hp} {s : Shared} {A : Around} {E : Value → Shared → Prop} {l : Addr} {zs : List Str} {R : Value → Shared → Prop} (I : Inv X pins σ H s) (hh : A.handled = none) (hs : SqS X.K H l zs) (hz : zs.length ≤ 1000)
    (h : ∀ (a : Addr) (s' : Shared) (c : Nat), SetG (kfS X.prog X.w) s'.heap a (fun j => decide (j ∈ zs)) c → Inv X pins σ H s' → c ≤ zs.length → R (.ref a) s') : wpAny (model X.prog X.w) A (call (.type "set") [.ref l]) R E s := by
  rcases hs with hs | hs
  · obtain ⟨its, r, hl, _⟩ := I.list hs
    have q := strs_are r
    have ln : its.length = zs.length := by have := r.length; rw [List.length_map] at this; exact this.symm
    refine call_setG (f := kfS X.prog X.w) zs hh (.inl hl.isList) (fun i v e => strs_get q i v e) (by simpa using ln) (Nat.lt_of_le_of_lt (Nat.succ_le_succ hz) sb1001) fun h' tk c r2 hc hk => h _ _ c r2 (I.kept (t' := tk) hk) hc
  · obtain ⟨its, r, hl, _⟩ := I.tuple hs
    have q := strs_are r
    have ln : its.length = zs.length := by have := r.length; rw [List.length_map] at this; exact this.symm
    refine call_setG (f := kfS X.prog X.w) zs hh (.inr hl) (fun i v e => strs_get q i v e) (by simpa using ln) (Nat.lt_of_le_of_lt (Nat.succ_le_succ hz) sb1001) fun h' tk c r2 hc hk => h _ _ c r2 (I.kept (t' := tk) hk) hc
theorem set_ints {pins : List (Addr × Obj)} {σ : L2.St} {H : Hp} {s : Shared} {A : Around} {E : Value → Shared → Prop} {l : Addr} {zs : List Int} {R : Value → Shared → Prop} (I : Inv X pins σ H s) (hh : A.handled = none) (hs : SqI X.K H l zs) (hz : zs.length ≤ 1000)
    (h : ∀ (a : Addr) (s' : Shared) (c : Nat), SetG (kfI X.prog X.w) s'.heap a (fun j => decide (j ∈ zs)) c → Inv X pins σ H s' → c ≤ zs.length → R (.ref a) s') : wpAny (model X.prog X.w) A (call (.type "set") [.ref l]) R E s := by
  rcases hs with hs | hs
  · obtain ⟨its, r, hl, _⟩ := I.list hs
    have q := r.ints
    have ln : its.length = zs.length := by have := r.length; rw [List.length_map] at this; exact this.symm
    refine call_setG (f := kfI X.prog X.w) zs hh (.inl hl.isList) (fun i v e => ints_get q i v e) (by simpa using ln) (Nat.lt_of_le_of_lt (Nat.succ_le_succ hz) sb1001) fun h' tk c r2 hc hk => h _ _ c r2 (I.kept (t' := tk) hk) hc
  · obtain ⟨its, r, hl, _⟩ := I.tuple hs
    have q := r.ints
    have ln : its.length = zs.length := by have := r.length; rw [List.length_map] at this; exact this.symm
    refine call_setG (f := kfI X.prog X.w) zs hh (.inr hl) (fun i v e => ints_get q i v e) (by simpa using ln) (Nat.lt_of_le_of_lt (Nat.succ_le_succ hz) sb1001) fun h' tk c r2 hc hk => h _ _ c r2 (I.kept (t' := tk) hk) hc
/-- sorted(set(xs)) -/
def tSortSet (K : PySem.W.Frag) (te : TE) : TE := fun σ H Q => te σ H fun x H1 => ∃ l, x = .ref l ∧
  ((∃ zs : List Str, SqS K H1 l zs ∧ zs.length ≤ 1000 ∧ ∀ p, H1 p = none → Q (.ref p) (upd H1 p (.lst ((sortU ltZ zs).map V.str)))) ∨
   (∃ zs : List Int, SqI K H1 l zs ∧ zs.length ≤ 1000 ∧ ∀ p, H1 p = none → Q (.ref p) (upd H1 p (.lst ((sortU ltI zs).map V.int)))))
theorem pe_sortSet {e : Expr} {te : TE} {p p2 q pos : Pos} (hc : X.calm = true) (hg : Gl X "sorted") (hm : X.mg "sorted" = none) (hg2 : Gl X "set") (hm2 : X.mg "set" = none) (he : PE X e te)
    (na : starEach [e] X.env = (false, eval e X.env) :: starEach [] X.env := by rfl) : PE X (.Call (.Name "sorted" p) [.Call (.Name "set" p2) [e] [] q] [] pos) (tSortSet X.K te) := by
  refine ⟨fun pins s σ H Q I h => ?_⟩
  refine Call_ (ld_blt I hg hm boot_sorted ?_)
  refine PyProof.Rows.callWith_builtin1 (PyProof.Rows.args_cons ?_ rfl) rfl rfl
  refine Call_ (ld_blt I hg2 hm2 PyProof.Rows.boot_set ?_)
  refine PyProof.Rows.callWith_type1 (PyProof.Rows.args_cons (thn (he.run pins s σ H _ I h) fun v s1 ⟨x, H1, I1, r1, q1⟩ => PyProof.Rows.args_nil ?_) na) na rfl
  obtain ⟨l, rfl, q1⟩ := q1
  cases r1
  rcases q1 with ⟨zs, z1, z2, q1⟩ | ⟨zs, z1, z2, q1⟩
  · refine set_strs I1 (I1.ok.hd hc) z1 z2 fun a s' c R I2 hc2 => PyProof.Rows.args_nil ?_
    refine call_sortG_S R (I2.ok.hd hc) fun s3 p out cc ys k g o hp hg hi hs hmm hl => ?_
    have hlen : (ys.map V.str).length ≤ sizeLine := by rw [List.length_map, hl, sizeLine_eq]; omega
    have hn : H1 p = none := I2.hok.fresh hp
    have J : Inv X pins σ (upd H1 p (.lst (ys.map V.str))) { s' with heap := s3.heap, gens := s3.gens, drawn := s3.drawn, toks := s3.toks } :=
      I2.call (ch := []) (Un.laid k hp hn) (I2.hok.laid k hp ⟨hlen, out.toList, cc, vals_strs hi, hg⟩) (by rw [g]; exact I2.bare) (fun _ z => nomatch z)
    have e : s3 = { s' with heap := s3.heap, gens := s3.gens, drawn := s3.drawn, toks := s3.toks } := by
      cases s3; cases s'; cases o; rfl
    rw [e]
    have ey : ys = sortU ltZ zs := sortU_is lt_Z hs fun x => (hmm x).trans decide_eq_true_iff
    subst ey
    exact ⟨.ref p, _, J, rfl, q1 p hn⟩
  · refine set_ints I1 (I1.ok.hd hc) z1 z2 fun a s' c R I2 hc2 => PyProof.Rows.args_nil ?_
    refine call_sortG_I R (I2.ok.hd hc) fun s3 p out cc ys k g o hp hg hi hs hmm hl => ?_
    have hlen : (ys.map V.int).length ≤ sizeLine := by rw [List.length_map, hl, sizeLine_eq]; omega
    have hn : H1 p = none := I2.hok.fresh hp
    have J : Inv X pins σ (upd H1 p (.lst (ys.map V.int))) { s' with heap := s3.heap, gens := s3.gens, drawn := s3.drawn, toks := s3.toks } :=
      I2.call (ch := []) (Un.laid k hp hn) (I2.hok.laid k hp ⟨hlen, out.toList, cc, vals_of_ints hi, hg⟩) (by rw [g]; exact I2.bare) (fun _ z => nomatch z)
    have e : s3 = { s' with heap := s3.heap, gens := s3.gens, drawn := s3.drawn, toks := s3.toks } := by
      cases s3; cases s'; cases o; rfl
    rw [e]
    have ey : ys = sortU ltI zs := sortU_is lt_I hs fun x => (hmm x).trans decide_eq_true_iff
    subst ey
    exact ⟨.ref p, _, J, rfl, q1 p hn⟩
/-- len(set(xs)) -/
def tLenSet (K : PySem.W.Frag) (te : TE) : TE := fun σ H Q => te σ H fun x H1 => ∃ l, x = .ref l ∧
  ((∃ zs : List Str, SqS K H1 l zs ∧ zs.length ≤ 1000 ∧ Q (.int ((sortU ltZ zs).length : Nat)) H1) ∨ (∃ zs : List Int, SqI K H1 l zs ∧ zs.length ≤ 1000 ∧ Q (.int ((sortU ltI zs).length : Nat)) H1))
theorem pe_lenSet {e : Expr} {te : TE} {p p2 q pos : Pos} (hc : X.calm = true) (hg : Gl X "len") (hm : X.mg "len" = none) (hg2 : Gl X "set") (hm2 : X.mg "set" = none) (he : PE X e te)
    (na : starEach [e] X.env = (false, eval e X.env) :: starEach [] X.env := by rfl) : PE X (.Call (.Name "len" p) [.Call (.Name "set" p2) [e] [] q] [] pos) (tLenSet X.K te) := by
  refine ⟨fun pins s σ H Q I h => ?_⟩
  refine Call_ (ld_blt I hg hm boot_len ?_)
  refine PyProof.Rows.callWith_builtin1 (PyProof.Rows.args_cons ?_ rfl) rfl rfl
  refine Call_ (ld_blt I hg2 hm2 PyProof.Rows.boot_set ?_)
  refine PyProof.Rows.callWith_type1 (PyProof.Rows.args_cons (thn (he.run pins s σ H _ I h) fun v s1 ⟨x, H1, I1, r1, q1⟩ => PyProof.Rows.args_nil ?_) na) na rfl
  obtain ⟨l, rfl, q1⟩ := q1
  cases r1
  rcases q1 with ⟨zs, z1, z2, q1⟩ | ⟨zs, z1, z2, q1⟩
  · refine set_strs I1 (I1.ok.hd hc) z1 z2 fun a s' c R I2 hc2 => PyProof.Rows.args_nil ?_
    have en := setG_len lt_Z R
    obtain ⟨ob, es, ep, tb, e1, e2, e3, _, _, _, e7, e8, e9, _⟩ := R
    refine call_len_set e1 e2 e3 e8 (by rw [e9]; omega) ⟨.int c, H1, I2.tok _, ⟨_, by rw [e9]⟩, ?_⟩
    rw [en]; exact q1
  · refine set_ints I1 (I1.ok.hd hc) z1 z2 fun a s' c R I2 hc2 => PyProof.Rows.args_nil ?_
    have en := setG_len lt_I R
    obtain ⟨ob, es, ep, tb, e1, e2, e3, _, _, _, e7, e8, e9, _⟩ := R
    refine call_len_set e1 e2 e3 e8 (by rw [e9]; omega) ⟨.int c, H1, I2.tok _, ⟨_, by rw [e9]⟩, ?_⟩
    rw [en]; exact q1
end
/-! ### as functions of values -/
def someD (x : Vl) (S : Sto) : Option (List PyData) := match seqV x S with
  | some (_, xs) => allD xs
  | none => none
def srtD (u : Bool) (ds : List PyData) : Option (List PyData) := match strsD ds with
  | some zs => some ((if u then sortU ltZ zs else sortD ltZ zs).map .str)
  | none => match intsD ds with
    | some zs => some ((if u then sortU ltI zs else sortD ltI zs).map .int)
    | none => none
def sortSetV (x : Vl) (S : Sto) : RE := match someD x S with
  | some ds => if ds.length ≤ 1000 then (match srtD true ds with
    | some es => .ok (.d (.list es)) S
    | none => .bad) else .bad
  | none => .bad
def lenSetV (x : Vl) (S : Sto) : RE := match someD x S with
  | some ds => if ds.length ≤ 1000 then (match srtD true ds with
    | some es => .ok (.d (.int es.length)) S
    | none => .bad) else .bad
  | none => .bad
section
variable {K : PySem.W.Frag} {mg : Str → Option Value} {W : Wd} {S : Sto} {H : Hp} {x : Vl} {v : V} {ds : List PyData}
theorem someD_ok (h : HR K mg W S H) (r : Rep K W H v x) (e : someD x S = some ds) : ∃ a vs, v = .ref a ∧ FdA W.F H vs ds ∧ (SqL K H a vs ∨ SqT K H a vs) := by
  unfold someD at e
  split at e
  · rename_i b xs e2
    obtain ⟨a, vs, rfl, g1, g2, g3⟩ := seqV_ok h r e2
    have := allD_some e
    subst this
    refine ⟨a, vs, rfl, RepA.toD g1, ?_⟩
    cases b with
    | true => exact .inl (g2 rfl)
    | false => exact .inr (g3 rfl)
  · cases e
theorem strsD_some : ∀ {ds : List PyData} {zs : List Str}, strsD ds = some zs → ds = zs.map .str
  | [], zs, h => by cases h; rfl
  | .str z :: ds, zs, h => by
    simp only [strsD, Option.map_eq_some_iff] at h
    obtain ⟨ys, h1, rfl⟩ := h
    rw [strsD_some h1]; rfl
  | .none :: _, _, h | .bool _ :: _, _, h | .int _ :: _, _, h | .list _ :: _, _, h | .tuple _ :: _, _, h | .dict _ :: _, _, h => by cases h
theorem intsD_some : ∀ {ds : List PyData} {zs : List Int}, intsD ds = some zs → ds = zs.map .int
  | [], zs, h => by cases h; rfl
  | .int z :: ds, zs, h => by
    simp only [intsD, Option.map_eq_some_iff] at h
    obtain ⟨ys, h1, rfl⟩ := h
    rw [intsD_some h1]; rfl
  | .none :: _, _, h | .bool _ :: _, _, h | .str _ :: _, _, h | .list _ :: _, _, h | .tuple _ :: _, _, h | .dict _ :: _, _, h => by cases h
theorem FdA_strs {F : Addr → Prop} {H : Hp} : ∀ zs : List Str, FdA F H (zs.map V.str) (zs.map .str)
  | [] => .nil
  | z :: zs => .cons (.str z) (FdA_strs zs)
theorem FdA_ints {F : Addr → Prop} {H : Hp} : ∀ zs : List Int, FdA F H (zs.map V.int) (zs.map .int)
  | [] => .nil
  | z :: zs => .cons (.int z) (FdA_ints zs)
end
section
variable {X : Cx} {EX : WX} {e : Expr} {m : ME} {p p2 q pos : Pos}
theorem se_sortSet (hc : X.calm = true) (hg : Gl X "sorted") (hm : X.mg "sorted" = none) (hg2 : Gl X "set") (hm2 : X.mg "set" = none) (he : SE X EX e m)
    (na : starEach [e] X.env = (false, eval e X.env) :: starEach [] X.env := by rfl) : SE X EX (.Call (.Name "sorted" p) [.Call (.Name "set" p2) [e] [] q] [] pos) (mUn sortSetV m) := by
  refine (pe_sortSet hc hg hm hg2 hm2 he na).wk fun σ H Q h => ?_
  obtain ⟨W, S, ρ, h, er, p⟩ := h
  refine EV.T.step h er p fun x S1 W1 H1 v e1 h1 er1 r1 p1 => ?_
  unfold sortSetV at p1
  split at p1
  · rename_i ds e2
    split at p1
    · rename_i hl
      split at p1
      · rename_i es e3
        obtain ⟨a, vs, rfl, g1, g2⟩ := someD_ok h1 r1 e2
        refine ⟨a, rfl, ?_⟩
        unfold srtD at e3
        split at e3
        · rename_i zs e4
          cases e3
          have q1 := strsD_ok g1 e4
          have q2 := strsD_some e4
          subst q1 q2
          exact .inl ⟨zs, g2, by simpa using hl, fun p hp => p1.newF h1 hp (newLst h1 hp (FdA_strs _))⟩
        · split at e3
          · rename_i zs e4
            cases e3
            have q1 := intsD_ok g1 e4
            have q2 := intsD_some e4
            subst q1 q2
            exact .inr ⟨zs, g2, by simpa using hl, fun p hp => p1.newF h1 hp (newLst h1 hp (FdA_ints _))⟩
          · cases e3
      · exact p1.elim
    · exact p1.elim
  · exact p1.elim
theorem se_lenSet (hc : X.calm = true) (hg : Gl X "len") (hm : X.mg "len" = none) (hg2 : Gl X "set") (hm2 : X.mg "set" = none) (he : SE X EX e m)
    (na : starEach [e] X.env = (false, eval e X.env) :: starEach [] X.env := by rfl) : SE X EX (.Call (.Name "len" p) [.Call (.Name "set" p2) [e] [] q] [] pos) (mUn lenSetV m) := by
  refine (pe_lenSet hc hg hm hg2 hm2 he na).wk fun σ H Q h => ?_
  obtain ⟨W, S, ρ, h, er, p⟩ := h
  refine EV.T.step h er p fun x S1 W1 H1 v e1 h1 er1 r1 p1 => ?_
  unfold lenSetV at p1
  split at p1
  · rename_i ds e2
    split at p1
    · rename_i hl
      split at p1
      · rename_i es e3
        obtain ⟨a, vs, rfl, g1, g2⟩ := someD_ok h1 r1 e2
        refine ⟨a, rfl, ?_⟩
        unfold srtD at e3
        split at e3
        · rename_i zs e4
          cases e3
          have q1 := strsD_ok g1 e4
          have q2 := strsD_some e4
          subst q1 q2
          exact .inl ⟨zs, g2, by simpa using hl, by simpa using p1.hereD h1 (.int _)⟩
        · split at e3
          · rename_i zs e4
            cases e3
            have q1 := intsD_ok g1 e4
            have q2 := intsD_some e4
            subst q1 q2
            exact .inr ⟨zs, g2, by simpa using hl, by simpa using p1.hereD h1 (.int _)⟩
          · cases e3
      · exact p1.elim
    · exact p1.elim
  · exact p1.elim
/-- xs[::-1] of a list -/
def revV (x : Vl) (S : Sto) : RE := match seqV x S with
  | some (true, xs) => match allD xs with
    | some ds => .ok (.d (.list ds.reverse)) S
    | none => .bad
  | _ => .bad
theorem se_revL {k : Nat} {p1 p3 : Pos} (he : SE X EX e m) : SE X EX (.Subscript e (.Slice none none (some (.UnaryOp .USub (.Constant (.int 1) k p1) p2)) p3) pos) (mUn revV m) := by
  refine (pe_revL he).wk fun σ H Q h => ?_
  obtain ⟨W, S, ρ, h, er, p⟩ := h
  refine EV.T.step h er p fun x S1 W1 H1 v e1 h1 er1 r1 p1 => ?_
  unfold revV at p1
  split at p1
  · rename_i xs e2
    split at p1
    · rename_i ds e3
      obtain ⟨a, vs, rfl, g1, g2, g3⟩ := seqV_ok h1 r1 e2
      have := allD_some e3
      subst this
      exact ⟨a, vs, rfl, g2 rfl, fun l hl => p1.newF h1 hl (newLst h1 hl (RepA.toD g1).reverse)⟩
    · exact p1.elim
  · exact p1.elim
end
end EV

/-! EvSorted: sorted(xs) of a list or a tuple, texts or whole numbers. -/
namespace EV
open PySem PySem.Spec PyProof.Rows L2
section
variable {P : Program} {w : World} {A : Around} {E : Value → Shared → Prop} {s : Shared} {l : Addr} {vs : List Value}
def gath (h : Heap) (vs : List Value) : Heap := (h.push (seqObj "list" #[] 0)).update h.objs.size (Obj.mapSeq (· ++ vs.toArray))
theorem gath_old {h : Heap} {b : Addr} {ob : Obj} (e : h.get? b = some ob) : (gath h vs).get? b = some ob := by
  unfold gath
  rw [Heap.get?_update_ne _ _ _ _ (Nat.ne_of_lt (Heap.lt_size e))]
  exact Heap.get?_push_of_some _ e
theorem gath_size {h : Heap} : (gath h vs).objs.size = h.objs.size + 1 := by
  unfold gath
  rw [Heap.size_update, size_push']
theorem collect_seq {Q : List Value → Shared → Prop} (T : String) (hT : T = "list" ∨ T = "tuple") (hl : ∃ ob, s.heap.get? l = some ob ∧ ob.cls = .type T ∧ ∃ n, ob.data = .seq vs.toArray n)
    (sz : vs.length ≤ sizeLine) (h : Q vs { s with heap := gath s.heap vs }) : wpAny (model P w) A (collect (.ref l)) Q E s := by
  obtain ⟨ob, e1, e2, n, e3⟩ := hl
  unfold collect
  refine wpAny_bind (wpAny_runValue (codeAny_builtin entry_proto_collect' ?_))
  show wpAny _ _ (do again (.builtin "list.__iadd__" ⟨[← newList [], .ref l], []⟩)) _ _ s
  refine wpAny_bind (wpAny_newList (wpAny_pure ⟨Code.quiet_builtin _ (by decide +kernel), codeAny_builtin entry_list_iadd' ?_⟩))
  show wpAny _ _ (Builtin.List.listExtendWith (.ref s.heap.objs.size) (.ref l) (.ref s.heap.objs.size)) _ _ { s with heap := s.heap.push (seqObj "list" #[] 0) }
  unfold Builtin.List.listExtendWith
  have e4 : (s.heap.push (seqObj "list" #[] 0)).get? l = some ob := Heap.get?_push_of_some _ e1
  refine wpAny_bind (wpAny_typeOf (T := T) ⟨ob, e4, e2⟩ ?_)
  have t1 : (Builtin.List.listSameRef (.ref s.heap.objs.size) (.ref l) || Value.type T == Value.type "list" || Value.type T == Value.type "tuple") = true := by
    rcases hT with rfl | rfl
    · rw [show (Value.type "list" == Value.type "list") = true from rfl, Bool.or_true, Bool.true_or]
    · rw [show (Value.type "tuple" == Value.type "tuple") = true from rfl, Bool.or_true]
  rw [if_pos t1]
  refine wpAny_bind (listItems_at e4 e3 ?_)
  refine wpAny_bind (listItems_at (xs := #[]) (n := 0) (Heap.get?_push_size _ rfl) rfl ?_)
  rw [if_neg (by simp)]
  refine wpAny_bind (listUpdate_at (xs := #[]) (n := 0) (Heap.get?_push_size _ rfl) rfl ?_ (Nat.zero_le _) (by show (#[] ++ vs.toArray).size ≤ sizeLine + 1; simp only [Array.size_append, List.size_toArray, List.length_nil]; omega))
  refine wpAny_pure ?_
  show wpAny (model P w) A (do
      let o ← load s.heap.objs.size
      match o.data with
      | .seq xs _ => pure xs.toList
      | _ => unsupported "internal:collect") Q E { s with heap := gath s.heap vs }
  refine wpAny_bind (wpAny_load (get?_update_seq (Heap.get?_push_size _ rfl) _) ?_)
  show wpAny _ _ (pure ((#[] : Array Value) ++ vs.toArray).toList) Q E _
  rw [show ((#[] : Array Value) ++ vs.toArray).toList = vs by simp]
  exact wpAny_pure h
theorem call_sortD_S {zs : List Str} {Q : Value → Shared → Prop} (hl : s.heap.IsList l vs.toArray ∨ IsTup s.heap l vs.toArray) (hI : StrsAre vs zs) (sz : vs.length ≤ sizeLine)
    (hQ : ∀ (h' : Heap) p (out : Array Value) (c : Nat) (ys : List Str), (∀ b ob, s.heap.get? b = some ob → h'.get? b = some ob) → s.heap.objs.size ≤ p → h'.get? p = some (seqObj "list" out c) → StrsAre out.toList ys → ys = sortD ltZ zs →
      Q (.ref p) { s with heap := h' }) : wpAny (model P w) A (call (.builtin "sorted") [.ref l]) Q E s := by
  refine Calls.call_function_entry kind_sorted plain_sorted entry_sorted (args_sorted1 _) ?_
  unfold Builtin.«sorted»
  refine wpAny_bind (m := checkCount "sorted" 1 1 _) (wpAny_pure ?_)
  have col : ∀ {R : List Value → Shared → Prop}, R vs { s with heap := gath s.heap vs } → wpAny (model P w) A.in1 (collect (.ref l)) R E s := fun h => by
    rcases hl with ⟨ob, e1, e2, e3⟩ | ⟨ob, e1, e2, e3⟩
    · exact collect_seq "list" (.inl rfl) ⟨ob, e1, e2, e3⟩ sz h
    · exact collect_seq "tuple" (.inr rfl) ⟨ob, e1, e2, e3⟩ sz h
  refine wpAny_bind (col ?_)
  refine wpAny_bind (wpAny_newList ?_ (by first | exact sz | simpa using sz))
  have hoL : ((gath s.heap vs).push (seqObj "list" vs.toArray 0)).get? (gath s.heap vs).objs.size = some (seqObj "list" vs.toArray 0) := Heap.get?_push_size _ rfl
  refine wpAny_bind (wpAny_holding (wpAny_call_entry slot_list_sort ⟨_, hoL, rfl⟩ entry_list_sort (list_sort_treeKAny strKind_oneLt hoL hI.keysOf (fun v₁ v₂ rest e => keyKind_strs (by rw [← e]; exact hI)) sz fun st' a1 a2 => ⟨_, rfl, ?_⟩) (args_list_sort _)))
  obtain ⟨ys, y1, y2, y3⟩ := out_strs hI a1 a2
  obtain ⟨c, hc⟩ := sortedHeap_at (vs := vs) (out := (arrOf st').map (·.2)) hoL
  refine wpAny_pure ⟨_, rfl, hQ _ (gath s.heap vs).objs.size _ c ys (fun b u e => ?_) (by rw [gath_size]; exact Nat.le_succ _) hc y1 (sortD_is lt_Z y3 y2)⟩
  have q := gath_old (vs := vs) e
  have lt := Heap.lt_size q
  show (sortedHeap ((gath s.heap vs).push (seqObj "list" vs.toArray 0)) (gath s.heap vs).objs.size vs _).get? b = some u
  rw [sortedHeap_old (Nat.ne_of_lt lt) (by rw [size_push']; exact Nat.lt_succ_of_lt lt)]
  exact Heap.get?_push_of_some _ q
theorem call_sortD_I {zs : List Int} {Q : Value → Shared → Prop} (hl : s.heap.IsList l vs.toArray ∨ IsTup s.heap l vs.toArray) (hI : IntsAre vs zs) (sz : vs.length ≤ sizeLine)
    (hQ : ∀ (h' : Heap) p (out : Array Value) (c : Nat) (ys : List Int), (∀ b ob, s.heap.get? b = some ob → h'.get? b = some ob) → s.heap.objs.size ≤ p → h'.get? p = some (seqObj "list" out c) → IntsAre out.toList ys → ys = sortD ltI zs →
      Q (.ref p) { s with heap := h' }) : wpAny (model P w) A (call (.builtin "sorted") [.ref l]) Q E s := by
  refine Calls.call_function_entry kind_sorted plain_sorted entry_sorted (args_sorted1 _) ?_
  unfold Builtin.«sorted»
  refine wpAny_bind (m := checkCount "sorted" 1 1 _) (wpAny_pure ?_)
  have col : ∀ {R : List Value → Shared → Prop}, R vs { s with heap := gath s.heap vs } → wpAny (model P w) A.in1 (collect (.ref l)) R E s := fun h => by
    rcases hl with ⟨ob, e1, e2, e3⟩ | ⟨ob, e1, e2, e3⟩
    · exact collect_seq "list" (.inl rfl) ⟨ob, e1, e2, e3⟩ sz h
    · exact collect_seq "tuple" (.inr rfl) ⟨ob, e1, e2, e3⟩ sz h
  refine wpAny_bind (col ?_)
  refine wpAny_bind (wpAny_newList ?_ (by first | exact sz | simpa using sz))
  have hoL : ((gath s.heap vs).push (seqObj "list" vs.toArray 0)).get? (gath s.heap vs).objs.size = some (seqObj "list" vs.toArray 0) := Heap.get?_push_size _ rfl
  refine wpAny_bind (wpAny_holding (wpAny_call_entry slot_list_sort ⟨_, hoL, rfl⟩ entry_list_sort (list_sort_treeAny hoL hI sz fun out ys a1 a2 a3 => ⟨_, rfl, ?_⟩) (args_list_sort _)))
  obtain ⟨c, hc⟩ := sortedHeap_at (vs := vs) (out := out) hoL
  have y3 : ys.Pairwise (fun a b => ltI b a = false) := a3.imp fun {x y} q => by unfold ltI; rw [decide_eq_false_iff_not]; omega
  refine wpAny_pure ⟨_, rfl, hQ _ (gath s.heap vs).objs.size _ c ys (fun b u e => ?_) (by rw [gath_size]; exact Nat.le_succ _) hc a1 (sortD_is lt_I y3 a2)⟩
  have q := gath_old (vs := vs) e
  have lt := Heap.lt_size q
  show (sortedHeap ((gath s.heap vs).push (seqObj "list" vs.toArray 0)) (gath s.heap vs).objs.size vs _).get? b = some u
  rw [sortedHeap_old (Nat.ne_of_lt lt) (by rw [size_push']; exact Nat.lt_succ_of_lt lt)]
  exact Heap.get?_push_of_some _ q
end
section
variable {X : Cx} {EX : WX}
def rSortAll (K : PySem.W.Frag) : List V → Hp → VK → Prop := fun vs H Q => ∃ l, vs = [.ref l] ∧
  ((∃ zs : List Str, SqS K H l zs ∧ ∀ p, H p = none → Q (.ref p) (upd H p (.lst ((sortD ltZ zs).map V.str)))) ∨ (∃ zs : List Int, SqI K H l zs ∧ ∀ p, H p = none → Q (.ref p) (upd H p (.lst ((sortD ltI zs).map V.int)))))
theorem sq_strs {pins : List (Addr × Obj)} {σ : L2.St} {H : Hp} {s : Shared} (I : Inv X pins σ H s) {l : Addr} {zs : List Str} (h : SqS X.K H l zs) : ∃ its : List Value, StrsAre its zs ∧ its.length ≤ sizeLine ∧ (s.heap.IsList l its.toArray ∨ IsTup s.heap l its.toArray) := by
  rcases h with h | h
  · obtain ⟨its, r, hl, hz⟩ := I.list h
    have ln := r.length
    exact ⟨its, strs_are r, by omega, .inl hl.isList⟩
  · obtain ⟨its, r, hl, hz⟩ := I.tuple h
    have ln := r.length
    exact ⟨its, strs_are r, by omega, .inr hl⟩
theorem sq_ints {pins : List (Addr × Obj)} {σ : L2.St} {H : Hp} {s : Shared} (I : Inv X pins σ H s) {l : Addr} {zs : List Int} (h : SqI X.K H l zs) : ∃ its : List Value, IntsAre its zs ∧ its.length ≤ sizeLine ∧ (s.heap.IsList l its.toArray ∨ IsTup s.heap l its.toArray) := by
  rcases h with h | h
  · obtain ⟨its, r, hl, hz⟩ := I.list h
    have ln := r.length
    exact ⟨its, r.ints, by omega, .inl hl.isList⟩
  · obtain ⟨its, r, hl, hz⟩ := I.tuple h
    have ln := r.length
    exact ⟨its, r.ints, by omega, .inr hl⟩
theorem call_sortAll : CallR X (.builtin "sorted") (rSortAll X.K) := by
  intro pins s σ H vs us Q I r h
  obtain ⟨l, rfl, q⟩ := h
  rw [Vals.ref1 r]
  rcases q with ⟨zs, hs, q⟩ | ⟨zs, hs, q⟩
  · obtain ⟨its, r1, r2, r3⟩ := sq_strs I hs
    refine call_sortD_S r3 r1 r2 fun h' p out c ys k hp hg hi ey => ?_
    subst ey
    have hlen : ((sortD ltZ zs).map V.str).length ≤ sizeLine := by
      rw [List.length_map, (sortD_perm zs).length_eq, ← r1.length]; exact r2
    have hn : H p = none := I.hok.fresh hp
    exact ⟨.ref p, upd H p (.lst ((sortD ltZ zs).map V.str)), I.laid (t' := s.toks) k hp ⟨hlen, out.toList, c, vals_strs hi, hg⟩, rfl, q p hn⟩
  · obtain ⟨its, r1, r2, r3⟩ := sq_ints I hs
    refine call_sortD_I r3 r1 r2 fun h' p out c ys k hp hg hi ey => ?_
    subst ey
    have hlen : ((sortD ltI zs).map V.int).length ≤ sizeLine := by
      rw [List.length_map, (sortD_perm zs).length_eq, ← r1.length]; exact r2
    have hn : H p = none := I.hok.fresh hp
    exact ⟨.ref p, upd H p (.lst ((sortD ltI zs).map V.int)), I.laid (t' := s.toks) k hp ⟨hlen, out.toList, c, vals_of_ints hi, hg⟩, rfl, q p hn⟩
def sortedV (x : Vl) (S : Sto) : RE := match someD x S with
  | some ds => match srtD false ds with
    | some es => .ok (.d (.list es)) S
    | none => .bad
  | none => .bad
theorem blt_sorted : BltS X EX (.builtin "sorted") (one sortedV) := by
  refine blt1 call_sortAll fun W S H σ x v Q h r p => ?_
  unfold sortedV at p
  split at p
  · rename_i ds e2
    split at p
    · rename_i es e3
      obtain ⟨a, vs, rfl, g1, g2⟩ := someD_ok h r e2
      refine ⟨a, rfl, ?_⟩
      unfold srtD at e3
      split at e3
      · rename_i zs e4
        cases e3
        have q1 := strsD_ok g1 e4
        have q2 := strsD_some e4
        subst q1 q2
        exact .inl ⟨zs, g2, fun p' hp => p.newF h hp (newLst h hp (FdA_strs _))⟩
      · split at e3
        · rename_i zs e4
          cases e3
          have q1 := intsD_ok g1 e4
          have q2 := intsD_some e4
          subst q1 q2
          exact .inr ⟨zs, g2, fun p' hp => p.newF h hp (newLst h hp (FdA_ints _))⟩
        · cases e3
    · exact p.elim
  · exact p.elim
end
end EV

/-! EvWp: the functions of values, unfolded. -/
namespace EV
open PySem PySem.Spec PyProof.Rows L2
section
variable {ρ : Nv} {S : Sto} {a b c : ME} {as : MA} {f g : Vl → Vl → Sto → RE} {x y : Vl} {i j : Nat}
def varR (o : Option (Option Vl)) (S : Sto) : RE := match o with
  | some (some x) => .ok x S
  | _ => .bad
@[simp] theorem varR_some : varR (some (some x)) S = .ok x S := rfl
@[simp] theorem mVar_eq : mVar i ρ S = varR ρ[i]? S := by unfold mVar varR; rfl
@[simp] theorem mC_eq {d : PyData} : mC d ρ S = .ok (.d d) S := rfl
@[simp] theorem mK_eq {ds : List PyData} : mK ds ρ S = .ok (.k ds) S := rfl
@[simp] theorem mBin_eq : mBin f a b ρ S = (a ρ S).bind fun x S1 => (b ρ S1).bind fun y S2 => f x y S2 := rfl
@[simp] theorem mUn_eq {f : Vl → Sto → RE} : mUn f a ρ S = (a ρ S).bind f := rfl
@[simp] theorem mAnd_eq : mAnd a b ρ S = (a ρ S).bind fun x S1 => onB x .bad fun k => if k then b ρ S1 else .ok (.d (.bool false)) S1 := rfl
@[simp] theorem mOr_eq : mOr a b ρ S = (a ρ S).bind fun x S1 => onB x .bad fun k => if k then .ok (.d (.bool true)) S1 else b ρ S1 := rfl
@[simp] theorem mNot_eq : mNot a ρ S = (a ρ S).bind fun x S1 => onB x .bad fun k => .ok (.d (.bool !k)) S1 := rfl
@[simp] theorem mIte_eq : mIte c a b ρ S = (c ρ S).bind fun x S1 => onB x .bad fun k => if k then a ρ S1 else b ρ S1 := rfl
@[simp] theorem mChain_eq : mChain f g a b c ρ S = (a ρ S).bind fun x S1 => (b ρ S1).bind fun y S2 => (f x y S2).bind fun z S3 => onB z .bad fun k => if k then (c ρ S3).bind fun w S4 => g y w S4 else .ok (.d (.bool false)) S3 := rfl
def truR (o : Option Bool) (S : Sto) : RE := match o with
  | some b => .ok (.d (.bool b)) S
  | none => .bad
@[simp] theorem truR_some {k : Bool} : truR (some k) S = .ok (.d (.bool k)) S := rfl
@[simp] theorem mTru_eq : mTru a ρ S = (a ρ S).bind fun x S1 => truR (truV x S1) S1 := by
  unfold mTru truR; rfl
@[simp] theorem truV_b {k : Bool} : truV (.d (.bool k)) S = some k := rfl
@[simp] theorem aNil_eq : aNil ρ S = .ok [] S := rfl
@[simp] theorem aCons_eq : aCons a as ρ S = (a ρ S).bindA fun x S1 => (as ρ S1).bindA fun xs S2 => .ok (x :: xs) S2 := rfl
@[simp] theorem mBlt_eq {g : List Vl → Sto → RE} : mBlt g as ρ S = (as ρ S).bind g := rfl
@[simp] theorem mBltK_eq {g : List Vl → List Vl → Sto → RE} {ak : MA} : mBltK g as ak ρ S = (as ρ S).bind fun xs S1 => (ak ρ S1).bind fun zs S2 => g xs zs S2 := rfl
@[simp] theorem mCall_eq {n : Nat} {m : List Vl → Sto → RE} : mCall n m as ρ S = (as ρ S).bind fun xs S1 => if xs.length = n then (m xs S1).ok' else .bad := rfl
@[simp] theorem mTup_eq : mTup as ρ S = (as ρ S).bind fun xs S1 => if xs.length ≤ 1000 then .ok (mkTup xs) S1 else .bad := rfl
@[simp] theorem mLst_eq : mLst as ρ S = (as ρ S).bind fun xs S1 => match allD xs with
  | some ds => if xs.length ≤ 1000 then .ok (.d (.list ds)) S1 else .bad
  | none => .bad := rfl
@[simp] theorem mLstM_eq : mLstM as ρ S = (as ρ S).bind fun xs S1 => if xs.length ≤ 1000 then .ok (.r S1.length) (S1 ++ [.lst xs]) else .bad := rfl
@[simp] theorem mM1_eq : mM1 f a b ρ S = (a ρ S).bind fun x S1 => match x with
  | .d (.str z) => (b ρ S1).bind fun y S2 => f (.d (.str z)) y S2
  | _ => .bad := rfl
@[simp] theorem mMeth_eq {T : String} {f : Vl → List Vl → Sto → RE} : mMeth T f a as ρ S = (a ρ S).bind fun x S1 => if rty x S1 = T then (as ρ S1).bind fun xs S2 => f x xs S2 else .bad := rfl
@[simp] theorem mYes_eq : mYes ρ S = .ok (.d (.bool true)) S := rfl
@[simp] theorem sNil_eq : sNil ρ S = .nx ρ S := rfl
variable {m n : MS}
@[simp] theorem sSeq_eq : sSeq m n ρ S = (m ρ S).seq n := rfl
@[simp] theorem sIf_eq : sIf c m n ρ S = (c ρ S).toS ρ fun x S1 => onB x .bad fun k => if k then m ρ S1 else n ρ S1 := rfl
@[simp] theorem sRet_eq : sRet a ρ S = (a ρ S).toS ρ fun x S1 => .ret x S1 := rfl
@[simp] theorem sExpr_eq : sExpr a ρ S = (a ρ S).toS ρ fun _ S1 => .nx ρ S1 := rfl
@[simp] theorem sSet_eq : sSet i a ρ S = (a ρ S).toS ρ fun x S1 => .nx (ρ.set i (some x)) S1 := rfl
@[simp] theorem sBad_eq : sBad ρ S = .bad := rfl
@[simp] theorem seq_nx : (RS.nx ρ S).seq n = n ρ S := rfl
@[simp] theorem seq_ret : (RS.ret x S).seq n = .ret x S := rfl
@[simp] theorem seq_bad : RS.bad.seq n = .bad := rfl
@[simp] theorem gNm_eq : gNm i x ρ S = some (ρ.set i (some x)) := rfl
end
end EV

/-! EvSimp: values, unfolded. -/
namespace EV
open PySem PySem.Spec PyProof.Rows L2
section
variable {ρ : Nv} {S : Sto} {a b c : ME} {as : MA} {x y : Vl} {i j : Int} {n m : Nat} {d e : PyData} {ds es : List PyData} {z w : Str}
@[simp] theorem mIsI_eq {T : String} : mIsI T a ρ S = (a ρ S).bind fun x S1 => truR (isO T x S1) S1 := by unfold mIsI truR; rfl
@[simp] theorem isO_k : isO "tuple" (.k ds) S = some true := rfl
@[simp] theorem isO_t {xs : List Vl} : isO "tuple" (.t xs) S = some true := rfl
@[simp] theorem isO_0 : isO "bool" (.d (.none)) S = some false := rfl
@[simp] theorem isO_1 : isO "int" (.d (.none)) S = some false := rfl
@[simp] theorem isO_2 : isO "str" (.d (.none)) S = some false := rfl
@[simp] theorem isO_3 : isO "list" (.d (.none)) S = some false := rfl
@[simp] theorem isO_4 : isO "tuple" (.d (.none)) S = some false := rfl
@[simp] theorem isO_5 : isO "dict" (.d (.none)) S = some false := rfl
@[simp] theorem isO_6 {b : Bool} : isO "bool" (.d (.bool b)) S = some true := rfl
@[simp] theorem isO_7 {b : Bool} : isO "int" (.d (.bool b)) S = some true := rfl
@[simp] theorem isO_8 {b : Bool} : isO "str" (.d (.bool b)) S = some false := rfl
@[simp] theorem isO_9 {b : Bool} : isO "list" (.d (.bool b)) S = some false := rfl
@[simp] theorem isO_10 {b : Bool} : isO "tuple" (.d (.bool b)) S = some false := rfl
@[simp] theorem isO_11 {b : Bool} : isO "dict" (.d (.bool b)) S = some false := rfl
@[simp] theorem isO_12 {i : Int} : isO "bool" (.d (.int i)) S = some false := rfl
@[simp] theorem isO_13 {i : Int} : isO "int" (.d (.int i)) S = some true := rfl
@[simp] theorem isO_14 {i : Int} : isO "str" (.d (.int i)) S = some false := rfl
@[simp] theorem isO_15 {i : Int} : isO "list" (.d (.int i)) S = some false := rfl
@[simp] theorem isO_16 {i : Int} : isO "tuple" (.d (.int i)) S = some false := rfl
@[simp] theorem isO_17 {i : Int} : isO "dict" (.d (.int i)) S = some false := rfl
@[simp] theorem isO_18 {z : Str} : isO "bool" (.d (.str z)) S = some false := rfl
@[simp] theorem isO_19 {z : Str} : isO "int" (.d (.str z)) S = some false := rfl
@[simp] theorem isO_20 {z : Str} : isO "str" (.d (.str z)) S = some true := rfl
@[simp] theorem isO_21 {z : Str} : isO "list" (.d (.str z)) S = some false := rfl
@[simp] theorem isO_22 {z : Str} : isO "tuple" (.d (.str z)) S = some false := rfl
@[simp] theorem isO_23 {z : Str} : isO "dict" (.d (.str z)) S = some false := rfl
@[simp] theorem isO_24 {ds : List PyData} : isO "bool" (.d (.list ds)) S = some false := rfl
@[simp] theorem isO_25 {ds : List PyData} : isO "int" (.d (.list ds)) S = some false := rfl
@[simp] theorem isO_26 {ds : List PyData} : isO "str" (.d (.list ds)) S = some false := rfl
@[simp] theorem isO_27 {ds : List PyData} : isO "list" (.d (.list ds)) S = some true := rfl
@[simp] theorem isO_28 {ds : List PyData} : isO "tuple" (.d (.list ds)) S = some false := rfl
@[simp] theorem isO_29 {ds : List PyData} : isO "dict" (.d (.list ds)) S = some false := rfl
@[simp] theorem isO_30 {ds : List PyData} : isO "bool" (.d (.tuple ds)) S = some false := rfl
@[simp] theorem isO_31 {ds : List PyData} : isO "int" (.d (.tuple ds)) S = some false := rfl
@[simp] theorem isO_32 {ds : List PyData} : isO "str" (.d (.tuple ds)) S = some false := rfl
@[simp] theorem isO_33 {ds : List PyData} : isO "list" (.d (.tuple ds)) S = some false := rfl
@[simp] theorem isO_34 {ds : List PyData} : isO "tuple" (.d (.tuple ds)) S = some true := rfl
@[simp] theorem isO_35 {ds : List PyData} : isO "dict" (.d (.tuple ds)) S = some false := rfl
@[simp] theorem isO_36 {kvs : List (PyData × PyData)} : isO "bool" (.d (.dict kvs)) S = some false := rfl
@[simp] theorem isO_37 {kvs : List (PyData × PyData)} : isO "int" (.d (.dict kvs)) S = some false := rfl
@[simp] theorem isO_38 {kvs : List (PyData × PyData)} : isO "str" (.d (.dict kvs)) S = some false := rfl
@[simp] theorem isO_39 {kvs : List (PyData × PyData)} : isO "list" (.d (.dict kvs)) S = some false := rfl
@[simp] theorem isO_40 {kvs : List (PyData × PyData)} : isO "tuple" (.d (.dict kvs)) S = some false := rfl
@[simp] theorem isO_41 {kvs : List (PyData × PyData)} : isO "dict" (.d (.dict kvs)) S = some true := rfl
/-! arithmetic -/
@[simp] theorem addV_int : addV (.d (.int i)) (.d (.int j)) S = .ok (.d (.int (i + j))) S := rfl
@[simp] theorem subV_int : subV (.d (.int i)) (.d (.int j)) S = .ok (.d (.int (i - j))) S := rfl
@[simp] theorem negV_int : negV (.d (.int i)) S = .ok (.d (.int (-i))) S := rfl
@[simp] theorem addV_tup : addV (.d (.tuple ds)) (.d (.tuple es)) S = if ds.length + es.length ≤ sizeLine then .ok (.d (.tuple (ds ++ es))) S else .bad := rfl
@[simp] theorem addV_lst : addV (.d (.list ds)) (.d (.list es)) S = if ds.length + es.length ≤ sizeLine then .ok (.d (.list (ds ++ es))) S else .bad := rfl
@[simp] theorem addV_str : addV (.d (.str z)) (.d (.str w)) S = if z.length + w.length ≤ sizeLine then .ok (.d (.str (z ++ w))) S else .bad := rfl
theorem mulV_int : mulV (.d (.int i)) (.d (.int j)) S = if smallI i || smallI j then .ok (.d (.int (i * j))) S else .bad := rfl
theorem modV_int : modV (.d (.int i)) (.d (.int j)) S = if 0 < j then .ok (.d (.int (i % j))) S else .bad := rfl
theorem fdivV_int : fdivV (.d (.int i)) (.d (.int j)) S = if 0 < j ∧ j.natAbs.log2 < 9000 then .ok (.d (.int (i / j))) S else .bad := rfl
@[simp] theorem ltV_int : ltV (.d (.int i)) (.d (.int j)) S = .ok (.d (.bool (decide (i < j)))) S := rfl
@[simp] theorem leV_int : leV (.d (.int i)) (.d (.int j)) S = .ok (.d (.bool (decide (i ≤ j)))) S := rfl
@[simp] theorem gtV_int : gtV (.d (.int i)) (.d (.int j)) S = .ok (.d (.bool (decide (j < i)))) S := rfl
@[simp] theorem geV_int : geV (.d (.int i)) (.d (.int j)) S = .ok (.d (.bool (decide (j ≤ i)))) S := rfl
/-! equality -/
@[simp] theorem view_d : view (.d d) S = some d := rfl
@[simp] theorem view_k : view (.k ds) S = some (.tuple ds) := rfl
theorem eqVS_d {neg : Bool} : eqVS neg (.d d) (.d e) S = if eqOk d e then .ok (.d (.bool (if neg then !PyData.eqv d e else PyData.eqv d e))) S else .bad := rfl
@[simp] theorem eqVS_str {neg : Bool} : eqVS neg (.d (.str z)) (.d (.str w)) S = .ok (.d (.bool (if neg then !(z == w) else z == w))) S := rfl
@[simp] theorem eqVS_int {neg : Bool} : eqVS neg (.d (.int i)) (.d (.int j)) S = .ok (.d (.bool (if neg then !(i == j) else i == j))) S := rfl
/-! places -/
@[simp] theorem atI_nat {α : Type} {xs : List α} : atI xs (n : Int) = xs[n]? := by
  unfold atI ixN
  by_cases h : (n : Int) < xs.length
  · have h' : n < xs.length := by omega
    simp [h']
  · have h' : xs.length ≤ n := by omega
    simp [h', List.getElem?_eq_none h']
@[simp] theorem atI_lit {α : Type} {xs : List α} : atI xs (no_index (@OfNat.ofNat Int n _)) = xs[(@OfNat.ofNat Nat n _)]? := atI_nat (n := n)
@[simp] theorem atI_0 {α : Type} {xs : List α} : atI xs 0 = xs[0]? := atI_nat (n := 0)
@[simp] theorem atI_1 {α : Type} {xs : List α} : atI xs 1 = xs[1]? := atI_nat (n := 1)
def ixR (o : Option Vl) (S : Sto) : RE := match o with
  | some x => .ok x S
  | none => .bad
@[simp] theorem ixR_some : ixR (some x) S = .ok x S := rfl
@[simp] theorem ixVS_tup : ixVS (.d (.tuple ds)) (.d (.int i)) S = ixR ((atI ds i).map .d) S := by
  unfold ixVS ixR ixV
  simp only [seqV]
  have : atI (ds.map Vl.d) i = (atI ds i).map .d := by
    unfold atI
    rw [List.length_map]
    cases ixN ds.length i <;> simp
  rw [this]
  all_goals (cases atI ds i <;> rfl)
@[simp] theorem ixVS_lst : ixVS (.d (.list ds)) (.d (.int i)) S = ixR ((atI ds i).map .d) S := by
  unfold ixVS ixR ixV
  simp only [seqV]
  have : atI (ds.map Vl.d) i = (atI ds i).map .d := by
    unfold atI
    rw [List.length_map]
    cases ixN ds.length i <;> simp
  rw [this]
  all_goals (cases atI ds i <;> rfl)
@[simp] theorem ixVS_q : ixVS (.q ds) (.d (.int i)) S = ixR ((atI ds i).map .d) S := by
  unfold ixVS ixR ixV
  simp only [seqV]
  have : atI (ds.map Vl.d) i = (atI ds i).map .d := by
    unfold atI
    rw [List.length_map]
    cases ixN ds.length i <;> simp
  rw [this]
  all_goals (cases atI ds i <;> rfl)
@[simp] theorem lenV_tup : lenV (.d (.tuple ds)) S = .ok (.d (.int ds.length)) S := by simp [lenV, lenO, seqV]
@[simp] theorem lenV_lst : lenV (.d (.list ds)) S = .ok (.d (.int ds.length)) S := by simp [lenV, lenO, seqV]
@[simp] theorem lenV_q : lenV (.q ds) S = .ok (.d (.int ds.length)) S := by simp [lenV, lenO, seqV]
@[simp] theorem lenV_k : lenV (.k ds) S = .ok (.d (.int ds.length)) S := by simp [lenV, lenO, seqV]
theorem lenV_str (h : z.length ≤ sizeLine) : lenV (.d (.str z)) S = .ok (.d (.int z.length)) S := by simp [lenV, lenO, h]
/-! displays -/
@[simp] theorem allD_nil : allD [] = some [] := rfl
@[simp] theorem allD_cons {xs : List Vl} : allD (.d d :: xs) = (allD xs).map (d :: ·) := rfl
def tupR (o : Option (List PyData)) (xs : List Vl) : Vl := match o with
  | some ds => .d (.tuple ds)
  | none => .t xs
@[simp] theorem tupR_some {xs : List Vl} : tupR (some ds) xs = .d (.tuple ds) := rfl
@[simp] theorem mkTup_eq {xs : List Vl} : mkTup xs = tupR (allD xs) xs := by unfold mkTup tupR; rfl
/-! what is left of the store -/
@[simp] theorem cutS_same : cutS S.length x S = S := by
  unfold cutS
  split <;> simp
@[simp] theorem envAt_eq {k : Nat} {xs : List Vl} : envAt k xs = xs.map some ++ List.replicate (k - xs.length) none := rfl
@[simp] theorem maxInt2 : max2V (.d (.int i)) (.d (.int j)) S = .ok (.d (.int (if j > i then j else i))) S := rfl
def retR (r : RS) (S : Sto) : RE := match r with
  | .ret x S' => .ok x (cutS S.length x S')
  | .nx _ S' => .ok (.d .none) (cutS S.length (.d .none) S')
  | _ => .bad
theorem spM_eq {m : MS} {k : Nat} {xs : List Vl} : spM m k xs S = retR (m (envAt k xs) S) S := rfl
@[simp] theorem retR_ret {S' : Sto} : retR (.ret x S') S = .ok x (cutS S.length x S') := rfl
@[simp] theorem retR_nx {S' : Sto} : retR (.nx ρ S') S = .ok (.d .none) (cutS S.length (.d .none) S') := rfl
@[simp] theorem one_eq {f : Vl → Sto → RE} : one f [x] S = f x S := rfl
/-- branches -/
@[simp] theorem bind_ite {p : Prop} [Decidable p] {r s : RE} {f : Vl → Sto → RE} : (if p then r else s).bind f = if p then r.bind f else s.bind f := by split <;> rfl
end
end EV

/-! EvLoop: comprehensions and loops in plain words. -/
namespace EV
open PySem PySem.Spec PyProof.Rows L2
section
variable {ρ : Nv} {S : Sto} {x : Vl} {d : PyData} {ds es : List PyData} {z : Str}
def seqI (x : Vl) (S : Sto) : RI := match x with
  | .d (.str z) => .ok (strL z) [] S
  | x => match seqV x S with
    | some (_, xs) => .ok xs (pinV x S) S
    | none => .bad
@[simp] theorem iSeq_eq {m : ME} : iSeq m ρ S = (m ρ S).toI seqI := by unfold iSeq; rfl
@[simp] theorem toI_ok {f : Vl → Sto → RI} : (RE.ok x S).toI f = f x S := rfl
@[simp] theorem toIA_ok {xs : List Vl} {f : List Vl → Sto → RI} : (RA.ok xs S).toI f = f xs S := rfl
@[simp] theorem seqI_lst : seqI (.d (.list ds)) S = .ok (ds.map .d) [] S := rfl
@[simp] theorem seqI_tup : seqI (.d (.tuple ds)) S = .ok (ds.map .d) [] S := rfl
@[simp] theorem seqI_str : seqI (.d (.str z)) S = .ok (strL z) [] S := rfl
@[simp] theorem seqI_q : seqI (.q ds) S = .ok (ds.map .d) [] S := rfl
theorem iEnum_d {m : MA} {b : Bool} {xs : List Vl} (h : m ρ S = .ok [x] S) (e : seqV x S = some (b, xs)) : iEnumM m ρ S = .ok (enumL xs) (pinV x S) S := by
  unfold iEnumM
  rw [h]
  simp [e]
theorem iZip_d {m : MA} {b : Bool} {y : Vl} {xs ys : List Vl} (h : m ρ S = .ok [x, y] S) (e : seqV x S = some (b, xs)) (e' : seqV y S = some (b, ys)) : iZipM m ρ S = .ok (zipL xs ys) (pinV x S ++ pinV y S) S := by
  unfold iZipM
  rw [h]
  simp [e, e']
@[simp] theorem pinV_d : pinV (.d d) S = [] := rfl
@[simp] theorem pinV_k : pinV (.k ds) S = [] := rfl
@[simp] theorem seqV_lst : seqV (.d (.list ds)) S = some (true, ds.map .d) := rfl
@[simp] theorem seqV_tup : seqV (.d (.tuple ds)) S = some (false, ds.map .d) := rfl
@[simp] theorem seqV_k : seqV (.k ds) S = some (false, ds.map .d) := rfl
theorem pins0 : pinsOk [] S := fun _ h => absurd h (by simp)
@[simp] theorem wipeN_nil : wipeN ρ [] = ρ := rfl
@[simp] theorem wipeN_cons {v : Nat} {vs : List Nat} : wipeN ρ (v :: vs) = (wipeN ρ vs).set v none := rfl
/-- a list comprehension that changes nothing -/
theorem lcL_pure {α : Type} {g : MG} {t e : ME} {pins : List (Nat × Cell)} {vs : List Nat} (emb : α → Vl) (p : α → Bool) (f : α → Vl) (hp : pinsOk pins S) : ∀ (L : List α) (acc : List Vl),
    (∀ a ∈ L, ∃ ρ1, g (emb a) (wipeN ρ vs) S = some ρ1 ∧ t ρ1 S = .ok (.d (.bool (p a))) S ∧ (p a = true → e ρ1 S = .ok (f a) S)) →
    lcL g t e pins vs ρ (L.map emb) acc S = .ok (acc ++ (L.filter p).map f) S
  | [], acc, _ => by
    unfold lcL
    simp [hp]
  | a :: L, acc, h => by
    obtain ⟨ρ1, h1, h2, h3⟩ := h a List.mem_cons_self
    have ih := fun acc => lcL_pure emb p f hp L acc fun b hb => h b (List.mem_cons_of_mem _ hb)
    rw [List.map_cons]
    unfold lcL
    rw [if_pos hp]
    simp only [h1, h2, RE.nox_ok, onB_b]
    cases hpa : p a with
    | false => simp [ih, hpa]
    | true => simp [h3 hpa, ih, hpa]
theorem mLc_pure {α : Type} {g : MG} {mi : MI} {t e : ME} {pins : List (Nat × Cell)} {vs : List Nat} (L : List α) (emb : α → Vl) (p : α → Bool) (f : α → PyData) (hi : mi ρ S = .ok (L.map emb) pins S) (hp : pinsOk pins S) (hl : L.length ≤ 1000000)
    (h : ∀ a ∈ L, ∃ ρ1, g (emb a) (wipeN ρ vs) S = some ρ1 ∧ t ρ1 S = .ok (.d (.bool (p a))) S ∧ (p a = true → e ρ1 S = .ok (.d (f a)) S)) :
    mLc g mi t e vs ρ S = .ok (.d (.list ((L.filter p).map f))) S := by
  unfold mLc
  rw [hi]
  simp only [RI.bind_ok, List.length_map, hl, if_true]
  rw [lcL_pure emb p (fun a => .d (f a)) hp L [] h]
  have : (L.filter p).map (fun a => Vl.d (f a)) = ((L.filter p).map f).map .d := by rw [List.map_map]; rfl
  simp only [List.nil_append, RA.nx_ok, this, allD_map]
/-- .. of data, all of it kept -/
theorem mLc_map {α : Type} {g : MG} {mi : MI} {e : ME} {vs : List Nat} (L : List α) (emb : α → PyData) (f : α → PyData) (hi : mi ρ S = .ok ((L.map emb).map .d) [] S) (hl : L.length ≤ 1000000)
    (h : ∀ a ∈ L, ∃ ρ1, g (.d (emb a)) (wipeN ρ vs) S = some ρ1 ∧ e ρ1 S = .ok (.d (f a)) S) : mLc g mi mYes e vs ρ S = .ok (.d (.list (L.map f))) S := by
  have := mLc_pure (ρ := ρ) (S := S) (mi := mi) (t := mYes) L (fun a => .d (emb a)) (fun _ => true) f (by rw [hi, List.map_map]; rfl) pins0 hl (e := e) (g := g) (vs := vs) fun a ha => by
    obtain ⟨ρ1, h1, h2⟩ := h a ha
    exact ⟨ρ1, h1, rfl, fun _ => h2⟩
  rw [List.filter_eq_self.mpr fun _ _ => rfl] at this
  exact this
theorem mLc_filter {α : Type} {g : MG} {mi : MI} {t e : ME} {vs : List Nat} (L : List α) (emb : α → PyData) (p : α → Bool) (f : α → PyData) (hi : mi ρ S = .ok ((L.map emb).map .d) [] S) (hl : L.length ≤ 1000000)
    (h : ∀ a ∈ L, ∃ ρ1, g (.d (emb a)) (wipeN ρ vs) S = some ρ1 ∧ t ρ1 S = .ok (.d (.bool (p a))) S ∧ (p a = true → e ρ1 S = .ok (.d (f a)) S)) : mLc g mi t e vs ρ S = .ok (.d (.list ((L.filter p).map f))) S :=
  mLc_pure L (fun a => .d (emb a)) p f (by rw [hi, List.map_map]; rfl) pins0 hl h
/-- a comprehension that draws: what is left, what is there, the store -/
theorem lcL_inv {g : MG} {t e : ME} {pins : List (Nat × Cell)} {vs : List Nat} (I : List Vl → List Vl → Sto → Prop)
    (hn : ∀ acc S, I [] acc S → pinsOk pins S)
    (hs : ∀ x xs acc S, I (x :: xs) acc S → pinsOk pins S ∧ ∃ ρ1, g x (wipeN ρ vs) S = some ρ1 ∧ ∃ k S1, t ρ1 S = .ok (.d (.bool k)) S1 ∧ (k = true → ∃ y S2, e ρ1 S1 = .ok y S2 ∧ I xs (acc ++ [y]) S2) ∧ (k = false → I xs acc S1)) :
    ∀ (xs acc : List Vl) (S : Sto), I xs acc S → ∃ acc' S', lcL g t e pins vs ρ xs acc S = .ok acc' S' ∧ I [] acc' S'
  | [], acc, S, h => ⟨acc, S, by unfold lcL; rw [if_pos (hn acc S h)], h⟩
  | x :: xs, acc, S, h => by
    obtain ⟨hp, ρ1, h1, k, S1, h2, h3, h4⟩ := hs x xs acc S h
    unfold lcL
    rw [if_pos hp]
    simp only [h1, h2, RE.nox_ok, onB_b]
    cases k with
    | true =>
      obtain ⟨y, S2, h5, h6⟩ := h3 rfl
      obtain ⟨a', S', h7, h8⟩ := lcL_inv I hn hs xs _ S2 h6
      exact ⟨a', S', by simp [h5, h7], h8⟩
    | false =>
      obtain ⟨a', S', h7, h8⟩ := lcL_inv I hn hs xs _ S1 (h4 rfl)
      exact ⟨a', S', by simp [h7], h8⟩
/-- a loop: what is left, the names, the store; it ends by itself -/
theorem forL_inv {g : MG} {body : MS} {pins : List (Nat × Cell)} (I : List Vl → Nv → Sto → Prop)
    (hn : ∀ ρ S, I [] ρ S → pinsOk pins S)
    (hs : ∀ x xs ρ S, I (x :: xs) ρ S → pinsOk pins S ∧ ∃ ρ1, g x ρ S = some ρ1 ∧ ∃ ρ2 S2, (body ρ1 S = .nx ρ2 S2 ∨ body ρ1 S = .ct ρ2 S2) ∧ I xs ρ2 S2) :
    ∀ (xs : List Vl) (ρ : Nv) (S : Sto), I xs ρ S → ∃ ρ' S', forL g body pins xs ρ S = .nx ρ' S' ∧ I [] ρ' S'
  | [], ρ, S, h => ⟨ρ, S, by unfold forL; rw [if_pos (hn ρ S h)], h⟩
  | x :: xs, ρ, S, h => by
    obtain ⟨hp, ρ1, h1, ρ2, S2, h2, h3⟩ := hs x xs ρ S h
    obtain ⟨ρ', S', h4, h5⟩ := forL_inv I hn hs xs ρ2 S2 h3
    refine ⟨ρ', S', ?_, h5⟩
    unfold forL
    rw [if_pos hp]
    rcases h2 with h2 | h2 <;> simp [h1, h2, h4]
/-- one that may return -/
theorem forL_ret {g : MG} {body : MS} {pins : List (Nat × Cell)} (I : List Vl → Nv → Sto → Prop) (R : Vl → Sto → Prop)
    (hn : ∀ ρ S, I [] ρ S → pinsOk pins S)
    (hs : ∀ x xs ρ S, I (x :: xs) ρ S → pinsOk pins S ∧ ∃ ρ1, g x ρ S = some ρ1 ∧ ((∃ ρ2 S2, body ρ1 S = .nx ρ2 S2 ∧ I xs ρ2 S2) ∨ ∃ v S2, body ρ1 S = .ret v S2 ∧ R v S2)) :
    ∀ (xs : List Vl) (ρ : Nv) (S : Sto), I xs ρ S → (∃ ρ' S', forL g body pins xs ρ S = .nx ρ' S' ∧ I [] ρ' S') ∨ ∃ v S', forL g body pins xs ρ S = .ret v S' ∧ R v S'
  | [], ρ, S, h => .inl ⟨ρ, S, by unfold forL; rw [if_pos (hn ρ S h)], h⟩
  | x :: xs, ρ, S, h => by
    obtain ⟨hp, ρ1, h1, h2⟩ := hs x xs ρ S h
    unfold forL
    rw [if_pos hp]
    rcases h2 with ⟨ρ2, S2, h2, h3⟩ | ⟨v, S2, h2, h3⟩
    · simp only [h1, h2]
      exact forL_ret I R hn hs xs ρ2 S2 h3
    · exact .inr ⟨v, S2, by simp [h1, h2], h3⟩
@[simp] theorem sFor_eq {g : MG} {mi : MI} {body : MS} : sFor g mi body ρ S = (mi ρ S).toS ρ fun xs p S1 => forL g body p xs ρ S1 := rfl
theorem forL_nil {g : MG} {body : MS} : forL g body [] [] ρ S = .nx ρ S := by unfold forL; rw [if_pos pins0]
theorem forL_cons {g : MG} {body : MS} {xs : List Vl} : forL g body [] (x :: xs) ρ S = (match g x ρ S with
    | none => .bad
    | some ρ1 => match body ρ1 S with
      | .nx ρ2 S2 => forL g body [] xs ρ2 S2
      | .ct ρ2 S2 => forL g body [] xs ρ2 S2
      | .bk ρ2 S2 => .nx ρ2 S2
      | r => r) := by
  rw [forL.eq_2]
  rw [if_pos pins0]
  all_goals
    cases g x ρ S with
    | none => rfl
    | some ρ1 => cases body ρ1 S <;> rfl
/-- a tuple taken apart -/
@[simp] theorem gUn_tup {n : Nat} {gs : List Vl → Nv → Sto → Option Nv} : gUn n gs (.d (.tuple ds)) ρ S = if ds.length = n then gs (ds.map .d) ρ S else none := by
  simp [gUn]
@[simp] theorem gUn_t {n : Nat} {xs : List Vl} {gs : List Vl → Nv → Sto → Option Nv} : gUn n gs (.t xs) ρ S = if xs.length = n then gs xs ρ S else none := by
  simp [gUn, seqV]
theorem gUn_U {n : Nat} {xs : List Vl} {gs : List Vl → Nv → Sto → Option Nv} (h : xs.length = n) : gUn n gs (mkTupU xs) ρ S = gs xs ρ S := by
  unfold mkTupU
  split
  · rename_i ds e
    have := allD_some e
    subst this
    split
    · rw [gUn_t, if_pos h]
    · rw [gUn_tup, if_pos (by simpa using h)]
  · rw [gUn_t, if_pos h]
@[simp] theorem gsCons_eq {g : MG} {r : List Vl → Nv → Sto → Option Nv} {xs : List Vl} : gsCons g r (x :: xs) ρ S = match g x ρ S with
  | some ρ1 => r xs ρ1 S
  | none => none := rfl
@[simp] theorem gsNil_eq : gsNil [] ρ S = some ρ := rfl
/-- a loop by its turns -/
theorem forL_ix {g : MG} {body : MS} (xs : List Vl) (I : Nat → Nv → Sto → Prop) (h0 : I 0 ρ S)
    (hs : ∀ i x ρ S, xs[i]? = some x → I i ρ S → ∃ ρ1, g x ρ S = some ρ1 ∧ ∃ ρ2 S2, (body ρ1 S = .nx ρ2 S2 ∨ body ρ1 S = .ct ρ2 S2) ∧ I (i + 1) ρ2 S2) :
    ∃ ρ' S', forL g body [] xs ρ S = .nx ρ' S' ∧ I xs.length ρ' S' := by
  obtain ⟨ρ', S', h1, i, h2, h3, h4⟩ := forL_inv (g := g) (body := body) (pins := []) (fun r ρ S => ∃ i, r = xs.drop i ∧ i ≤ xs.length ∧ I i ρ S) (fun _ _ _ => pins0) (fun x r ρ S ⟨i, e, hi, h⟩ => by
    have hx : xs[i]? = some x := by
      have := List.getElem?_drop (xs := xs) (i := i) (j := 0)
      rw [← e] at this
      simpa using this.symm
    have hr : r = xs.drop (i + 1) := by
      have := List.drop_drop (i := 1) (j := i) (l := xs)
      rw [← e] at this
      simpa [Nat.add_comm] using this
    obtain ⟨ρ1, h1, ρ2, S2, h2, h3⟩ := hs i x ρ S hx h
    have hlt := (List.getElem?_eq_some_iff.mp hx).1
    exact ⟨pins0, ρ1, h1, ρ2, S2, h2, i + 1, hr, hlt, h3⟩) xs ρ S ⟨0, rfl, Nat.zero_le _, h0⟩
  refine ⟨ρ', S', h1, ?_⟩
  have : xs.length ≤ i := by
    have := congrArg List.length h2
    rw [List.length_drop, List.length_nil] at this
    omega
  have : i = xs.length := by omega
  rw [← this]
  exact h4
/-- a drawing comprehension by its turns -/
theorem lcL_ix {g : MG} {t e : ME} {vs : List Nat} (xs : List Vl) (I : Nat → List Vl → Sto → Prop) (h0 : I 0 [] S)
    (hs : ∀ i x acc S, xs[i]? = some x → I i acc S → ∃ ρ1, g x (wipeN ρ vs) S = some ρ1 ∧ ∃ k S1, t ρ1 S = .ok (.d (.bool k)) S1 ∧ (k = true → ∃ y S2, e ρ1 S1 = .ok y S2 ∧ I (i + 1) (acc ++ [y]) S2) ∧ (k = false → I (i + 1) acc S1)) :
    ∃ acc' S', lcL g t e [] vs ρ xs [] S = .ok acc' S' ∧ I xs.length acc' S' := by
  obtain ⟨acc', S', h1, i, h2, h3, h4⟩ := lcL_inv (g := g) (t := t) (e := e) (pins := []) (vs := vs) (ρ := ρ) (fun r acc S => ∃ i, r = xs.drop i ∧ i ≤ xs.length ∧ I i acc S) (fun _ _ _ => pins0) (fun x r acc S ⟨i, e, hi, h⟩ => by
    have hx : xs[i]? = some x := by
      have := List.getElem?_drop (xs := xs) (i := i) (j := 0)
      rw [← e] at this
      simpa using this.symm
    have hr : r = xs.drop (i + 1) := by
      have := List.drop_drop (i := 1) (j := i) (l := xs)
      rw [← e] at this
      simpa [Nat.add_comm] using this
    have hlt := (List.getElem?_eq_some_iff.mp hx).1
    obtain ⟨ρ1, h1, k, S1, h2, h3, h4⟩ := hs i x acc S hx h
    exact ⟨pins0, ρ1, h1, k, S1, h2, fun hk => let ⟨y, S2, a, b⟩ := h3 hk; ⟨y, S2, a, i + 1, hr, hlt, b⟩, fun hk => ⟨i + 1, hr, hlt, h4 hk⟩⟩) xs [] S ⟨0, rfl, Nat.zero_le _, h0⟩
  refine ⟨acc', S', h1, ?_⟩
  have : xs.length ≤ i := by
    have := congrArg List.length h2
    rw [List.length_drop, List.length_nil] at this
    omega
  have : i = xs.length := by omega
  rw [← this]
  exact h4
theorem enumU {i : Int} : mkTupU [.d (.int i), .d d] = .d (.tuple [.int i, d]) := by
  simp [mkTupU, isRefD]
theorem enumL_get' {α : Type} {L : List α} {emb : α → PyData} {i : Nat} {x : Vl} (h : (enumL ((L.map emb).map .d))[i]? = some x) : ∃ a, L[i]? = some a ∧ x = .d (.tuple [.int i, emb a]) := by
  rw [enumL_get, List.map_map, List.getElem?_map] at h
  cases e : L[i]? with
  | none => rw [e] at h; cases h
  | some a =>
    rw [e] at h
    simp only [Option.map_some, Option.some.injEq, Function.comp_apply] at h
    exact ⟨a, rfl, by rw [← h, enumU]⟩
theorem enumL_len {xs : List Vl} : (enumL xs).length = xs.length := by simp [enumL]
@[simp] theorem mSlice_eq {ma : ME} {lo hi : MO} : mSlice ma lo hi ρ S = (ma ρ S).bind fun x S1 => mPart lo (fun l S2 => mPart hi (fun u S3 => match sliceV x l u S3 with
  | some v => .ok v S3
  | none => .bad) ρ S2) ρ S1 := rfl
@[simp] theorem mPart_none {f : Option Int → Sto → RE} : mPart none f ρ S = f none S := rfl
@[simp] theorem mPart_some {f : Option Int → Sto → RE} {m : ME} : mPart (some m) f ρ S = (m ρ S).bind fun x S1 => match x with
    | .d (.int i) => f (some i) S1
    | _ => .bad := rfl
@[simp] theorem sliceV_tup {lo hi : Option Int} : sliceV (.d (.tuple ds)) lo hi S = some (.d (.tuple (cutL ds lo hi))) := rfl
@[simp] theorem sliceV_lst {lo hi : Option Int} : sliceV (.d (.list ds)) lo hi S = some (.d (.list (cutL ds lo hi))) := rfl
theorem cutL_take {α : Type} {xs : List α} {i : Nat} : cutL xs none (some (i : Int)) = xs.take i := by
  unfold cutL
  rw [HT.sIx_none, HT.sIx_nat, List.drop_zero, Nat.sub_zero]
  exact List.take_eq_take_iff.mpr (by omega)
theorem cutL_drop {α : Type} {xs : List α} {i : Nat} : cutL xs (some (i : Int)) none = xs.drop i := by
  unfold cutL
  rw [HT.sIx_none, HT.sIx_nat]
  by_cases h : i ≤ xs.length
  · rw [Nat.min_eq_left h, List.take_of_length_le (by rw [List.length_drop]; exact Nat.le_refl _)]
  · have h' : xs.length ≤ i := by omega
    rw [Nat.min_eq_right h', List.drop_of_length_le (Nat.le_refl _), List.drop_of_length_le h']
    simp
/-! new cells behind the store -/
variable {c c' : Cell} {G : List Cell} {xs : List Vl} {y : Vl}
@[simp] theorem at0 : (S ++ c :: G)[S.length]? = some c := by simp
@[simp] theorem at1 : (S ++ c :: c' :: G)[S.length + 1]? = some c' := by simp
@[simp] theorem set0 : (S ++ c :: G).set S.length c' = S ++ c' :: G := by simp
@[simp] theorem set1 {c'' : Cell} : (S ++ c :: c' :: G).set (S.length + 1) c'' = S ++ c :: c'' :: G := by
  rw [List.set_append_right _ _ (Nat.le_add_right _ _)]
  simp
def Clo (S : Sto) : Prop := S.all (clC S.length) = true
theorem cutS_app (hS : Clo S) (hx : clV S.length x = true) : cutS S.length x (S ++ G) = S := by
  unfold cutS
  rw [hx, List.take_left' rfl]
  unfold Clo at hS
  rw [hS]
  rfl
theorem cutS_d (hS : Clo S) : cutS S.length (.d d) (S ++ G) = S := cutS_app hS rfl
theorem rty_lst {l : Nat} (h : S[l]? = some (.lst xs)) : rty (.r l) S = "list" := by simp [rty, h]
theorem appV_at {l : Nat} (h : S[l]? = some (.lst xs)) (hl : xs.length < 1000000) : appV (.r l) [y] S = .ok (.d .none) (S.set l (.lst (xs ++ [y]))) := by simp [appV, h, hl]
theorem frz_at {l : Nat} (h : S[l]? = some (.lst (ds.map .d))) : frzV (.r l) S = some (.d (.list ds), S.set l .dead) := by simp [frzV, h]
@[simp] theorem mFrz_eq {m : ME} : mFrz m ρ S = (m ρ S).bind fun x S1 => match frzV x S1 with
  | some (y, S2) => .ok y S2
  | none => .bad := rfl
theorem tuple_at {l : Nat} (h : S[l]? = some (.lst (ds.map .d))) : tupleV (.r l) S = .ok (.d (.tuple ds)) S := by
  unfold tupleV
  simp [seqV, h, tupR]
/-- a turn ends by itself -/
def RS.go (r : RS) (J : Nv → Sto → Prop) : Prop := match r with
  | .nx ρ S => J ρ S
  | .ct ρ S => J ρ S
  | _ => False
@[simp] theorem go_nx {J : Nv → Sto → Prop} : (RS.nx ρ S).go J = J ρ S := rfl
@[simp] theorem go_ct {J : Nv → Sto → Prop} : (RS.ct ρ S).go J = J ρ S := rfl
def Option.go (r : Option Nv) (J : Nv → Prop) : Prop := match r with
  | some ρ => J ρ
  | none => False
@[simp] theorem ogo_some {J : Nv → Prop} : Option.go (some ρ) J = J ρ := rfl
theorem forL_st {g : MG} {body : MS} (xs : List Vl) (I : Nat → Nv → Sto → Prop) (h0 : I 0 ρ S)
    (hs : ∀ i x ρ S, xs[i]? = some x → I i ρ S → Option.go (g x ρ S) fun ρ1 => (body ρ1 S).go (I (i + 1))) : ∃ ρ' S', forL g body [] xs ρ S = .nx ρ' S' ∧ I xs.length ρ' S' := by
  refine forL_ix xs I h0 fun i x ρ S hx hi => ?_
  have h := hs i x ρ S hx hi
  cases e : g x ρ S with
  | none => rw [e] at h; exact h.elim
  | some ρ1 =>
    rw [e] at h
    have h : (body ρ1 S).go (I (i + 1)) := h
    refine ⟨ρ1, rfl, ?_⟩
    cases e2 : body ρ1 S with
    | nx ρ2 S2 => rw [e2] at h; exact ⟨ρ2, S2, .inl rfl, h⟩
    | ct ρ2 S2 => rw [e2] at h; exact ⟨ρ2, S2, .inr rfl, h⟩
    | ret _ _ => rw [e2] at h; exact h.elim
    | bk _ _ => rw [e2] at h; exact h.elim
    | exc _ _ _ => rw [e2] at h; exact h.elim
    | bad => rw [e2] at h; exact h.elim
/-! dicts of tuples -/
@[simp] theorem mDictT_eq : mDictT ρ S = .ok (.r S.length) (S ++ [.dt []]) := rfl
@[simp] theorem mDictK_eq : mDictK ρ S = .ok (.r S.length) (S ++ [.dk []]) := rfl
theorem isDV_dt {l : Nat} {kvs : List (List Key × Vl)} (h : S[l]? = some (.dt kvs)) : isDV (.r l) S = true := by simp [isDV, h]
theorem isDV_dk {l : Nat} {kvs : List (Key × Vl)} (h : S[l]? = some (.dk kvs)) : isDV (.r l) S = true := by simp [isDV, h]
theorem dictAt_dt {l : Nat} {kvs : List (List Key × Vl)} {k : List Key} (h : S[l]? = some (.dt kvs)) (hk : unKeys ds = some k) : dictAt (.r l) (.d (.tuple ds)) S = some (lookC kvs k) := by simp [dictAt, h, hk]
theorem dictAt_dk {l : Nat} {kvs : List (Key × Vl)} {k : Key} (h : S[l]? = some (.dk kvs)) (hk : unKey d = some k) : dictAt (.r l) (.d d) S = some (lookC kvs k) := by simp [dictAt, h, hk]
theorem setV_dt {l : Nat} {kvs : List (List Key × Vl)} {k : List Key} (h : S[l]? = some (.dt kvs)) (hk : unKeys ds = some k) (hl : kvs.length < 1000000) : setV (.r l) (.d (.tuple ds)) x S = some (S.set l (.dt (putC kvs k x))) := by simp [setV, h, hk, hl]
theorem setV_dk {l : Nat} {kvs : List (Key × Vl)} {k : Key} (h : S[l]? = some (.dk kvs)) (hk : unKey d = some k) (hl : kvs.length < 1000000) : setV (.r l) (.d d) x S = some (S.set l (.dk (putC kvs k x))) := by simp [setV, h, hk, hl]
theorem ixVS_dt {l : Nat} {kvs : List (List Key × Vl)} {k : List Key} (h : S[l]? = some (.dt kvs)) (hk : unKeys ds = some k) (hv : lookC kvs k = some x) : ixVS (.r l) (.d (.tuple ds)) S = .ok x S := by
  unfold ixVS ixV
  simp [dictAt_dt h hk, hv]
theorem ixVS_dks {l : Nat} {kvs : List (Key × Vl)} (h : S[l]? = some (.dk kvs)) (hv : lookC kvs (.inr z) = some x) : ixVS (.r l) (.d (.str z)) S = .ok x S := by
  unfold ixVS ixV
  simp [dictAt_dk (d := .str z) (k := .inr z) h rfl, hv]
theorem look_put {κ : Type} [DecidableEq κ] (k : κ) (v : Vl) : ∀ kvs : List (κ × Vl), lookC (putC kvs k v) k = some v := by
  intro kvs
  unfold lookC putC
  split
  · rename_i h
    induction kvs with
    | nil => simp at h
    | cons a r ih =>
      rw [List.map_cons, List.find?_cons]
      by_cases e : a.1 = k
      · simp [e]
      · simp only [List.any_cons, e, decide_false, Bool.false_or] at h
        simp only [e, if_false, decide_false]
        exact ih h
  · rename_i h
    have h : (kvs.any fun kv => decide (kv.1 = k)) = false := Bool.eq_false_iff.mpr h
    have : kvs.find? (fun kv => decide (kv.1 = k)) = none := by
      rw [List.find?_eq_none]
      intro a ha e
      rw [List.any_eq_false] at h
      exact h a ha e
    rw [List.find?_append, this]
    simp
theorem putC_len {κ : Type} [DecidableEq κ] (k : κ) (v : Vl) (kvs : List (κ × Vl)) : (putC kvs k v).length ≤ kvs.length + 1 := by
  unfold putC
  split <;> simp
@[simp] theorem mGet2_eq {a b c : ME} : mGet2 a b c ρ S = (a ρ S).bind fun x S1 => if isDV x S1 then (b ρ S1).bind fun y S2 => (c ρ S2).bind fun z S3 => (match dictAt x y S3 with
  | some o => .ok (o.getD z) S3
  | none => .bad) else .bad := rfl
@[simp] theorem sPut_eq {a b c : ME} : sPut a b c ρ S = (c ρ S).toS ρ fun v S1 => (a ρ S1).toS ρ fun o S2 => (b ρ S2).toS ρ fun i S3 => match setV o i v S3 with
  | some S4 => .nx ρ S4
  | none => .bad := rfl
@[simp] theorem two_eq' {f : Vl → Vl → Sto → RE} {y : Vl} : two f [x, y] S = f x y S := rfl
theorem min2_int {i j : Int} : min2V (.d (.int i)) (.d (.int j)) S = .ok (.d (.int (if j < i then j else i))) S := rfl
@[simp] theorem maxDV_nil {z : Vl} : maxDV [.d (.list [])] [z] S = .ok z S := rfl
theorem maxDV_ints {α : Type} {z : Vl} (L : List α) (f : α → Int) (h : L ≠ []) : maxDV [.d (.list (L.map fun a => .int (f a)))] [z] S = .ok (.d (.int (listMax 0 (L.map f)))) S := by
  have e : intsD (L.map fun a => PyData.int (f a)) = some (L.map f) := by
    have := intsD_map (L.map f)
    rwa [List.map_map] at this
  unfold maxDV
  simp only [seqD, e]
  rw [if_neg (by simpa using h)]
theorem maxLV_ints {α : Type} (L : List α) (f : α → Int) (h : L ≠ []) : maxLV (.d (.list (L.map fun a => .int (f a)))) S = .ok (.d (.int (listMax 0 (L.map f)))) S := by
  have e : intsD (L.map fun a => PyData.int (f a)) = some (L.map f) := by
    have := intsD_map (L.map f)
    rwa [List.map_map] at this
  unfold maxLV
  simp only [seqD, e]
  rw [if_neg (by simpa using h)]
mutual
theorem clV_mono {n m : Nat} (h : n ≤ m) : ∀ x : Vl, clV n x = true → clV m x = true
  | .d _, _ => rfl
  | .k _, _ => rfl
  | .q _, _ => rfl
  | .r l, e => by
    have : l < n := of_decide_eq_true e
    exact decide_eq_true (by omega)
  | .t xs, e => clA_mono h xs e
theorem clA_mono {n m : Nat} (h : n ≤ m) : ∀ xs : List Vl, clA n xs = true → clA m xs = true
  | [], _ => rfl
  | x :: xs, e => by
    have e' : (clV n x && clA n xs) = true := e
    obtain ⟨e1, e2⟩ := Bool.and_eq_true_iff.mp e'
    show (clV m x && clA m xs) = true
    rw [clV_mono h x e1, clA_mono h xs e2]
    rfl
end
theorem clK_mono {n m : Nat} (h : n ≤ m) {κ : Type} (kvs : List (κ × Vl)) (e : (kvs.all fun kv => clV n kv.2) = true) : (kvs.all fun kv => clV m kv.2) = true :=
  List.all_eq_true.mpr fun x hx => clV_mono h _ (List.all_eq_true.mp e x hx)
theorem clC_mono {n m : Nat} (h : n ≤ m) : ∀ c : Cell, clC n c = true → clC m c = true
  | .dead, _ => rfl
  | .lst xs, e => clA_mono h xs e
  | .dk kvs, e => clK_mono h kvs e
  | .dt kvs, e => clK_mono h kvs e
  | .ins _ fs, e => clK_mono h fs e
theorem clo_app (hS : Clo S) (hG : G.all (clC (S.length + G.length)) = true) : Clo (S ++ G) := by
  unfold Clo at hS ⊢
  rw [List.all_append, List.length_append, hG, Bool.and_true]
  exact List.all_eq_true.mpr fun c hc => clC_mono (Nat.le_add_right _ _) c (List.all_eq_true.mp hS c hc)
theorem clo_set {l : Nat} (hS : Clo S) (hc : clC S.length c = true) : Clo (S.set l c) := by
  unfold Clo at hS ⊢
  rw [List.length_set]
  refine List.all_eq_true.mpr fun d hd => ?_
  rcases List.mem_or_eq_of_mem_set hd with h | h
  · exact List.all_eq_true.mp hS d h
  · rw [h]; exact hc
end
end EV

/-! printed by gen.py -/
namespace K36
open PySem PySem.Spec PyProof.Rows L2 EV
def topS (i : Nat) : Stmt := PySem.Challenge.pw_edgeshop_k40_known_lists.main.body.getD i (.Pass ⟨0, 0, 0, 0⟩)
def c_MOST : List PyData := [.int 6, .int 5, .int 12, .int 5, .int 4, .int 3, .int 8, .int 6]
def c_MOST_LETTERS : PyData := .int 8
def c_MOST_SIZE : PyData := .int 99
def c_MOST_WORKS : PyData := .int 12
def c_SMALL : PyData := .str "abcdefghijklmnopqrstuvwxyz"
def c_SORTS : List PyData := [.str "kind", .str "box", .str "tool", .str "hand", .str "set", .str "gauge", .str "work", .str "keep"]
/-- what the top has written -/
structure Top (K : PySem.W.Frag) (mg : Str → Option Value) : Prop where
  b_all : mg "all" = none
  b_bool : mg "bool" = none
  b_enumerate : mg "enumerate" = none
  b_int : mg "int" = none
  b_isinstance : mg "isinstance" = none
  b_len : mg "len" = none
  b_max : mg "max" = none
  b_min : mg "min" = none
  b_range : mg "range" = none
  b_repr : mg "repr" = none
  b_set : mg "set" = none
  b_sorted : mg "sorted" = none
  b_str : mg "str" = none
  b_tuple : mg "tuple" = none
  b_zip : mg "zip" = none
  g_MOST : ConT K mg "MOST" c_MOST
  g_MOST_LETTERS : ConS mg "MOST_LETTERS" c_MOST_LETTERS
  g_MOST_SIZE : ConS mg "MOST_SIZE" c_MOST_SIZE
  g_MOST_WORKS : ConS mg "MOST_WORKS" c_MOST_WORKS
  g_SMALL : ConS mg "SMALL" c_SMALL
  g_SORTS : ConT K mg "SORTS" c_SORTS
/-! ### the defs as functions -/
abbrev s__law_cases : Stmt := topS 45
def N__law_cases : List Str := ["s", "some"]
noncomputable def m__law_cases : MS := (sSeq (sSet 1 (mLstM (aCons (mTup (aCons (mLst (aCons (mTup (aCons (mVar 0) (aCons (mVar 0) aNil))) aNil)) (aCons (mTup (aCons (mC (.int 0)) aNil)) (aCons (mLstM (aCons (mTup (aCons (mC (.int 0)) (aCons (mVar 0) aNil))) aNil)) aNil)))) (aCons (mTup (aCons (mLst (aCons (mTup (aCons (mVar 0) (aCons (mVar 0) aNil))) aNil)) (aCons (mBin mulV (mTup (aCons (mC (.int 0)) aNil)) (mC (.int 12))) (aCons (mBin mulV (mLst (aCons (mTup (aCons (mC (.int 0)) (aCons (mVar 0) aNil))) aNil)) (mC (.int 12))) aNil)))) aNil))))
  (sSeq (sExpr (mMeth "list" appV (mVar 1) (aCons (mTup (aCons (mLst (aCons (mTup (aCons (mVar 0) (aCons (mVar 0) aNil))) (aCons (mTup (aCons (mBin addV (mVar 0) (mC (.int 1))) (aCons (mBin addV (mVar 0) (mC (.int 1))) aNil))) (aCons (mTup (aCons (mBin addV (mVar 0) (mC (.int 2))) (aCons (mBin addV (mVar 0) (mC (.int 2))) aNil))) aNil)))) (aCons (mTup (aCons (mC (.int 0)) (aCons (mC (.int 1)) (aCons (mC (.int 2)) aNil)))) (aCons (mLstM (aCons (mTup (aCons (mC (.int 0)) (aCons (mVar 0) aNil))) (aCons (mTup (aCons (mC (.int 1)) (aCons (mBin addV (mVar 0) (mC (.int 1))) aNil))) (aCons (mTup (aCons (mC (.int 2)) (aCons (mBin addV (mVar 0) (mC (.int 2))) aNil))) aNil)))) aNil)))) aNil)))
  (sSeq (sExpr (mMeth "list" appV (mVar 1) (aCons (mTup (aCons (mLst (aCons (mTup (aCons (mVar 0) (aCons (mVar 0) aNil))) (aCons (mTup (aCons (mBin addV (mVar 0) (mC (.int 1))) (aCons (mBin addV (mVar 0) (mC (.int 1))) aNil))) (aCons (mTup (aCons (mBin addV (mVar 0) (mC (.int 2))) (aCons (mBin addV (mVar 0) (mC (.int 2))) aNil))) aNil)))) (aCons (mTup (aCons (mC (.int 2)) (aCons (mC (.int 1)) (aCons (mC (.int 0)) aNil)))) (aCons (mLstM (aCons (mTup (aCons (mC (.int 0)) (aCons (mBin addV (mVar 0) (mC (.int 2))) aNil))) (aCons (mTup (aCons (mC (.int 0)) (aCons (mBin addV (mVar 0) (mC (.int 1))) aNil))) (aCons (mTup (aCons (mC (.int 0)) (aCons (mVar 0) aNil))) aNil)))) aNil)))) aNil)))
  (sSeq (sExpr (mMeth "list" appV (mVar 1) (aCons (mTup (aCons (mLst (aCons (mTup (aCons (mVar 0) (aCons (mVar 0) aNil))) (aCons (mTup (aCons (mBin addV (mVar 0) (mC (.int 1))) (aCons (mBin addV (mVar 0) (mC (.int 1))) aNil))) aNil))) (aCons (mTup (aCons (mC (.int 0)) (aCons (mC (.int 1)) (aCons (mC (.int 0)) (aCons (mC (.int 1)) (aCons (mC (.int 0)) aNil)))))) (aCons (mLstM (aCons (mTup (aCons (mC (.int 0)) (aCons (mVar 0) aNil))) (aCons (mTup (aCons (mC (.int 1)) (aCons (mBin addV (mVar 0) (mC (.int 1))) aNil))) (aCons (mTup (aCons (mC (.int 0)) (aCons (mVar 0) aNil))) (aCons (mTup (aCons (mC (.int 1)) (aCons (mBin addV (mVar 0) (mC (.int 1))) aNil))) (aCons (mTup (aCons (mC (.int 0)) (aCons (mVar 0) aNil))) aNil)))))) aNil)))) aNil)))
  (sSeq (sExpr (mMeth "list" appV (mVar 1) (aCons (mTup (aCons (mLst (aCons (mTup (aCons (mVar 0) (aCons (mVar 0) aNil))) (aCons (mTup (aCons (mBin addV (mVar 0) (mC (.int 1))) (aCons (mBin addV (mVar 0) (mC (.int 1))) aNil))) aNil))) (aCons (mTup (aCons (mC (.int 1)) (aCons (mC (.int 0)) (aCons (mC (.int 1)) aNil)))) (aCons (mLstM (aCons (mTup (aCons (mC (.int 0)) (aCons (mBin addV (mVar 0) (mC (.int 1))) aNil))) (aCons (mTup (aCons (mC (.int 0)) (aCons (mVar 0) aNil))) (aCons (mTup (aCons (mC (.int 1)) (aCons (mBin addV (mVar 0) (mC (.int 1))) aNil))) aNil)))) aNil)))) aNil)))
  (sSeq (sExpr (mMeth "list" appV (mVar 1) (aCons (mTup (aCons (mLst (aCons (mTup (aCons (mVar 0) (aCons (mBin addV (mVar 0) (mC (.int 5))) aNil))) (aCons (mTup (aCons (mBin addV (mVar 0) (mC (.int 3))) (aCons (mBin addV (mVar 0) (mC (.int 9))) aNil))) aNil))) (aCons (mTup (aCons (mC (.int 0)) (aCons (mC (.int 1)) (aCons (mC (.int 0)) aNil)))) (aCons (mLstM (aCons (mTup (aCons (mC (.int 0)) (aCons (mBin addV (mVar 0) (mC (.int 5))) aNil))) (aCons (mTup (aCons (mC (.int 0)) (aCons (mBin addV (mVar 0) (mC (.int 5))) aNil))) (aCons (mTup (aCons (mC (.int 0)) (aCons (mBin addV (mVar 0) (mC (.int 5))) aNil))) aNil)))) aNil)))) aNil)))
  (sSeq (sExpr (mMeth "list" appV (mVar 1) (aCons (mTup (aCons (mLst (aCons (mTup (aCons (mVar 0) (aCons (mBin addV (mVar 0) (mC (.int 5))) aNil))) (aCons (mTup (aCons (mBin addV (mVar 0) (mC (.int 6))) (aCons (mBin addV (mVar 0) (mC (.int 9))) aNil))) aNil))) (aCons (mTup (aCons (mC (.int 0)) (aCons (mC (.int 1)) (aCons (mC (.int 0)) aNil)))) (aCons (mLstM (aCons (mTup (aCons (mC (.int 0)) (aCons (mBin addV (mVar 0) (mC (.int 5))) aNil))) (aCons (mTup (aCons (mC (.int 1)) (aCons (mBin addV (mVar 0) (mC (.int 9))) aNil))) (aCons (mTup (aCons (mC (.int 0)) (aCons (mBin addV (mVar 0) (mC (.int 5))) aNil))) aNil)))) aNil)))) aNil)))
  (sSeq (sExpr (mMeth "list" appV (mVar 1) (aCons (mTup (aCons (mLst (aCons (mTup (aCons (mVar 0) (aCons (mBin addV (mVar 0) (mC (.int 9))) aNil))) (aCons (mTup (aCons (mBin addV (mVar 0) (mC (.int 2))) (aCons (mBin addV (mVar 0) (mC (.int 4))) aNil))) (aCons (mTup (aCons (mBin addV (mVar 0) (mC (.int 5))) (aCons (mBin addV (mVar 0) (mC (.int 5))) aNil))) aNil)))) (aCons (mTup (aCons (mC (.int 0)) (aCons (mC (.int 1)) (aCons (mC (.int 2)) aNil)))) (aCons (mLstM (aCons (mTup (aCons (mC (.int 0)) (aCons (mBin addV (mVar 0) (mC (.int 9))) aNil))) (aCons (mTup (aCons (mC (.int 0)) (aCons (mBin addV (mVar 0) (mC (.int 4))) aNil))) (aCons (mTup (aCons (mC (.int 1)) (aCons (mBin addV (mVar 0) (mC (.int 5))) aNil))) aNil)))) aNil)))) aNil)))
  (sSeq (sExpr (mMeth "list" appV (mVar 1) (aCons (mTup (aCons (mLst (aCons (mTup (aCons (mVar 0) (aCons (mBin addV (mVar 0) (mC (.int 9))) aNil))) (aCons (mTup (aCons (mBin addV (mVar 0) (mC (.int 2))) (aCons (mBin addV (mVar 0) (mC (.int 4))) aNil))) (aCons (mTup (aCons (mBin addV (mVar 0) (mC (.int 5))) (aCons (mBin addV (mVar 0) (mC (.int 5))) aNil))) aNil)))) (aCons (mTup (aCons (mC (.int 1)) (aCons (mC (.int 2)) (aCons (mC (.int 0)) aNil)))) (aCons (mLstM (aCons (mTup (aCons (mC (.int 0)) (aCons (mBin addV (mVar 0) (mC (.int 4))) aNil))) (aCons (mTup (aCons (mC (.int 1)) (aCons (mBin addV (mVar 0) (mC (.int 5))) aNil))) (aCons (mTup (aCons (mC (.int 0)) (aCons (mBin addV (mVar 0) (mC (.int 4))) aNil))) aNil)))) aNil)))) aNil)))
  (sSeq (sExpr (mMeth "list" appV (mVar 1) (aCons (mTup (aCons (mLst (aCons (mTup (aCons (mBin addV (mVar 0) (mC (.int 8))) (aCons (mBin addV (mVar 0) (mC (.int 8))) aNil))) (aCons (mTup (aCons (mVar 0) (aCons (mBin addV (mVar 0) (mC (.int 1))) aNil))) (aCons (mTup (aCons (mBin addV (mVar 0) (mC (.int 4))) (aCons (mBin addV (mVar 0) (mC (.int 9))) aNil))) (aCons (mTup (aCons (mBin addV (mVar 0) (mC (.int 2))) (aCons (mBin addV (mVar 0) (mC (.int 3))) aNil))) aNil))))) (aCons (mTup (aCons (mC (.int 0)) (aCons (mC (.int 1)) (aCons (mC (.int 2)) (aCons (mC (.int 3)) aNil))))) (aCons (mLstM (aCons (mTup (aCons (mC (.int 0)) (aCons (mBin addV (mVar 0) (mC (.int 8))) aNil))) (aCons (mTup (aCons (mC (.int 0)) (aCons (mBin addV (mVar 0) (mC (.int 1))) aNil))) aNil))) aNil)))) aNil)))
  (sSeq (sExpr (mMeth "list" extV (mBin ixVS (mBin ixVS (mVar 1) (mUn negV (mC (.int 1)))) (mC (.int 2))) (aCons (mLst (aCons (mTup (aCons (mC (.int 1)) (aCons (mBin addV (mVar 0) (mC (.int 9))) aNil))) (aCons (mTup (aCons (mC (.int 1)) (aCons (mBin addV (mVar 0) (mC (.int 3))) aNil))) aNil))) aNil)))
  (sSeq (sExpr (mMeth "list" appV (mVar 1) (aCons (mTup (aCons (mLst (aCons (mTup (aCons (mVar 0) (aCons (mBin addV (mVar 0) (mC (.int 1))) aNil))) (aCons (mTup (aCons (mBin addV (mVar 0) (mC (.int 2))) (aCons (mBin addV (mVar 0) (mC (.int 3))) aNil))) (aCons (mTup (aCons (mBin addV (mVar 0) (mC (.int 1))) (aCons (mBin addV (mVar 0) (mC (.int 2))) aNil))) aNil)))) (aCons (mTup (aCons (mC (.int 0)) (aCons (mC (.int 1)) (aCons (mC (.int 2)) (aCons (mC (.int 0)) (aCons (mC (.int 1)) aNil)))))) (aCons (mLstM (aCons (mTup (aCons (mC (.int 0)) (aCons (mBin addV (mVar 0) (mC (.int 1))) aNil))) (aCons (mTup (aCons (mC (.int 1)) (aCons (mBin addV (mVar 0) (mC (.int 3))) aNil))) (aCons (mTup (aCons (mC (.int 0)) (aCons (mBin addV (mVar 0) (mC (.int 1))) aNil))) aNil)))) aNil)))) aNil)))
  (sSeq (sExpr (mMeth "list" extV (mBin ixVS (mBin ixVS (mVar 1) (mUn negV (mC (.int 1)))) (mC (.int 2))) (aCons (mLst (aCons (mTup (aCons (mC (.int 0)) (aCons (mBin addV (mVar 0) (mC (.int 1))) aNil))) (aCons (mTup (aCons (mC (.int 1)) (aCons (mBin addV (mVar 0) (mC (.int 3))) aNil))) aNil))) aNil)))
  (sRet (mVar 1)))))))))))))))
noncomputable def v__law_cases : List Vl → Sto → RE := spM m__law_cases 2
abbrev s__law_draw : Stmt := topS 41
def N__law_draw : List Str := ["script", "k", "cell"]
noncomputable def m__law_draw : MS := (sSeq (sSet 2 (mIte (mBin ltV (mVar 1) (mBlt (one lenV) (aCons (mVar 0) aNil))) (mBin ixVS (mVar 0) (mVar 1)) (mVar 1)))
  (sRet (mDisp ["cell", "rest", "at"] [(mVar 2), (mIte (mBin geV (mVar 2) (mBin powV (mC (.int 10)) (mC (.int 18)))) (mVar 2) (mC (.int 0))), (mC (.int 0))])))
noncomputable def v__law_draw : List Vl → Sto → RE := spM m__law_draw 3
abbrev s__law_mixed : Stmt := topS 40
def N__law_mixed : List Str := ["cell", "k", "number"]
noncomputable def m__law_mixed : MS := (sSeq (sSet 2 (mBin modV (mBin mulV (mBin addV (mBin addV (mBin modV (mVar 0) (mC (.int 2147483647))) (mBin mulV (mBin mulV (mC (.int 7919)) (mVar 1)) (mVar 1))) (mC (.int 3))) (mC (.int 48271))) (mC (.int 2147483647))))
  (sRet (mBin modV (mBin mulV (mVar 2) (mVar 2)) (mC (.int 2147483629)))))
noncomputable def v__law_mixed : List Vl → Sto → RE := spM m__law_mixed 3
abbrev s__law_take : Stmt := topS 42
def N__law_take : List Str := ["draw", "many", "found", "number"]
noncomputable def m__law_take : MS := (sSeq (sIf (mBin gtV (mBin ixVS (mVar 0) (mC (.str "rest"))) (mC (.int 0))) (sSeq (sSet 2 (mBin modV (mBin ixVS (mVar 0) (mC (.str "rest"))) (mVar 1)))
  (sSeq (sPut (mVar 0) (mC (.str "rest")) (mBin fdivV (mBin ixVS (mVar 0) (mC (.str "rest"))) (mVar 1)))
  (sRet (mVar 2)))) sNil)
  (sSeq (sPut (mVar 0) (mC (.str "at")) (mBin addV (mBin ixVS (mVar 0) (mC (.str "at"))) (mC (.int 1))))
  (sSeq (sSet 3 (mBin addV (mBin mulV (mCall 2 v__law_mixed (aCons (mBin ixVS (mVar 0) (mC (.str "cell"))) (aCons (mBin ixVS (mVar 0) (mC (.str "at"))) aNil))) (mC (.int 31))) (mCall 2 v__law_mixed (aCons (mBin fdivV (mBin ixVS (mVar 0) (mC (.str "cell"))) (mC (.int 1000003))) (aCons (mBin addV (mBin ixVS (mVar 0) (mC (.str "at"))) (mC (.int 9001))) aNil)))))
  (sRet (mBin modV (mBin fdivV (mVar 3) (mC (.int 11))) (mVar 1))))))
noncomputable def v__law_take : List Vl → Sto → RE := spM m__law_take 4
abbrev s__law_names : Stmt := topS 43
def N__law_names : List Str := ["draw", "many", "way", "first", "letters", "words", "base", "k"]
noncomputable def m__law_names : MS := (sSeq (sAsg (gUn 2 (gsCons (gNm 2) (gsCons (gNm 3) gsNil))) (mTup (aCons (mCall 2 v__law_take (aCons (mVar 0) (aCons (mC (.int 3)) aNil))) (aCons (mCall 2 v__law_take (aCons (mVar 0) (aCons (mC (.int 26)) aNil))) aNil))))
  (sSeq (sSet 4 (mC (.str "abcdefghijklmnopqrstuvwxyz")))
  (sSeq (sIf (mBin (eqVS false) (mVar 2) (mC (.int 0))) (sSeq (sSet 5 (mM1 splV (mC (.str "kind box tool hand set gauge work keep lend pass back sharp find stone lose new lost")) (mC (.str " "))))
  (sRet (mLc (gNm 7) (EV.iRng1 (aCons (mVar 1) aNil)) mYes (mBin ixVS (mVar 5) (mBin modV (mBin addV (mVar 3) (mBin mulV (mC (.int 3)) (mVar 7))) (mC (.int 17)))) [7]))) sNil)
  (sSeq (sIf (mBin (eqVS false) (mVar 2) (mC (.int 1))) (sRet (mLc (gNm 7) (EV.iRng1 (aCons (mVar 1) aNil)) mYes (mBin mulV (mBin ixVS (mVar 4) (mVar 3)) (mBin addV (mC (.int 1)) (mVar 7))) [7])) sNil)
  (sSeq (sSet 6 (mM1 joinV (mC (.str "")) (mLc (gNm 7) (EV.iRng1 (aCons (mCall 2 v__law_take (aCons (mVar 0) (aCons (mC (.int 8)) aNil))) aNil)) mYes (mBin ixVS (mVar 4) (mCall 2 v__law_take (aCons (mVar 0) (aCons (mC (.int 26)) aNil)))) [7])))
  (sRet (mLc (gNm 7) (EV.iRng1 (aCons (mVar 1) aNil)) mYes (mBin addV (mVar 6) (mBin ixVS (mVar 4) (mBin modV (mBin addV (mVar 3) (mBin mulV (mC (.int 3)) (mVar 7))) (mC (.int 26))))) [7])))))))
noncomputable def v__law_names : List Vl → Sto → RE := spM m__law_names 8
abbrev s__law_plain : Stmt := topS 44
def N__law_plain : List Str := ["draw", "least", "sizes", "kind", "names", "jobs", "name", "pair"]
noncomputable def m__law_plain : MS := (sSeq (sSet 3 (mBin ixVS (mCall 2 v__law_names (aCons (mVar 0) (aCons (mC (.int 1)) aNil))) (mC (.int 0))))
  (sSeq (sSet 4 (mCall 2 v__law_names (aCons (mVar 0) (aCons (mBlt (one lenV) (aCons (mVar 2) aNil)) aNil))))
  (sSeq (sSet 5 (mBlt (one tupleV) (aCons (mLc (gUn 2 (gsCons (gNm 6) (gsCons (gNm 7) gsNil))) (iZipM (aCons (mVar 4) (aCons (mVar 2) aNil))) mYes (mBin addV (mTup (aCons (mVar 6) (aCons (mVar 3) aNil))) (mVar 7)) [6, 7]) aNil)))
  (sRet (mTup (aCons (mTup (aCons (mTup (aCons (mTup (aCons (mVar 3) (aCons (mVar 1) aNil))) aNil)) (aCons (mTup aNil) (aCons (mTup aNil) (aCons (mTup aNil) (aCons (mTup aNil) (aCons (mTup aNil) (aCons (mVar 5) (aCons (mTup aNil) aNil))))))))) (aCons (mVar 3) (aCons (mVar 4) aNil))))))))
noncomputable def v__law_plain : List Vl → Sto → RE := spM m__law_plain 8
abbrev s_is_tuple_of : Stmt := topS 15
def N_is_tuple_of : List Str := ["thing", "many"]
noncomputable def m_is_tuple_of : MS := (sRet (mAnd (mIsI "tuple" (mVar 0)) (mBin (eqVS false) (mBlt (one lenV) (aCons (mVar 0) aNil)) (mVar 1))))
noncomputable def v_is_tuple_of : List Vl → Sto → RE := spM m_is_tuple_of 2
abbrev s_has_form : Stmt := topS 27
def N_has_form : List Str := ["thing", "part", "most"]
noncomputable def m_has_form : MS := (sSeq (sIf (mOr (mNot (mTru (mCall 2 v_is_tuple_of (aCons (mVar 0) (aCons (mBlt (one lenV) (aCons (mK c_SORTS) aNil)) aNil))))) (mNot (mTru (mBlt (one allV) (aCons (mLc (gNm 1) (iSeq (mVar 0)) mYes (mIsI "tuple" (mVar 1)) [1]) aNil))))) (sRet (mC (.bool false))) sNil)
  (sRet (mAnd (mBin (eqVS true) (mBin ixVS (mVar 0) (mC (.int 0))) (mTup aNil)) (mBlt (one allV) (aCons (mLc (gUn 2 (gsCons (gNm 1) (gsCons (gNm 2) gsNil))) (iZipM (aCons (mVar 0) (aCons (mK c_MOST) aNil))) mYes (mBin leV (mBlt (one lenV) (aCons (mVar 1) aNil)) (mVar 2)) [1, 2]) aNil)))))
noncomputable def v_has_form : List Vl → Sto → RE := spM m_has_form 3
abbrev s_is_name : Stmt := topS 14
def N_is_name : List Str := ["thing", "letter"]
noncomputable def m_is_name : MS := (sSeq (sIf (mOr (mNot (mTru (mIsI "str" (mVar 0)))) (mNot (mChain leV leV (mC (.int 1)) (mBlt (one lenV) (aCons (mVar 0) aNil)) (mC c_MOST_LETTERS)))) (sRet (mC (.bool false))) sNil)
  (sRet (mBlt (one allV) (aCons (mLc (gNm 1) (iSeq (mVar 0)) mYes (mBin (inVS false) (mVar 1) (mC c_SMALL)) [1]) aNil))))
noncomputable def v_is_name : List Vl → Sto → RE := spM m_is_name 2
abbrev s_names_of : Stmt := topS 16
def N_names_of : List Str := ["rows", "row"]
noncomputable def m_names_of : MS := (sRet (mLc (gNm 1) (iSeq (mVar 0)) mYes (mBin ixVS (mVar 1) (mC (.int 0))) [1]))
noncomputable def v_names_of : List Vl → Sto → RE := spM m_names_of 2
abbrev s_is_new : Stmt := topS 18
def N_is_new : List Str := ["thing", "ahead"]
noncomputable def m_is_new : MS := (sRet (mAnd (mCall 1 v_is_name (aCons (mVar 0) aNil)) (mBin (inVS true) (mVar 0) (mCall 1 v_names_of (aCons (mVar 1) aNil)))))
noncomputable def v_is_new : List Vl → Sto → RE := spM m_is_new 2
abbrev s_is_among : Stmt := topS 12
def N_is_among : List Str := ["thing", "least", "most"]
noncomputable def m_is_among : MS := (sRet (mAnd (mIsI "int" (mVar 0)) (mAnd (mNot (mIsI "bool" (mVar 0))) (mChain leV leV (mVar 1) (mVar 0) (mVar 2)))))
noncomputable def v_is_among : List Vl → Sto → RE := spM m_is_among 3
abbrev s_is_size : Stmt := topS 13
def N_is_size : List Str := ["thing"]
noncomputable def m_is_size : MS := (sRet (mCall 3 v_is_among (aCons (mVar 0) (aCons (mC (.int 0)) (aCons (mC c_MOST_SIZE) aNil)))))
noncomputable def v_is_size : List Vl → Sto → RE := spM m_is_size 1
abbrev s_is_kind : Stmt := topS 20
def N_is_kind : List Str := ["thing", "ahead"]
noncomputable def m_is_kind : MS := (sRet (mAnd (mCall 2 v_is_tuple_of (aCons (mVar 0) (aCons (mC (.int 2)) aNil))) (mAnd (mCall 2 v_is_new (aCons (mBin ixVS (mVar 0) (mC (.int 0))) (aCons (mVar 1) aNil))) (mCall 1 v_is_size (aCons (mBin ixVS (mVar 0) (mC (.int 1))) aNil)))))
noncomputable def v_is_kind : List Vl → Sto → RE := spM m_is_kind 2
abbrev s_is_there : Stmt := topS 19
def N_is_there : List Str := ["thing", "names"]
noncomputable def m_is_there : MS := (sRet (mAnd (mIsI "str" (mVar 0)) (mBin (inVS false) (mVar 0) (mVar 1))))
noncomputable def v_is_there : List Vl → Sto → RE := spM m_is_there 2
abbrev s_rows_of : Stmt := topS 17
def N_rows_of : List Str := ["stock", "sort"]
noncomputable def m_rows_of : MS := (sRet (mBin ixVS (mVar 0) (mMeth "tuple" tixV (mK c_SORTS) (aCons (mVar 1) aNil))))
noncomputable def v_rows_of : List Vl → Sto → RE := spM m_rows_of 2
abbrev s_is_ranged : Stmt := topS 24
def N_is_ranged : List Str := ["stock", "thing", "ahead"]
noncomputable def m_is_ranged : MS := (sSeq (sIf (mOr (mNot (mTru (mCall 2 v_is_tuple_of (aCons (mVar 1) (aCons (mC (.int 4)) aNil))))) (mNot (mTru (mCall 2 v_is_new (aCons (mBin ixVS (mVar 1) (mC (.int 0))) (aCons (mVar 2) aNil)))))) (sRet (mC (.bool false))) sNil)
  (sSeq (sIf (mNot (mTru (mCall 2 v_is_there (aCons (mBin ixVS (mVar 1) (mC (.int 1))) (aCons (mCall 1 v_names_of (aCons (mCall 2 v_rows_of (aCons (mVar 0) (aCons (mC (.str "kind")) aNil))) aNil)) aNil))))) (sRet (mC (.bool false))) sNil)
  (sRet (mAnd (mCall 1 v_is_size (aCons (mBin ixVS (mVar 1) (mC (.int 2))) aNil)) (mAnd (mCall 1 v_is_size (aCons (mBin ixVS (mVar 1) (mC (.int 3))) aNil)) (mBin leV (mBin ixVS (mVar 1) (mC (.int 2))) (mBin ixVS (mVar 1) (mC (.int 3)))))))))
noncomputable def v_is_ranged : List Vl → Sto → RE := spM m_is_ranged 3
abbrev s_is_one : Stmt := topS 26
def N_is_one : List Str := ["stock", "sort", "thing", "ahead"]
noncomputable def m_is_one : MS := (sSeq (sIf (mBin (eqVS false) (mVar 1) (mC (.str "kind"))) (sRet (mCall 2 v_is_kind (aCons (mVar 2) (aCons (mVar 3) aNil)))) sNil)
  (sSeq (sIf (mBin (eqVS false) (mVar 1) (mC (.str "box"))) (sRet (mAnd (mCall 1 v_is_name (aCons (mVar 2) aNil)) (mBin (inVS true) (mVar 2) (mVar 3)))) sNil)
  (sSeq (sIf (mBin (eqVS false) (mVar 1) (mC (.str "tool"))) (sRet mBad) sNil)
  (sSeq (sIf (mBin (eqVS false) (mVar 1) (mC (.str "hand"))) (sRet mBad) sNil)
  (sSeq (sIf (mBin (eqVS false) (mVar 1) (mC (.str "set"))) (sRet mBad) sNil)
  (sSeq (sIf (mBin (eqVS false) (mVar 1) (mC (.str "keep"))) (sRet mBad) sNil)
  (sRet (mCall 3 v_is_ranged (aCons (mVar 0) (aCons (mVar 2) (aCons (mVar 3) aNil)))))))))))
noncomputable def v_is_one : List Vl → Sto → RE := spM m_is_one 4
abbrev s_need_stock : Stmt := topS 28
def N_need_stock : List Str := ["thing", "sort", "rows", "number", "row"]
noncomputable def m_need_stock : MS := (sSeq (sIf (mNot (mTru (mCall 1 v_has_form (aCons (mVar 0) aNil)))) sBad sNil)
  (sSeq (sFor (gUn 2 (gsCons (gNm 1) (gsCons (gNm 2) gsNil))) (iZipM (aCons (mK c_SORTS) (aCons (mVar 0) aNil))) (sFor (gUn 2 (gsCons (gNm 3) (gsCons (gNm 4) gsNil))) (iEnumM (aCons (mVar 2) aNil)) (sIf (mNot (mTru (mCall 4 v_is_one (aCons (mVar 0) (aCons (mVar 1) (aCons (mVar 4) (aCons (mSlice (mVar 2) none (some (mVar 3))) aNil))))))) sBad sNil)))
  (sRet (mVar 0))))
noncomputable def v_need_stock : List Vl → Sto → RE := spM m_need_stock 5
abbrev s_row_called : Stmt := topS 29
def N_row_called : List Str := ["stock", "sort", "name", "row"]
noncomputable def m_row_called : MS := (sSeq (sFor (gNm 3) (iSeq (mCall 2 v_rows_of (aCons (mVar 0) (aCons (mVar 1) aNil)))) (sIf (mAnd (mTru (mIsI "str" (mVar 2))) (mBin (eqVS false) (mBin ixVS (mVar 3) (mC (.int 0))) (mVar 2))) (sRet (mVar 3)) sNil))
  sBad)
noncomputable def v_row_called : List Vl → Sto → RE := spM m_row_called 4
abbrev s_need_works : Stmt := topS 32
def N_need_works : List Str := ["stock", "works", "jobs", "found", "name", "kind", "low", "high", "least", "work"]
noncomputable def m_need_works : MS := (sSeq (sExpr (mCall 1 v_need_stock (aCons (mVar 0) aNil)))
  (sSeq (sIf (mOr (mNot (mTru (mIsI "tuple" (mVar 1)))) (mBin gtV (mBlt (one lenV) (aCons (mVar 1) aNil)) (mC c_MOST_WORKS))) sBad sNil)
  (sSeq (sSet 2 (mLc (gNm 9) (iSeq (mVar 1)) mYes (mCall 3 v_row_called (aCons (mVar 0) (aCons (mC (.str "work")) (aCons (mVar 9) aNil)))) [9]))
  (sSeq (sSet 3 (mLstM aNil))
  (sSeq (sFor (gUn 4 (gsCons (gNm 4) (gsCons (gNm 5) (gsCons (gNm 6) (gsCons (gNm 7) gsNil))))) (iSeq (mVar 2)) (sSeq (sSet 8 (mBin ixVS (mCall 3 v_row_called (aCons (mVar 0) (aCons (mC (.str "kind")) (aCons (mVar 5) aNil)))) (mC (.int 1))))
  (sSeq (sIf (mBin ltV (mVar 7) (mVar 8)) sBad sNil)
  (sExpr (mMeth "list" appV (mVar 3) (aCons (mTup (aCons (mVar 5) (aCons (mBlt (two max2V) (aCons (mVar 6) (aCons (mVar 8) aNil))) (aCons (mVar 7) aNil)))) aNil))))))
  (sRet (mFrz (mVar 3))))))))
noncomputable def v_need_works : List Vl → Sto → RE := spM m_need_works 10
abbrev s_are_apart : Stmt := topS 33
def N_are_apart : List Str := ["one", "other"]
noncomputable def m_are_apart : MS := (sRet (mOr (mBin (eqVS true) (mBin ixVS (mVar 0) (mC (.int 0))) (mBin ixVS (mVar 1) (mC (.int 0)))) (mBin gtV (mBin ixVS (mVar 1) (mC (.int 1))) (mBin ixVS (mVar 0) (mC (.int 2))))))
noncomputable def v_are_apart : List Vl → Sto → RE := spM m_are_apart 2
abbrev s_levels_of : Stmt := topS 34
def N_levels_of : List Str := ["rows", "found", "row", "some", "one", "level"]
noncomputable def m_levels_of : MS := (sSeq (sSet 1 (mLstM aNil))
  (sSeq (sFor (gNm 2) (iSeq (mVar 0)) (sSeq (sSet 3 (mLc (gUn 2 (gsCons (gNm 4) (gsCons (gNm 5) gsNil))) (iZipM (aCons (mVar 0) (aCons (mVar 1) aNil))) (mAnd (mBin (eqVS false) (mBin ixVS (mVar 4) (mC (.int 0))) (mBin ixVS (mVar 2) (mC (.int 0)))) (mTru (mCall 2 v_are_apart (aCons (mVar 4) (aCons (mVar 2) aNil))))) (mVar 5) [4, 5]))
  (sExpr (mMeth "list" appV (mVar 1) (aCons (mBin addV (mC (.int 1)) (mBltK maxDV (aCons (mVar 3) aNil) (aCons (mUn negV (mC (.int 1))) aNil))) aNil)))))
  (sRet (mFrz (mVar 1)))))
noncomputable def v_levels_of : List Vl → Sto → RE := spM m_levels_of 6
abbrev s_run_of : Stmt := topS 36
def N_run_of : List Str := ["rows", "levels", "found", "kind", "own", "wanted", "last", "number", "row"]
noncomputable def m_run_of : MS := (sSeq (sSet 1 (mCall 1 v_levels_of (aCons (mVar 0) aNil)))
  (sSeq (sSet 2 (mLstM aNil))
  (sSeq (sFor (gNm 3) (iSeq (mUn sortSetV (mLc (gNm 8) (iSeq (mVar 0)) mYes (mBin ixVS (mVar 8) (mC (.int 0))) [8]))) (sSeq (sSet 4 (mLc (gUn 2 (gsCons (gNm 7) (gsCons (gNm 8) gsNil))) (iEnumM (aCons (mVar 0) aNil)) (mBin (eqVS false) (mBin ixVS (mVar 8) (mC (.int 0))) (mVar 3)) (mVar 7) [7, 8]))
  (sSeq (sSet 5 (mBlt (one maxLV) (aCons (mLc (gNm 7) (iSeq (mVar 4)) mYes (mBin ixVS (mVar 1) (mVar 7)) [7]) aNil)))
  (sSeq (sSet 6 (mC .none))
  (sFor (gNm 7) (iSeq (mUn revV (mVar 4))) (sIf (mAnd (mBin (eqVS false) (mBin ixVS (mVar 1) (mVar 7)) (mVar 5)) (mOr (mBin isNV (mVar 6) (mC .none)) (mTru (mCall 2 v_are_apart (aCons (mBin ixVS (mVar 0) (mVar 7)) (aCons (mBin ixVS (mVar 0) (mVar 6)) aNil)))))) (sSeq (sExpr (mMeth "list" appV (mVar 2) (aCons (mVar 7) aNil)))
  (sSeq (sSet 6 (mVar 7))
  (sSet 5 (mBin subV (mVar 5) (mC (.int 1)))))) sNil))))))
  (sRet (mBlt (one tupleV) (aCons (mBlt (one sortedV) (aCons (mVar 2) aNil)) aNil))))))
noncomputable def v_run_of : List Vl → Sto → RE := spM m_run_of 9
abbrev s_fewest : Stmt := topS 37
def N_fewest : List Str := ["stock", "works"]
noncomputable def m_fewest : MS := (sRet (mBlt (one lenV) (aCons (mCall 1 v_run_of (aCons (mCall 2 v_need_works (aCons (mVar 0) (aCons (mVar 1) aNil))) aNil)) aNil)))
noncomputable def v_fewest : List Vl → Sto → RE := spM m_fewest 2
abbrev s_tools_of : Stmt := topS 35
def N_tools_of : List Str := ["rows", "found", "sizes", "row", "level", "key"]
noncomputable def m_tools_of : MS := (sSeq (sSet 1 (mLstM aNil))
  (sSeq (sSet 2 mDictT)
  (sSeq (sFor (gUn 2 (gsCons (gNm 3) (gsCons (gNm 4) gsNil))) (iZipM (aCons (mVar 0) (aCons (mCall 1 v_levels_of (aCons (mVar 0) aNil)) aNil))) (sSeq (sSet 5 (mTup (aCons (mBin ixVS (mVar 3) (mC (.int 0))) (aCons (mVar 4) aNil))))
  (sSeq (sPut (mVar 2) (mVar 5) (mBlt (two min2V) (aCons (mBin ixVS (mVar 3) (mC (.int 2))) (aCons (mGet2 (mVar 2) (mVar 5) (mBin ixVS (mVar 3) (mC (.int 2)))) aNil))))
  (sExpr (mMeth "list" appV (mVar 1) (aCons (mBin addV (mVar 5) (mTup (aCons (mBin ixVS (mVar 2) (mVar 5)) aNil))) aNil))))))
  (sRet (mBlt (one tupleV) (aCons (mVar 1) aNil))))))
noncomputable def v_tools_of : List Vl → Sto → RE := spM m_tools_of 6
abbrev s_plan_for : Stmt := topS 38
def N_plan_for : List Str := ["stock", "works"]
noncomputable def m_plan_for : MS := (sRet (mCall 1 v_tools_of (aCons (mCall 2 v_need_works (aCons (mVar 0) (aCons (mVar 1) aNil))) aNil)))
noncomputable def v_plan_for : List Vl → Sto → RE := spM m_plan_for 2
abbrev s__law_two_right : Stmt := topS 46
def N__law_two_right : List Str := ["draw", "s", "one", "other", "a", "b", "c", "jobs", "stock", "due"]
noncomputable def m__law_two_right : MS := (sSeq (sAsg (gUn 2 (gsCons (gNm 2) (gsCons (gNm 3) gsNil))) (mCall 2 v__law_names (aCons (mVar 0) (aCons (mC (.int 2)) aNil))))
  (sSeq (sAsg (gUn 3 (gsCons (gNm 4) (gsCons (gNm 5) (gsCons (gNm 6) gsNil)))) (mCall 2 v__law_names (aCons (mVar 0) (aCons (mC (.int 3)) aNil))))
  (sSeq (sSet 7 (mTup (aCons (mTup (aCons (mVar 4) (aCons (mVar 2) (aCons (mC (.int 0)) (aCons (mVar 1) aNil))))) (aCons (mTup (aCons (mVar 5) (aCons (mVar 3) (aCons (mVar 1) (aCons (mBin addV (mVar 1) (mC (.int 4))) aNil))))) (aCons (mTup (aCons (mVar 6) (aCons (mVar 2) (aCons (mC (.int 0)) (aCons (mBin addV (mVar 1) (mC (.int 2))) aNil))))) aNil)))))
  (sSeq (sSet 8 (mTup (aCons (mTup (aCons (mTup (aCons (mVar 2) (aCons (mVar 1) aNil))) (aCons (mTup (aCons (mVar 3) (aCons (mBin addV (mVar 1) (mC (.int 3))) aNil))) aNil))) (aCons (mTup aNil) (aCons (mTup aNil) (aCons (mTup aNil) (aCons (mTup aNil) (aCons (mTup aNil) (aCons (mVar 7) (aCons (mTup aNil) aNil))))))))))
  (sSeq (sSet 9 (mTup (aCons (mTup (aCons (mVar 2) (aCons (mC (.int 0)) (aCons (mVar 1) aNil)))) (aCons (mTup (aCons (mVar 3) (aCons (mC (.int 0)) (aCons (mBin addV (mVar 1) (mC (.int 4))) aNil)))) (aCons (mTup (aCons (mVar 2) (aCons (mC (.int 0)) (aCons (mVar 1) aNil)))) (aCons (mTup (aCons (mVar 3) (aCons (mC (.int 0)) (aCons (mBin addV (mVar 1) (mC (.int 4))) aNil)))) (aCons (mTup (aCons (mVar 2) (aCons (mC (.int 0)) (aCons (mVar 1) aNil)))) aNil)))))))
  (sSeq (sIf (mOr (mBin (eqVS true) (mBlt (one reprV) (aCons (mCall 2 v_plan_for (aCons (mVar 8) (aCons (mTup (aCons (mVar 4) (aCons (mVar 5) (aCons (mVar 6) (aCons (mVar 5) (aCons (mVar 4) aNil)))))) aNil))) aNil)) (mBlt (one reprV) (aCons (mVar 9) aNil))) (mBin (eqVS true) (mBlt (one reprV) (aCons (mCall 2 v_fewest (aCons (mVar 8) (aCons (mTup (aCons (mVar 4) (aCons (mVar 5) (aCons (mVar 6) (aCons (mVar 5) (aCons (mVar 4) aNil)))))) aNil))) aNil)) (mC (.str "2")))) (sRet (mC (.bool false))) sNil)
  (sRet (mBin (eqVS false) (mBlt (one reprV) (aCons (mLst (aCons (mCall 2 v_plan_for (aCons (mVar 8) (aCons (mTup aNil) aNil))) (aCons (mCall 2 v_fewest (aCons (mVar 8) (aCons (mTup aNil) aNil))) (aCons (mCall 2 v_plan_for (aCons (mVar 8) (aCons (mTup (aCons (mVar 6) aNil)) aNil))) aNil)))) aNil)) (mBlt (one reprV) (aCons (mLst (aCons (mTup aNil) (aCons (mC (.int 0)) (aCons (mTup (aCons (mTup (aCons (mVar 2) (aCons (mC (.int 0)) (aCons (mBin addV (mVar 1) (mC (.int 2))) aNil)))) aNil)) aNil)))) aNil))))))))))
noncomputable def v__law_two_right : List Vl → Sto → RE := spM m__law_two_right 10
abbrev s_law : Stmt := topS 47
def N_law : List Str := ["script", "k", "draw", "s", "sizes", "order", "due", "stock", "kind", "names", "works", "at", "pair"]
noncomputable def m_law : MS := (sSeq (sFor (gNm 1) (EV.iRng1 (aCons (mBlt (two max2V) (aCons (mC (.int 1)) (aCons (mBlt (two min2V) (aCons (mC (.int 8)) (aCons (mBlt (one lenV) (aCons (mVar 0) aNil)) aNil))) aNil))) aNil)) (sSeq (sSet 2 (mCall 2 v__law_draw (aCons (mVar 0) (aCons (mVar 1) aNil))))
  (sSeq (sSet 3 (mCall 2 v__law_take (aCons (mVar 2) (aCons (mC (.int 91)) aNil))))
  (sSeq (sFor (gUn 3 (gsCons (gNm 4) (gsCons (gNm 5) (gsCons (gNm 6) gsNil)))) (iSeq (mCall 1 v__law_cases (aCons (mVar 3) aNil))) (sSeq (sAsg (gUn 3 (gsCons (gNm 7) (gsCons (gNm 8) (gsCons (gNm 9) gsNil)))) (mCall 3 v__law_plain (aCons (mVar 2) (aCons (mCall 2 v__law_take (aCons (mVar 2) (aCons (mBin addV (mVar 3) (mC (.int 1))) aNil))) (aCons (mVar 4) aNil)))))
  (sSeq (sSet 10 (mBlt (one tupleV) (aCons (mLc (gNm 11) (iSeq (mVar 5)) mYes (mBin ixVS (mVar 9) (mVar 11)) [11]) aNil)))
  (sSeq (sIf (mBin (eqVS true) (mBlt (one reprV) (aCons (mCall 2 v_plan_for (aCons (mVar 7) (aCons (mVar 10) aNil))) aNil)) (mBlt (one reprV) (aCons (mBlt (one tupleV) (aCons (mLc (gNm 12) (iSeq (mVar 6)) mYes (mBin addV (mTup (aCons (mVar 8) aNil)) (mVar 12)) [12]) aNil)) aNil))) (sRet (mC (.bool false))) sNil)
  (sIf (mBin (eqVS true) (mBlt (one reprV) (aCons (mCall 2 v_fewest (aCons (mVar 7) (aCons (mVar 10) aNil))) aNil)) (mBlt (one reprV) (aCons (mUn lenSetV (mLc (gNm 12) (iSeq (mVar 6)) mYes (mBin ixVS (mVar 12) (mC (.int 0))) [12])) aNil))) (sRet (mC (.bool false))) sNil)))))
  (sIf (mNot (mTru (mCall 2 v__law_two_right (aCons (mVar 2) (aCons (mVar 3) aNil))))) (sRet (mC (.bool false))) sNil)))))
  (sRet (mC (.bool true))))
noncomputable def v_law : List Vl → Sto → RE := spM m_law 13
/-! ### the derivations -/
section
variable {P : Program} {w : World} {K : PySem.W.Frag} {mg : Str → Option Value} {base : Heap}
theorem sc__law_cases : FnScope N__law_cases ["s"] (defScope s__law_cases) := ⟨rfl, rfl, rfl, by decide +kernel, rfl, by decide +kernel, by decide +kernel⟩
set_option maxHeartbeats 4000000 in
theorem ok__law_cases {f : Addr} {fd : FuncData} (F : Fun K "_law_cases" "_law_cases" s__law_cases f fd) (T : Top K mg)  : FnG P w K mg base CX0 1 f fd ["s"] (spG K mg v__law_cases 1) := by
  refine fnG0 (N := N__law_cases) (m := m__law_cases) F sc__law_cases fun cdv A outer s H E hr gd => ?_
  have hN : N__law_cases.Nodup := sc__law_cases.nd
  have hu : A.units + 3 + 65 < cLine := by have := hr.un; have e : (A.deeper (envOfC "_law_cases" (defScope s__law_cases) s.heap.objs.size f cdv)).units = A.units + 3 := rfl; omega
  have hu4 : A.units + 3 + 64 < cLine := by omega
  have hu1 : A.units + 3 + 1 < cLine := by omega
  exact (sss_cons (ss_set 1 hN (se_lstM (sa_cons (se_tup (sa_cons (se_lst (sa_cons (se_tup (sa_cons (se_var 0) (sa_cons (se_var 0) sa_nil))) sa_nil)) (sa_cons (se_tup (sa_cons se_int sa_nil)) (sa_cons (se_lstM (sa_cons (se_tup (sa_cons se_int (sa_cons (se_var 0) sa_nil))) sa_nil)) sa_nil)))) (sa_cons (se_tup (sa_cons (se_lst (sa_cons (se_tup (sa_cons (se_var 0) (sa_cons (se_var 0) sa_nil))) sa_nil)) (sa_cons (se_bin op_mulV (se_tup (sa_cons se_int sa_nil)) se_int) (sa_cons (se_bin op_mulV (se_lst (sa_cons (se_tup (sa_cons se_int (sa_cons (se_var 0) sa_nil))) sa_nil)) se_int) sa_nil)))) sa_nil))))
    (sss_cons (ss_expr (se_meth mt_appV PySem.F.plainAttrs_list PySem.F.slot_list_append PySem.F.type_list_append (se_var 1) (sa_cons (se_tup (sa_cons (se_lst (sa_cons (se_tup (sa_cons (se_var 0) (sa_cons (se_var 0) sa_nil))) (sa_cons (se_tup (sa_cons (se_bin op_addV (se_var 0) se_int) (sa_cons (se_bin op_addV (se_var 0) se_int) sa_nil))) (sa_cons (se_tup (sa_cons (se_bin op_addV (se_var 0) se_int) (sa_cons (se_bin op_addV (se_var 0) se_int) sa_nil))) sa_nil)))) (sa_cons (se_tup (sa_cons se_int (sa_cons se_int (sa_cons se_int sa_nil)))) (sa_cons (se_lstM (sa_cons (se_tup (sa_cons se_int (sa_cons (se_var 0) sa_nil))) (sa_cons (se_tup (sa_cons se_int (sa_cons (se_bin op_addV (se_var 0) se_int) sa_nil))) (sa_cons (se_tup (sa_cons se_int (sa_cons (se_bin op_addV (se_var 0) se_int) sa_nil))) sa_nil)))) sa_nil)))) sa_nil)))
    (sss_cons (ss_expr (se_meth mt_appV PySem.F.plainAttrs_list PySem.F.slot_list_append PySem.F.type_list_append (se_var 1) (sa_cons (se_tup (sa_cons (se_lst (sa_cons (se_tup (sa_cons (se_var 0) (sa_cons (se_var 0) sa_nil))) (sa_cons (se_tup (sa_cons (se_bin op_addV (se_var 0) se_int) (sa_cons (se_bin op_addV (se_var 0) se_int) sa_nil))) (sa_cons (se_tup (sa_cons (se_bin op_addV (se_var 0) se_int) (sa_cons (se_bin op_addV (se_var 0) se_int) sa_nil))) sa_nil)))) (sa_cons (se_tup (sa_cons se_int (sa_cons se_int (sa_cons se_int sa_nil)))) (sa_cons (se_lstM (sa_cons (se_tup (sa_cons se_int (sa_cons (se_bin op_addV (se_var 0) se_int) sa_nil))) (sa_cons (se_tup (sa_cons se_int (sa_cons (se_bin op_addV (se_var 0) se_int) sa_nil))) (sa_cons (se_tup (sa_cons se_int (sa_cons (se_var 0) sa_nil))) sa_nil)))) sa_nil)))) sa_nil)))
    (sss_cons (ss_expr (se_meth mt_appV PySem.F.plainAttrs_list PySem.F.slot_list_append PySem.F.type_list_append (se_var 1) (sa_cons (se_tup (sa_cons (se_lst (sa_cons (se_tup (sa_cons (se_var 0) (sa_cons (se_var 0) sa_nil))) (sa_cons (se_tup (sa_cons (se_bin op_addV (se_var 0) se_int) (sa_cons (se_bin op_addV (se_var 0) se_int) sa_nil))) sa_nil))) (sa_cons (se_tup (sa_cons se_int (sa_cons se_int (sa_cons se_int (sa_cons se_int (sa_cons se_int sa_nil)))))) (sa_cons (se_lstM (sa_cons (se_tup (sa_cons se_int (sa_cons (se_var 0) sa_nil))) (sa_cons (se_tup (sa_cons se_int (sa_cons (se_bin op_addV (se_var 0) se_int) sa_nil))) (sa_cons (se_tup (sa_cons se_int (sa_cons (se_var 0) sa_nil))) (sa_cons (se_tup (sa_cons se_int (sa_cons (se_bin op_addV (se_var 0) se_int) sa_nil))) (sa_cons (se_tup (sa_cons se_int (sa_cons (se_var 0) sa_nil))) sa_nil)))))) sa_nil)))) sa_nil)))
    (sss_cons (ss_expr (se_meth mt_appV PySem.F.plainAttrs_list PySem.F.slot_list_append PySem.F.type_list_append (se_var 1) (sa_cons (se_tup (sa_cons (se_lst (sa_cons (se_tup (sa_cons (se_var 0) (sa_cons (se_var 0) sa_nil))) (sa_cons (se_tup (sa_cons (se_bin op_addV (se_var 0) se_int) (sa_cons (se_bin op_addV (se_var 0) se_int) sa_nil))) sa_nil))) (sa_cons (se_tup (sa_cons se_int (sa_cons se_int (sa_cons se_int sa_nil)))) (sa_cons (se_lstM (sa_cons (se_tup (sa_cons se_int (sa_cons (se_bin op_addV (se_var 0) se_int) sa_nil))) (sa_cons (se_tup (sa_cons se_int (sa_cons (se_var 0) sa_nil))) (sa_cons (se_tup (sa_cons se_int (sa_cons (se_bin op_addV (se_var 0) se_int) sa_nil))) sa_nil)))) sa_nil)))) sa_nil)))
    (sss_cons (ss_expr (se_meth mt_appV PySem.F.plainAttrs_list PySem.F.slot_list_append PySem.F.type_list_append (se_var 1) (sa_cons (se_tup (sa_cons (se_lst (sa_cons (se_tup (sa_cons (se_var 0) (sa_cons (se_bin op_addV (se_var 0) se_int) sa_nil))) (sa_cons (se_tup (sa_cons (se_bin op_addV (se_var 0) se_int) (sa_cons (se_bin op_addV (se_var 0) se_int) sa_nil))) sa_nil))) (sa_cons (se_tup (sa_cons se_int (sa_cons se_int (sa_cons se_int sa_nil)))) (sa_cons (se_lstM (sa_cons (se_tup (sa_cons se_int (sa_cons (se_bin op_addV (se_var 0) se_int) sa_nil))) (sa_cons (se_tup (sa_cons se_int (sa_cons (se_bin op_addV (se_var 0) se_int) sa_nil))) (sa_cons (se_tup (sa_cons se_int (sa_cons (se_bin op_addV (se_var 0) se_int) sa_nil))) sa_nil)))) sa_nil)))) sa_nil)))
    (sss_cons (ss_expr (se_meth mt_appV PySem.F.plainAttrs_list PySem.F.slot_list_append PySem.F.type_list_append (se_var 1) (sa_cons (se_tup (sa_cons (se_lst (sa_cons (se_tup (sa_cons (se_var 0) (sa_cons (se_bin op_addV (se_var 0) se_int) sa_nil))) (sa_cons (se_tup (sa_cons (se_bin op_addV (se_var 0) se_int) (sa_cons (se_bin op_addV (se_var 0) se_int) sa_nil))) sa_nil))) (sa_cons (se_tup (sa_cons se_int (sa_cons se_int (sa_cons se_int sa_nil)))) (sa_cons (se_lstM (sa_cons (se_tup (sa_cons se_int (sa_cons (se_bin op_addV (se_var 0) se_int) sa_nil))) (sa_cons (se_tup (sa_cons se_int (sa_cons (se_bin op_addV (se_var 0) se_int) sa_nil))) (sa_cons (se_tup (sa_cons se_int (sa_cons (se_bin op_addV (se_var 0) se_int) sa_nil))) sa_nil)))) sa_nil)))) sa_nil)))
    (sss_cons (ss_expr (se_meth mt_appV PySem.F.plainAttrs_list PySem.F.slot_list_append PySem.F.type_list_append (se_var 1) (sa_cons (se_tup (sa_cons (se_lst (sa_cons (se_tup (sa_cons (se_var 0) (sa_cons (se_bin op_addV (se_var 0) se_int) sa_nil))) (sa_cons (se_tup (sa_cons (se_bin op_addV (se_var 0) se_int) (sa_cons (se_bin op_addV (se_var 0) se_int) sa_nil))) (sa_cons (se_tup (sa_cons (se_bin op_addV (se_var 0) se_int) (sa_cons (se_bin op_addV (se_var 0) se_int) sa_nil))) sa_nil)))) (sa_cons (se_tup (sa_cons se_int (sa_cons se_int (sa_cons se_int sa_nil)))) (sa_cons (se_lstM (sa_cons (se_tup (sa_cons se_int (sa_cons (se_bin op_addV (se_var 0) se_int) sa_nil))) (sa_cons (se_tup (sa_cons se_int (sa_cons (se_bin op_addV (se_var 0) se_int) sa_nil))) (sa_cons (se_tup (sa_cons se_int (sa_cons (se_bin op_addV (se_var 0) se_int) sa_nil))) sa_nil)))) sa_nil)))) sa_nil)))
    (sss_cons (ss_expr (se_meth mt_appV PySem.F.plainAttrs_list PySem.F.slot_list_append PySem.F.type_list_append (se_var 1) (sa_cons (se_tup (sa_cons (se_lst (sa_cons (se_tup (sa_cons (se_var 0) (sa_cons (se_bin op_addV (se_var 0) se_int) sa_nil))) (sa_cons (se_tup (sa_cons (se_bin op_addV (se_var 0) se_int) (sa_cons (se_bin op_addV (se_var 0) se_int) sa_nil))) (sa_cons (se_tup (sa_cons (se_bin op_addV (se_var 0) se_int) (sa_cons (se_bin op_addV (se_var 0) se_int) sa_nil))) sa_nil)))) (sa_cons (se_tup (sa_cons se_int (sa_cons se_int (sa_cons se_int sa_nil)))) (sa_cons (se_lstM (sa_cons (se_tup (sa_cons se_int (sa_cons (se_bin op_addV (se_var 0) se_int) sa_nil))) (sa_cons (se_tup (sa_cons se_int (sa_cons (se_bin op_addV (se_var 0) se_int) sa_nil))) (sa_cons (se_tup (sa_cons se_int (sa_cons (se_bin op_addV (se_var 0) se_int) sa_nil))) sa_nil)))) sa_nil)))) sa_nil)))
    (sss_cons (ss_expr (se_meth mt_appV PySem.F.plainAttrs_list PySem.F.slot_list_append PySem.F.type_list_append (se_var 1) (sa_cons (se_tup (sa_cons (se_lst (sa_cons (se_tup (sa_cons (se_bin op_addV (se_var 0) se_int) (sa_cons (se_bin op_addV (se_var 0) se_int) sa_nil))) (sa_cons (se_tup (sa_cons (se_var 0) (sa_cons (se_bin op_addV (se_var 0) se_int) sa_nil))) (sa_cons (se_tup (sa_cons (se_bin op_addV (se_var 0) se_int) (sa_cons (se_bin op_addV (se_var 0) se_int) sa_nil))) (sa_cons (se_tup (sa_cons (se_bin op_addV (se_var 0) se_int) (sa_cons (se_bin op_addV (se_var 0) se_int) sa_nil))) sa_nil))))) (sa_cons (se_tup (sa_cons se_int (sa_cons se_int (sa_cons se_int (sa_cons se_int sa_nil))))) (sa_cons (se_lstM (sa_cons (se_tup (sa_cons se_int (sa_cons (se_bin op_addV (se_var 0) se_int) sa_nil))) (sa_cons (se_tup (sa_cons se_int (sa_cons (se_bin op_addV (se_var 0) se_int) sa_nil))) sa_nil))) sa_nil)))) sa_nil)))
    (sss_cons (ss_expr (se_meth mt_extV PySem.F.plainAttrs_list PySem.F.slot_list_extend PySem.F.type_list_extend (se_ix hu1 (se_ix hu1 (se_var 1) (se_neg se_int)) se_int) (sa_cons (se_lst (sa_cons (se_tup (sa_cons se_int (sa_cons (se_bin op_addV (se_var 0) se_int) sa_nil))) (sa_cons (se_tup (sa_cons se_int (sa_cons (se_bin op_addV (se_var 0) se_int) sa_nil))) sa_nil))) sa_nil)))
    (sss_cons (ss_expr (se_meth mt_appV PySem.F.plainAttrs_list PySem.F.slot_list_append PySem.F.type_list_append (se_var 1) (sa_cons (se_tup (sa_cons (se_lst (sa_cons (se_tup (sa_cons (se_var 0) (sa_cons (se_bin op_addV (se_var 0) se_int) sa_nil))) (sa_cons (se_tup (sa_cons (se_bin op_addV (se_var 0) se_int) (sa_cons (se_bin op_addV (se_var 0) se_int) sa_nil))) (sa_cons (se_tup (sa_cons (se_bin op_addV (se_var 0) se_int) (sa_cons (se_bin op_addV (se_var 0) se_int) sa_nil))) sa_nil)))) (sa_cons (se_tup (sa_cons se_int (sa_cons se_int (sa_cons se_int (sa_cons se_int (sa_cons se_int sa_nil)))))) (sa_cons (se_lstM (sa_cons (se_tup (sa_cons se_int (sa_cons (se_bin op_addV (se_var 0) se_int) sa_nil))) (sa_cons (se_tup (sa_cons se_int (sa_cons (se_bin op_addV (se_var 0) se_int) sa_nil))) (sa_cons (se_tup (sa_cons se_int (sa_cons (se_bin op_addV (se_var 0) se_int) sa_nil))) sa_nil)))) sa_nil)))) sa_nil)))
    (sss_cons (ss_expr (se_meth mt_extV PySem.F.plainAttrs_list PySem.F.slot_list_extend PySem.F.type_list_extend (se_ix hu1 (se_ix hu1 (se_var 1) (se_neg se_int)) se_int) (sa_cons (se_lst (sa_cons (se_tup (sa_cons se_int (sa_cons (se_bin op_addV (se_var 0) se_int) sa_nil))) (sa_cons (se_tup (sa_cons se_int (sa_cons (se_bin op_addV (se_var 0) se_int) sa_nil))) sa_nil))) sa_nil)))
    (sss_one (ss_ret (se_var 1))))))))))))))))
theorem sc__law_draw : FnScope N__law_draw ["script", "k"] (defScope s__law_draw) := ⟨rfl, rfl, rfl, by decide +kernel, rfl, by decide +kernel, by decide +kernel⟩
set_option maxHeartbeats 4000000 in
theorem ok__law_draw {f : Addr} {fd : FuncData} (F : Fun K "_law_draw" "_law_draw" s__law_draw f fd) (T : Top K mg)  : FnG P w K mg base CX0 1 f fd ["script", "k"] (spG K mg v__law_draw 2) := by
  refine fnG0 (N := N__law_draw) (m := m__law_draw) F sc__law_draw fun cdv A outer s H E hr gd => ?_
  have hN : N__law_draw.Nodup := sc__law_draw.nd
  have hu : A.units + 3 + 65 < cLine := by have := hr.un; have e : (A.deeper (envOfC "_law_draw" (defScope s__law_draw) s.heap.objs.size f cdv)).units = A.units + 3 := rfl; omega
  have hu4 : A.units + 3 + 64 < cLine := by omega
  have hu1 : A.units + 3 + 1 < cLine := by omega
  exact (sss_cons (ss_set 2 hN (se_ite (sb_cmp op_ltV (se_var 1) (se_callB blt_len rfl T.b_len (by rfl) (sa_cons (se_var 0) sa_nil))) (se_ix hu1 (se_var 0) (se_var 1)) (se_var 1)))
    (sss_one (ss_ret (se_disp (ds_cons (se_var 2) (ds_cons (se_ite (sb_cmp op_geV (se_var 2) (se_bin op_powV se_int se_int)) (se_var 2) se_int) (ds_cons se_int ds_nil)))))))
theorem sc__law_mixed : FnScope N__law_mixed ["cell", "k"] (defScope s__law_mixed) := ⟨rfl, rfl, rfl, by decide +kernel, rfl, by decide +kernel, by decide +kernel⟩
set_option maxHeartbeats 4000000 in
theorem ok__law_mixed {f : Addr} {fd : FuncData} (F : Fun K "_law_mixed" "_law_mixed" s__law_mixed f fd) (T : Top K mg)  : FnG P w K mg base CX0 1 f fd ["cell", "k"] (spG K mg v__law_mixed 2) := by
  refine fnG0 (N := N__law_mixed) (m := m__law_mixed) F sc__law_mixed fun cdv A outer s H E hr gd => ?_
  have hN : N__law_mixed.Nodup := sc__law_mixed.nd
  have hu : A.units + 3 + 65 < cLine := by have := hr.un; have e : (A.deeper (envOfC "_law_mixed" (defScope s__law_mixed) s.heap.objs.size f cdv)).units = A.units + 3 := rfl; omega
  have hu4 : A.units + 3 + 64 < cLine := by omega
  have hu1 : A.units + 3 + 1 < cLine := by omega
  exact (sss_cons (ss_set 2 hN (se_bin op_modV (se_bin op_mulV (se_bin op_addV (se_bin op_addV (se_bin op_modV (se_var 0) se_int) (se_bin op_mulV (se_bin op_mulV se_int (se_var 1)) (se_var 1))) se_int) se_int) se_int))
    (sss_one (ss_ret (se_bin op_modV (se_bin op_mulV (se_var 2) (se_var 2)) se_int))))
theorem sc__law_take : FnScope N__law_take ["draw", "many"] (defScope s__law_take) := ⟨rfl, rfl, rfl, by decide +kernel, rfl, by decide +kernel, by decide +kernel⟩
set_option maxHeartbeats 4000000 in
theorem ok__law_take {f : Addr} {fd : FuncData} (F : Fun K "_law_take" "_law_take" s__law_take f fd) (T : Top K mg) (k__law_mixed : CalG P w K mg base 1 "_law_mixed" v__law_mixed 2) : FnG P w K mg base CX0 2 f fd ["draw", "many"] (spG K mg v__law_take 2) := by
  refine fnG0 (N := N__law_take) (m := m__law_take) F sc__law_take fun cdv A outer s H E hr gd => ?_
  have hN : N__law_take.Nodup := sc__law_take.nd
  have hu : A.units + 3 + 65 < cLine := by have := hr.un; have e : (A.deeper (envOfC "_law_take" (defScope s__law_take) s.heap.objs.size f cdv)).units = A.units + 3 := rfl; omega
  have hu4 : A.units + 3 + 64 < cLine := by omega
  have hu1 : A.units + 3 + 1 < cLine := by omega
  exact (sss_cons (ss_if (sb_cmp op_gtV (se_ix hu1 (se_var 0) se_str) se_int) (sss_cons (ss_set 2 hN (se_bin op_modV (se_ix hu1 (se_var 0) se_str) (se_var 1)))
    (sss_cons (ss_put hu1 (se_bin op_fdivV (se_ix hu1 (se_var 0) se_str) (se_var 1)) (se_var 0) se_str)
    (sss_one (ss_ret (se_var 2))))) sss_nil)
    (sss_cons (ss_put hu1 (se_bin op_addV (se_ix hu1 (se_var 0) se_str) se_int) (se_var 0) se_str)
    (sss_cons (ss_set 3 hN (se_bin op_addV (se_bin op_mulV (se_call k__law_mixed hr (by decide) gd rfl (sa_cons (se_ix hu1 (se_var 0) se_str) (sa_cons (se_ix hu1 (se_var 0) se_str) sa_nil))) se_int) (se_call k__law_mixed hr (by decide) gd rfl (sa_cons (se_bin op_fdivV (se_ix hu1 (se_var 0) se_str) se_int) (sa_cons (se_bin op_addV (se_ix hu1 (se_var 0) se_str) se_int) sa_nil)))))
    (sss_one (ss_ret (se_bin op_modV (se_bin op_fdivV (se_var 3) se_int) (se_var 1)))))))
theorem sc__law_names : FnScope N__law_names ["draw", "many"] (defScope s__law_names) := ⟨rfl, rfl, rfl, by decide +kernel, rfl, by decide +kernel, by decide +kernel⟩
set_option maxHeartbeats 4000000 in
theorem ok__law_names {f : Addr} {fd : FuncData} (F : Fun K "_law_names" "_law_names" s__law_names f fd) (T : Top K mg) (k__law_take : CalG P w K mg base 2 "_law_take" v__law_take 2) : FnG P w K mg base CX0 3 f fd ["draw", "many"] (spG K mg v__law_names 2) := by
  refine fnG0 (N := N__law_names) (m := m__law_names) F sc__law_names fun cdv A outer s H E hr gd => ?_
  have hN : N__law_names.Nodup := sc__law_names.nd
  have hu : A.units + 3 + 65 < cLine := by have := hr.un; have e : (A.deeper (envOfC "_law_names" (defScope s__law_names) s.heap.objs.size f cdv)).units = A.units + 3 := rfl; omega
  have hu4 : A.units + 3 + 64 < cLine := by omega
  have hu1 : A.units + 3 + 1 < cLine := by omega
  exact (sss_cons (ss_asg (se_tup (sa_cons (se_call k__law_take hr (by decide) gd rfl (sa_cons (se_var 0) (sa_cons se_int sa_nil))) (sa_cons (se_call k__law_take hr (by decide) gd rfl (sa_cons (se_var 0) (sa_cons se_int sa_nil))) sa_nil))) (sg_un rfl (sgs_cons (sg_nm 2 hN) (sgs_cons (sg_nm 3 hN) sgs_nil))))
    (sss_cons (ss_set 4 hN se_str)
    (sss_cons (ss_if (sb_cmp (op_eqV hu4) (se_var 2) se_int) (sss_cons (ss_set 5 hN (se_split se_str se_str))
    (sss_one (ss_ret (se_lc rfl hN [("k", 7)] (si_rng1 rfl T.b_range (sa_cons (se_var 1) sa_nil)) (by rfl) (fun _ _ _ _ _ => (sg_nm 7 hN)) (fun _ _ _ _ _ => st_nil) (fun _ _ _ _ _ => (se_ix hu1 (se_var 5) (se_bin op_modV (se_bin op_addV (se_var 3) (se_bin op_mulV se_int (se_var 7))) se_int))))))) sss_nil)
    (sss_cons (ss_if (sb_cmp (op_eqV hu4) (se_var 2) se_int) (sss_one (ss_ret (se_lc rfl hN [("k", 7)] (si_rng1 rfl T.b_range (sa_cons (se_var 1) sa_nil)) (by rfl) (fun _ _ _ _ _ => (sg_nm 7 hN)) (fun _ _ _ _ _ => st_nil) (fun _ _ _ _ _ => (se_bin op_mulV (se_ix hu1 (se_var 4) (se_var 3)) (se_bin op_addV se_int (se_var 7))))))) sss_nil)
    (sss_cons (ss_set 6 hN (se_join se_str (se_lc rfl hN [("k", 7)] (si_rng1 rfl T.b_range (sa_cons (se_call k__law_take hr (by decide) gd rfl (sa_cons (se_var 0) (sa_cons se_int sa_nil))) sa_nil)) (by rfl) (fun _ _ _ _ _ => (sg_nm 7 hN)) (fun _ _ _ _ _ => st_nil) (fun _ _ _ _ _ => (se_ix hu1 (se_var 4) (se_call k__law_take hr (by decide) gd rfl (sa_cons (se_var 0) (sa_cons se_int sa_nil))))))))
    (sss_one (ss_ret (se_lc rfl hN [("k", 7)] (si_rng1 rfl T.b_range (sa_cons (se_var 1) sa_nil)) (by rfl) (fun _ _ _ _ _ => (sg_nm 7 hN)) (fun _ _ _ _ _ => st_nil) (fun _ _ _ _ _ => (se_bin op_addV (se_var 6) (se_ix hu1 (se_var 4) (se_bin op_modV (se_bin op_addV (se_var 3) (se_bin op_mulV se_int (se_var 7))) se_int))))))))))))
theorem sc__law_plain : FnScope N__law_plain ["draw", "least", "sizes"] (defScope s__law_plain) := ⟨rfl, rfl, rfl, by decide +kernel, rfl, by decide +kernel, by decide +kernel⟩
set_option maxHeartbeats 4000000 in
theorem ok__law_plain {f : Addr} {fd : FuncData} (F : Fun K "_law_plain" "_law_plain" s__law_plain f fd) (T : Top K mg) (k__law_names : CalG P w K mg base 3 "_law_names" v__law_names 2) : FnG P w K mg base CX0 4 f fd ["draw", "least", "sizes"] (spG K mg v__law_plain 3) := by
  refine fnG0 (N := N__law_plain) (m := m__law_plain) F sc__law_plain fun cdv A outer s H E hr gd => ?_
  have hN : N__law_plain.Nodup := sc__law_plain.nd
  have hu : A.units + 3 + 65 < cLine := by have := hr.un; have e : (A.deeper (envOfC "_law_plain" (defScope s__law_plain) s.heap.objs.size f cdv)).units = A.units + 3 := rfl; omega
  have hu4 : A.units + 3 + 64 < cLine := by omega
  have hu1 : A.units + 3 + 1 < cLine := by omega
  exact (sss_cons (ss_set 3 hN (se_ix hu1 (se_call k__law_names hr (by decide) gd rfl (sa_cons (se_var 0) (sa_cons se_int sa_nil))) se_int))
    (sss_cons (ss_set 4 hN (se_call k__law_names hr (by decide) gd rfl (sa_cons (se_var 0) (sa_cons (se_callB blt_len rfl T.b_len (by rfl) (sa_cons (se_var 2) sa_nil)) sa_nil))))
    (sss_cons (ss_set 5 hN (se_callTy blt_tuple rfl T.b_tuple (by rfl) (sa_cons (se_lc rfl hN [("name", 6), ("pair", 7)] (si_zip rfl T.b_zip (sa_cons (se_var 4) (sa_cons (se_var 2) sa_nil))) (by rfl) (fun _ _ _ _ _ => (sg_un rfl (sgs_cons (sg_nm 6 hN) (sgs_cons (sg_nm 7 hN) sgs_nil)))) (fun _ _ _ _ _ => st_nil) (fun _ _ _ _ _ => (se_bin op_addV (se_tup (sa_cons (se_var 6) (sa_cons (se_var 3) sa_nil))) (se_var 7)))) sa_nil)))
    (sss_one (ss_ret (se_tup (sa_cons (se_tup (sa_cons (se_tup (sa_cons (se_tup (sa_cons (se_var 3) (sa_cons (se_var 1) sa_nil))) sa_nil)) (sa_cons (se_tup sa_nil) (sa_cons (se_tup sa_nil) (sa_cons (se_tup sa_nil) (sa_cons (se_tup sa_nil) (sa_cons (se_tup sa_nil) (sa_cons (se_var 5) (sa_cons (se_tup sa_nil) sa_nil))))))))) (sa_cons (se_var 3) (sa_cons (se_var 4) sa_nil)))))))))
theorem sc_is_tuple_of : FnScope N_is_tuple_of ["thing", "many"] (defScope s_is_tuple_of) := ⟨rfl, rfl, rfl, by decide +kernel, rfl, by decide +kernel, by decide +kernel⟩
set_option maxHeartbeats 4000000 in
theorem ok_is_tuple_of {f : Addr} {fd : FuncData} (F : Fun K "is_tuple_of" "is_tuple_of" s_is_tuple_of f fd) (T : Top K mg)  : FnG P w K mg base CX0 1 f fd ["thing", "many"] (spG K mg v_is_tuple_of 2) := by
  refine fnG0 (N := N_is_tuple_of) (m := m_is_tuple_of) F sc_is_tuple_of fun cdv A outer s H E hr gd => ?_
  have hN : N_is_tuple_of.Nodup := sc_is_tuple_of.nd
  have hu : A.units + 3 + 65 < cLine := by have := hr.un; have e : (A.deeper (envOfC "is_tuple_of" (defScope s_is_tuple_of) s.heap.objs.size f cdv)).units = A.units + 3 := rfl; omega
  have hu4 : A.units + 3 + 64 < cLine := by omega
  have hu1 : A.units + 3 + 1 < cLine := by omega
  exact (sss_one (ss_ret (se_and (se_isI (se_var 0) (by decide) rfl T.b_isinstance rfl T.b_tuple (by rfl)) (se_one (se_cmp (op_eqV hu4) (se_callB blt_len rfl T.b_len (by rfl) (sa_cons (se_var 0) sa_nil)) (se_var 1))))))
theorem sc_has_form : FnScope N_has_form ["thing"] (defScope s_has_form) := ⟨rfl, rfl, rfl, by decide +kernel, rfl, by decide +kernel, by decide +kernel⟩
set_option maxHeartbeats 4000000 in
theorem ok_has_form {f : Addr} {fd : FuncData} (F : Fun K "has_form" "has_form" s_has_form f fd) (T : Top K mg) (k_is_tuple_of : CalG P w K mg base 1 "is_tuple_of" v_is_tuple_of 2) : FnG P w K mg base CX0 2 f fd ["thing"] (spG K mg v_has_form 1) := by
  refine fnG0 (N := N_has_form) (m := m_has_form) F sc_has_form fun cdv A outer s H E hr gd => ?_
  have hN : N_has_form.Nodup := sc_has_form.nd
  have hu : A.units + 3 + 65 < cLine := by have := hr.un; have e : (A.deeper (envOfC "has_form" (defScope s_has_form) s.heap.objs.size f cdv)).units = A.units + 3 := rfl; omega
  have hu4 : A.units + 3 + 64 < cLine := by omega
  have hu1 : A.units + 3 + 1 < cLine := by omega
  exact (sss_cons (ss_if (sb_w (sw_or (sb_not (sb_tru (se_call k_is_tuple_of hr (by decide) gd rfl (sa_cons (se_var 0) (sa_cons (se_callB blt_len rfl T.b_len (by rfl) (sa_cons (se_conT T.g_SORTS rfl) sa_nil)) sa_nil))))) (sw_or1 (sb_not (sb_tru (se_callB (blt_all rfl) rfl T.b_all (by rfl) (sa_cons (se_lc rfl hN [("part", 1)] (si_seq (se_var 0)) (by rfl) (fun _ _ _ _ _ => (sg_nm 1 hN)) (fun _ _ _ _ _ => st_nil) (fun _ _ _ _ _ => (se_isI (se_var 1) (by decide) rfl T.b_isinstance rfl T.b_tuple (by rfl)))) sa_nil))))))) (sss_one (ss_ret se_bl)) sss_nil)
    (sss_one (ss_ret (se_and (se_cmp (op_neV hu4) (se_ix hu1 (se_var 0) se_int) (se_tup sa_nil)) (se_one (se_callB (blt_all rfl) rfl T.b_all (by rfl) (sa_cons (se_lc rfl hN [("part", 1), ("most", 2)] (si_zip rfl T.b_zip (sa_cons (se_var 0) (sa_cons (se_conT T.g_MOST rfl) sa_nil))) (by rfl) (fun _ _ _ _ _ => (sg_un rfl (sgs_cons (sg_nm 1 hN) (sgs_cons (sg_nm 2 hN) sgs_nil)))) (fun _ _ _ _ _ => st_nil) (fun _ _ _ _ _ => (se_cmp op_leV (se_callB blt_len rfl T.b_len (by rfl) (sa_cons (se_var 1) sa_nil)) (se_var 2)))) sa_nil)))))))
theorem sc_is_name : FnScope N_is_name ["thing"] (defScope s_is_name) := ⟨rfl, rfl, rfl, by decide +kernel, rfl, by decide +kernel, by decide +kernel⟩
set_option maxHeartbeats 4000000 in
theorem ok_is_name {f : Addr} {fd : FuncData} (F : Fun K "is_name" "is_name" s_is_name f fd) (T : Top K mg)  : FnG P w K mg base CX0 1 f fd ["thing"] (spG K mg v_is_name 1) := by
  refine fnG0 (N := N_is_name) (m := m_is_name) F sc_is_name fun cdv A outer s H E hr gd => ?_
  have hN : N_is_name.Nodup := sc_is_name.nd
  have hu : A.units + 3 + 65 < cLine := by have := hr.un; have e : (A.deeper (envOfC "is_name" (defScope s_is_name) s.heap.objs.size f cdv)).units = A.units + 3 := rfl; omega
  have hu4 : A.units + 3 + 64 < cLine := by omega
  have hu1 : A.units + 3 + 1 < cLine := by omega
  exact (sss_cons (ss_if (sb_w (sw_or (sb_not (sb_tru (se_isI (se_var 0) (by decide) rfl T.b_isinstance rfl T.b_str (by rfl)))) (sw_or1 (sb_not (sb_chain ordV_pure op_leV op_leV se_int (se_callB blt_len rfl T.b_len (by rfl) (sa_cons (se_var 0) sa_nil)) (se_con T.g_MOST_LETTERS rfl)))))) (sss_one (ss_ret se_bl)) sss_nil)
    (sss_one (ss_ret (se_callB (blt_all rfl) rfl T.b_all (by rfl) (sa_cons (se_lc rfl hN [("letter", 1)] (si_seq (se_var 0)) (by rfl) (fun _ _ _ _ _ => (sg_nm 1 hN)) (fun _ _ _ _ _ => st_nil) (fun _ _ _ _ _ => (se_cmp (op_inVS hu) (se_var 1) (se_con T.g_SMALL rfl)))) sa_nil)))))
theorem sc_names_of : FnScope N_names_of ["rows"] (defScope s_names_of) := ⟨rfl, rfl, rfl, by decide +kernel, rfl, by decide +kernel, by decide +kernel⟩
set_option maxHeartbeats 4000000 in
theorem ok_names_of {f : Addr} {fd : FuncData} (F : Fun K "names_of" "names_of" s_names_of f fd) (T : Top K mg)  : FnG P w K mg base CX0 1 f fd ["rows"] (spG K mg v_names_of 1) := by
  refine fnG0 (N := N_names_of) (m := m_names_of) F sc_names_of fun cdv A outer s H E hr gd => ?_
  have hN : N_names_of.Nodup := sc_names_of.nd
  have hu : A.units + 3 + 65 < cLine := by have := hr.un; have e : (A.deeper (envOfC "names_of" (defScope s_names_of) s.heap.objs.size f cdv)).units = A.units + 3 := rfl; omega
  have hu4 : A.units + 3 + 64 < cLine := by omega
  have hu1 : A.units + 3 + 1 < cLine := by omega
  exact (sss_one (ss_ret (se_lc rfl hN [("row", 1)] (si_seq (se_var 0)) (by rfl) (fun _ _ _ _ _ => (sg_nm 1 hN)) (fun _ _ _ _ _ => st_nil) (fun _ _ _ _ _ => (se_ix hu1 (se_var 1) se_int)))))
theorem sc_is_new : FnScope N_is_new ["thing", "ahead"] (defScope s_is_new) := ⟨rfl, rfl, rfl, by decide +kernel, rfl, by decide +kernel, by decide +kernel⟩
set_option maxHeartbeats 4000000 in
theorem ok_is_new {f : Addr} {fd : FuncData} (F : Fun K "is_new" "is_new" s_is_new f fd) (T : Top K mg) (k_is_name : CalG P w K mg base 1 "is_name" v_is_name 1) (k_names_of : CalG P w K mg base 1 "names_of" v_names_of 1) : FnG P w K mg base CX0 2 f fd ["thing", "ahead"] (spG K mg v_is_new 2) := by
  refine fnG0 (N := N_is_new) (m := m_is_new) F sc_is_new fun cdv A outer s H E hr gd => ?_
  have hN : N_is_new.Nodup := sc_is_new.nd
  have hu : A.units + 3 + 65 < cLine := by have := hr.un; have e : (A.deeper (envOfC "is_new" (defScope s_is_new) s.heap.objs.size f cdv)).units = A.units + 3 := rfl; omega
  have hu4 : A.units + 3 + 64 < cLine := by omega
  have hu1 : A.units + 3 + 1 < cLine := by omega
  exact (sss_one (ss_ret (se_and (se_call k_is_name hr (by decide) gd rfl (sa_cons (se_var 0) sa_nil)) (se_one (se_cmp (op_notInVS hu) (se_var 0) (se_call k_names_of hr (by decide) gd rfl (sa_cons (se_var 1) sa_nil)))))))
theorem sc_is_among : FnScope N_is_among ["thing", "least", "most"] (defScope s_is_among) := ⟨rfl, rfl, rfl, by decide +kernel, rfl, by decide +kernel, by decide +kernel⟩
set_option maxHeartbeats 4000000 in
theorem ok_is_among {f : Addr} {fd : FuncData} (F : Fun K "is_among" "is_among" s_is_among f fd) (T : Top K mg)  : FnG P w K mg base CX0 1 f fd ["thing", "least", "most"] (spG K mg v_is_among 3) := by
  refine fnG0 (N := N_is_among) (m := m_is_among) F sc_is_among fun cdv A outer s H E hr gd => ?_
  have hN : N_is_among.Nodup := sc_is_among.nd
  have hu : A.units + 3 + 65 < cLine := by have := hr.un; have e : (A.deeper (envOfC "is_among" (defScope s_is_among) s.heap.objs.size f cdv)).units = A.units + 3 := rfl; omega
  have hu4 : A.units + 3 + 64 < cLine := by omega
  have hu1 : A.units + 3 + 1 < cLine := by omega
  exact (sss_one (ss_ret (se_and (se_isI (se_var 0) (by decide) rfl T.b_isinstance rfl T.b_int (by rfl)) (se_and (se_not (se_isI (se_var 0) (by decide) rfl T.b_isinstance rfl T.b_bool (by rfl))) (se_one (se_chain ordV_pure op_leV op_leV (se_var 1) (se_var 0) (se_var 2)))))))
theorem sc_is_size : FnScope N_is_size ["thing"] (defScope s_is_size) := ⟨rfl, rfl, rfl, by decide +kernel, rfl, by decide +kernel, by decide +kernel⟩
set_option maxHeartbeats 4000000 in
theorem ok_is_size {f : Addr} {fd : FuncData} (F : Fun K "is_size" "is_size" s_is_size f fd) (T : Top K mg) (k_is_among : CalG P w K mg base 1 "is_among" v_is_among 3) : FnG P w K mg base CX0 2 f fd ["thing"] (spG K mg v_is_size 1) := by
  refine fnG0 (N := N_is_size) (m := m_is_size) F sc_is_size fun cdv A outer s H E hr gd => ?_
  have hN : N_is_size.Nodup := sc_is_size.nd
  have hu : A.units + 3 + 65 < cLine := by have := hr.un; have e : (A.deeper (envOfC "is_size" (defScope s_is_size) s.heap.objs.size f cdv)).units = A.units + 3 := rfl; omega
  have hu4 : A.units + 3 + 64 < cLine := by omega
  have hu1 : A.units + 3 + 1 < cLine := by omega
  exact (sss_one (ss_ret (se_call k_is_among hr (by decide) gd rfl (sa_cons (se_var 0) (sa_cons se_int (sa_cons (se_con T.g_MOST_SIZE rfl) sa_nil))))))
theorem sc_is_kind : FnScope N_is_kind ["thing", "ahead"] (defScope s_is_kind) := ⟨rfl, rfl, rfl, by decide +kernel, rfl, by decide +kernel, by decide +kernel⟩
set_option maxHeartbeats 4000000 in
theorem ok_is_kind {f : Addr} {fd : FuncData} (F : Fun K "is_kind" "is_kind" s_is_kind f fd) (T : Top K mg) (k_is_new : CalG P w K mg base 2 "is_new" v_is_new 2) (k_is_size : CalG P w K mg base 2 "is_size" v_is_size 1) (k_is_tuple_of : CalG P w K mg base 1 "is_tuple_of" v_is_tuple_of 2) : FnG P w K mg base CX0 3 f fd ["thing", "ahead"] (spG K mg v_is_kind 2) := by
  refine fnG0 (N := N_is_kind) (m := m_is_kind) F sc_is_kind fun cdv A outer s H E hr gd => ?_
  have hN : N_is_kind.Nodup := sc_is_kind.nd
  have hu : A.units + 3 + 65 < cLine := by have := hr.un; have e : (A.deeper (envOfC "is_kind" (defScope s_is_kind) s.heap.objs.size f cdv)).units = A.units + 3 := rfl; omega
  have hu4 : A.units + 3 + 64 < cLine := by omega
  have hu1 : A.units + 3 + 1 < cLine := by omega
  exact (sss_one (ss_ret (se_and (se_call k_is_tuple_of hr (by decide) gd rfl (sa_cons (se_var 0) (sa_cons se_int sa_nil))) (se_and (se_call k_is_new hr (by decide) gd rfl (sa_cons (se_ix hu1 (se_var 0) se_int) (sa_cons (se_var 1) sa_nil))) (se_one (se_call k_is_size hr (by decide) gd rfl (sa_cons (se_ix hu1 (se_var 0) se_int) sa_nil)))))))
theorem sc_is_there : FnScope N_is_there ["thing", "names"] (defScope s_is_there) := ⟨rfl, rfl, rfl, by decide +kernel, rfl, by decide +kernel, by decide +kernel⟩
set_option maxHeartbeats 4000000 in
theorem ok_is_there {f : Addr} {fd : FuncData} (F : Fun K "is_there" "is_there" s_is_there f fd) (T : Top K mg)  : FnG P w K mg base CX0 1 f fd ["thing", "names"] (spG K mg v_is_there 2) := by
  refine fnG0 (N := N_is_there) (m := m_is_there) F sc_is_there fun cdv A outer s H E hr gd => ?_
  have hN : N_is_there.Nodup := sc_is_there.nd
  have hu : A.units + 3 + 65 < cLine := by have := hr.un; have e : (A.deeper (envOfC "is_there" (defScope s_is_there) s.heap.objs.size f cdv)).units = A.units + 3 := rfl; omega
  have hu4 : A.units + 3 + 64 < cLine := by omega
  have hu1 : A.units + 3 + 1 < cLine := by omega
  exact (sss_one (ss_ret (se_and (se_isI (se_var 0) (by decide) rfl T.b_isinstance rfl T.b_str (by rfl)) (se_one (se_cmp (op_inVS hu) (se_var 0) (se_var 1))))))
theorem sc_rows_of : FnScope N_rows_of ["stock", "sort"] (defScope s_rows_of) := ⟨rfl, rfl, rfl, by decide +kernel, rfl, by decide +kernel, by decide +kernel⟩
set_option maxHeartbeats 4000000 in
theorem ok_rows_of {f : Addr} {fd : FuncData} (F : Fun K "rows_of" "rows_of" s_rows_of f fd) (T : Top K mg)  : FnG P w K mg base CX0 1 f fd ["stock", "sort"] (spG K mg v_rows_of 2) := by
  refine fnG0 (N := N_rows_of) (m := m_rows_of) F sc_rows_of fun cdv A outer s H E hr gd => ?_
  have hN : N_rows_of.Nodup := sc_rows_of.nd
  have hu : A.units + 3 + 65 < cLine := by have := hr.un; have e : (A.deeper (envOfC "rows_of" (defScope s_rows_of) s.heap.objs.size f cdv)).units = A.units + 3 := rfl; omega
  have hu4 : A.units + 3 + 64 < cLine := by omega
  have hu1 : A.units + 3 + 1 < cLine := by omega
  exact (sss_one (ss_ret (se_ix hu1 (se_var 0) (se_meth mt_tixV PySem.F.plainAttrs_tuple PySem.F.slot_tuple_index PySem.F.type_tuple_index (se_conT T.g_SORTS rfl) (sa_cons (se_var 1) sa_nil)))))
theorem sc_is_ranged : FnScope N_is_ranged ["stock", "thing", "ahead"] (defScope s_is_ranged) := ⟨rfl, rfl, rfl, by decide +kernel, rfl, by decide +kernel, by decide +kernel⟩
set_option maxHeartbeats 4000000 in
theorem ok_is_ranged {f : Addr} {fd : FuncData} (F : Fun K "is_ranged" "is_ranged" s_is_ranged f fd) (T : Top K mg) (k_is_new : CalG P w K mg base 2 "is_new" v_is_new 2) (k_is_size : CalG P w K mg base 2 "is_size" v_is_size 1) (k_is_there : CalG P w K mg base 1 "is_there" v_is_there 2) (k_is_tuple_of : CalG P w K mg base 1 "is_tuple_of" v_is_tuple_of 2) (k_names_of : CalG P w K mg base 1 "names_of" v_names_of 1) (k_rows_of : CalG P w K mg base 1 "rows_of" v_rows_of 2) : FnG P w K mg base CX0 3 f fd ["stock", "thing", "ahead"] (spG K mg v_is_ranged 3) := by
  refine fnG0 (N := N_is_ranged) (m := m_is_ranged) F sc_is_ranged fun cdv A outer s H E hr gd => ?_
  have hN : N_is_ranged.Nodup := sc_is_ranged.nd
  have hu : A.units + 3 + 65 < cLine := by have := hr.un; have e : (A.deeper (envOfC "is_ranged" (defScope s_is_ranged) s.heap.objs.size f cdv)).units = A.units + 3 := rfl; omega
  have hu4 : A.units + 3 + 64 < cLine := by omega
  have hu1 : A.units + 3 + 1 < cLine := by omega
  exact (sss_cons (ss_if (sb_w (sw_or (sb_not (sb_tru (se_call k_is_tuple_of hr (by decide) gd rfl (sa_cons (se_var 1) (sa_cons se_int sa_nil))))) (sw_or1 (sb_not (sb_tru (se_call k_is_new hr (by decide) gd rfl (sa_cons (se_ix hu1 (se_var 1) se_int) (sa_cons (se_var 2) sa_nil)))))))) (sss_one (ss_ret se_bl)) sss_nil)
    (sss_cons (ss_if (sb_not (sb_tru (se_call k_is_there hr (by decide) gd rfl (sa_cons (se_ix hu1 (se_var 1) se_int) (sa_cons (se_call k_names_of hr (by decide) gd rfl (sa_cons (se_call k_rows_of hr (by decide) gd rfl (sa_cons (se_var 0) (sa_cons se_str sa_nil))) sa_nil)) sa_nil))))) (sss_one (ss_ret se_bl)) sss_nil)
    (sss_one (ss_ret (se_and (se_call k_is_size hr (by decide) gd rfl (sa_cons (se_ix hu1 (se_var 1) se_int) sa_nil)) (se_and (se_call k_is_size hr (by decide) gd rfl (sa_cons (se_ix hu1 (se_var 1) se_int) sa_nil)) (se_one (se_cmp op_leV (se_ix hu1 (se_var 1) se_int) (se_ix hu1 (se_var 1) se_int)))))))))
theorem sc_is_one : FnScope N_is_one ["stock", "sort", "thing", "ahead"] (defScope s_is_one) := ⟨rfl, rfl, rfl, by decide +kernel, rfl, by decide +kernel, by decide +kernel⟩
set_option maxHeartbeats 4000000 in
theorem ok_is_one {f : Addr} {fd : FuncData} (F : Fun K "is_one" "is_one" s_is_one f fd) (T : Top K mg) (k_is_kind : CalG P w K mg base 3 "is_kind" v_is_kind 2) (k_is_name : CalG P w K mg base 1 "is_name" v_is_name 1) (k_is_ranged : CalG P w K mg base 3 "is_ranged" v_is_ranged 3) : FnG P w K mg base CX0 4 f fd ["stock", "sort", "thing", "ahead"] (spG K mg v_is_one 4) := by
  refine fnG0 (N := N_is_one) (m := m_is_one) F sc_is_one fun cdv A outer s H E hr gd => ?_
  have hN : N_is_one.Nodup := sc_is_one.nd
  have hu : A.units + 3 + 65 < cLine := by have := hr.un; have e : (A.deeper (envOfC "is_one" (defScope s_is_one) s.heap.objs.size f cdv)).units = A.units + 3 := rfl; omega
  have hu4 : A.units + 3 + 64 < cLine := by omega
  have hu1 : A.units + 3 + 1 < cLine := by omega
  exact (sss_cons (ss_if (sb_cmp (op_eqV hu4) (se_var 1) se_str) (sss_one (ss_ret (se_call k_is_kind hr (by decide) gd rfl (sa_cons (se_var 2) (sa_cons (se_var 3) sa_nil))))) sss_nil)
    (sss_cons (ss_if (sb_cmp (op_eqV hu4) (se_var 1) se_str) (sss_one (ss_ret (se_and (se_call k_is_name hr (by decide) gd rfl (sa_cons (se_var 2) sa_nil)) (se_one (se_cmp (op_notInVS hu) (se_var 2) (se_var 3)))))) sss_nil)
    (sss_cons (ss_if (sb_cmp (op_eqV hu4) (se_var 1) se_str) (sss_one (ss_ret se_nv)) sss_nil)
    (sss_cons (ss_if (sb_cmp (op_eqV hu4) (se_var 1) se_str) (sss_one (ss_ret se_nv)) sss_nil)
    (sss_cons (ss_if (sb_cmp (op_eqV hu4) (se_var 1) se_str) (sss_one (ss_ret se_nv)) sss_nil)
    (sss_cons (ss_if (sb_cmp (op_eqV hu4) (se_var 1) se_str) (sss_one (ss_ret se_nv)) sss_nil)
    (sss_one (ss_ret (se_call k_is_ranged hr (by decide) gd rfl (sa_cons (se_var 0) (sa_cons (se_var 2) (sa_cons (se_var 3) sa_nil))))))))))))
theorem sc_need_stock : FnScope N_need_stock ["thing"] (defScope s_need_stock) := ⟨rfl, rfl, rfl, by decide +kernel, rfl, by decide +kernel, by decide +kernel⟩
set_option maxHeartbeats 4000000 in
theorem ok_need_stock {f : Addr} {fd : FuncData} (F : Fun K "need_stock" "need_stock" s_need_stock f fd) (T : Top K mg) (k_has_form : CalG P w K mg base 2 "has_form" v_has_form 1) (k_is_one : CalG P w K mg base 4 "is_one" v_is_one 4) : FnG P w K mg base CX0 5 f fd ["thing"] (spG K mg v_need_stock 1) := by
  refine fnG0 (N := N_need_stock) (m := m_need_stock) F sc_need_stock fun cdv A outer s H E hr gd => ?_
  have hN : N_need_stock.Nodup := sc_need_stock.nd
  have hu : A.units + 3 + 65 < cLine := by have := hr.un; have e : (A.deeper (envOfC "need_stock" (defScope s_need_stock) s.heap.objs.size f cdv)).units = A.units + 3 := rfl; omega
  have hu4 : A.units + 3 + 64 < cLine := by omega
  have hu1 : A.units + 3 + 1 < cLine := by omega
  exact (sss_cons (ss_if (sb_not (sb_tru (se_call k_has_form hr (by decide) gd rfl (sa_cons (se_var 0) sa_nil)))) (sss_one ss_never) sss_nil)
    (sss_cons (ss_for PassesOwn.never rfl (si_zip rfl T.b_zip (sa_cons (se_conT T.g_SORTS rfl) (sa_cons (se_var 0) sa_nil))) (sg_un rfl (sgs_cons (sg_nm 1 hN) (sgs_cons (sg_nm 2 hN) sgs_nil))) (sss_one (ss_for PassesOwn.never rfl (si_enum rfl T.b_enumerate (sa_cons (se_var 2) sa_nil)) (sg_un rfl (sgs_cons (sg_nm 3 hN) (sgs_cons (sg_nm 4 hN) sgs_nil))) (sss_one (ss_if (sb_not (sb_tru (se_call k_is_one hr (by decide) gd rfl (sa_cons (se_var 0) (sa_cons (se_var 1) (sa_cons (se_var 4) (sa_cons (se_slice (se_var 2) SO.non (SO.som (se_var 3))) sa_nil))))))) (sss_one ss_never) sss_nil)))))
    (sss_one (ss_ret (se_var 0)))))
theorem sc_row_called : FnScope N_row_called ["stock", "sort", "name"] (defScope s_row_called) := ⟨rfl, rfl, rfl, by decide +kernel, rfl, by decide +kernel, by decide +kernel⟩
set_option maxHeartbeats 4000000 in
theorem ok_row_called {f : Addr} {fd : FuncData} (F : Fun K "row_called" "row_called" s_row_called f fd) (T : Top K mg) (k_rows_of : CalG P w K mg base 1 "rows_of" v_rows_of 2) : FnG P w K mg base CX0 2 f fd ["stock", "sort", "name"] (spG K mg v_row_called 3) := by
  refine fnG0 (N := N_row_called) (m := m_row_called) F sc_row_called fun cdv A outer s H E hr gd => ?_
  have hN : N_row_called.Nodup := sc_row_called.nd
  have hu : A.units + 3 + 65 < cLine := by have := hr.un; have e : (A.deeper (envOfC "row_called" (defScope s_row_called) s.heap.objs.size f cdv)).units = A.units + 3 := rfl; omega
  have hu4 : A.units + 3 + 64 < cLine := by omega
  have hu1 : A.units + 3 + 1 < cLine := by omega
  exact (sss_cons (ss_for PassesOwn.never rfl (si_seq (se_call k_rows_of hr (by decide) gd rfl (sa_cons (se_var 0) (sa_cons (se_var 1) sa_nil)))) (sg_nm 3 hN) (sss_one (ss_if (sb_w (sw_and (sb_tru (se_isI (se_var 2) (by decide) rfl T.b_isinstance rfl T.b_str (by rfl))) (sw_and1 (sb_cmp (op_eqV hu4) (se_ix hu1 (se_var 3) se_int) (se_var 2))))) (sss_one (ss_ret (se_var 3))) sss_nil)))
    (sss_one ss_never))
theorem sc_need_works : FnScope N_need_works ["stock", "works"] (defScope s_need_works) := ⟨rfl, rfl, rfl, by decide +kernel, rfl, by decide +kernel, by decide +kernel⟩
set_option maxHeartbeats 4000000 in
theorem ok_need_works {f : Addr} {fd : FuncData} (F : Fun K "need_works" "need_works" s_need_works f fd) (T : Top K mg) (k_need_stock : CalG P w K mg base 5 "need_stock" v_need_stock 1) (k_row_called : CalG P w K mg base 2 "row_called" v_row_called 3) : FnG P w K mg base CX0 6 f fd ["stock", "works"] (spG K mg v_need_works 2) := by
  refine fnG0 (N := N_need_works) (m := m_need_works) F sc_need_works fun cdv A outer s H E hr gd => ?_
  have hN : N_need_works.Nodup := sc_need_works.nd
  have hu : A.units + 3 + 65 < cLine := by have := hr.un; have e : (A.deeper (envOfC "need_works" (defScope s_need_works) s.heap.objs.size f cdv)).units = A.units + 3 := rfl; omega
  have hu4 : A.units + 3 + 64 < cLine := by omega
  have hu1 : A.units + 3 + 1 < cLine := by omega
  exact (sss_cons (ss_expr (se_call k_need_stock hr (by decide) gd rfl (sa_cons (se_var 0) sa_nil)))
    (sss_cons (ss_if (sb_w (sw_or (sb_not (sb_tru (se_isI (se_var 1) (by decide) rfl T.b_isinstance rfl T.b_tuple (by rfl)))) (sw_or1 (sb_cmp op_gtV (se_callB blt_len rfl T.b_len (by rfl) (sa_cons (se_var 1) sa_nil)) (se_con T.g_MOST_WORKS rfl))))) (sss_one ss_never) sss_nil)
    (sss_cons (ss_setLc 2 rfl hN [("work", 9)] (si_seq (se_var 1)) (by rfl) (fun _ _ _ _ _ => (sg_nm 9 hN)) (fun _ _ _ _ _ => st_nil) (fun _ _ _ _ _ => (se_call k_row_called hr (by decide) gd rfl (sa_cons (se_var 0) (sa_cons se_str (sa_cons (se_var 9) sa_nil))))))
    (sss_cons (ss_set 3 hN (se_lstM sa_nil))
    (sss_cons (ss_for PassesOwn.never rfl (si_seq (se_var 2)) (sg_un rfl (sgs_cons (sg_nm 4 hN) (sgs_cons (sg_nm 5 hN) (sgs_cons (sg_nm 6 hN) (sgs_cons (sg_nm 7 hN) sgs_nil))))) (sss_cons (ss_set 8 hN (se_ix hu1 (se_call k_row_called hr (by decide) gd rfl (sa_cons (se_var 0) (sa_cons se_str (sa_cons (se_var 5) sa_nil)))) se_int))
    (sss_cons (ss_if (sb_cmp op_ltV (se_var 7) (se_var 8)) (sss_one ss_never) sss_nil)
    (sss_one (ss_expr (se_meth mt_appV PySem.F.plainAttrs_list PySem.F.slot_list_append PySem.F.type_list_append (se_var 3) (sa_cons (se_tup (sa_cons (se_var 5) (sa_cons (se_callB (blt_max2 rfl) rfl T.b_max (by rfl) (sa_cons (se_var 6) (sa_cons (se_var 8) sa_nil))) (sa_cons (se_var 7) sa_nil)))) sa_nil)))))))
    (sss_one (ss_ret (se_frz (se_var 3)))))))))
theorem sc_are_apart : FnScope N_are_apart ["one", "other"] (defScope s_are_apart) := ⟨rfl, rfl, rfl, by decide +kernel, rfl, by decide +kernel, by decide +kernel⟩
set_option maxHeartbeats 4000000 in
theorem ok_are_apart {f : Addr} {fd : FuncData} (F : Fun K "are_apart" "are_apart" s_are_apart f fd) (T : Top K mg)  : FnG P w K mg base CX0 1 f fd ["one", "other"] (spG K mg v_are_apart 2) := by
  refine fnG0 (N := N_are_apart) (m := m_are_apart) F sc_are_apart fun cdv A outer s H E hr gd => ?_
  have hN : N_are_apart.Nodup := sc_are_apart.nd
  have hu : A.units + 3 + 65 < cLine := by have := hr.un; have e : (A.deeper (envOfC "are_apart" (defScope s_are_apart) s.heap.objs.size f cdv)).units = A.units + 3 := rfl; omega
  have hu4 : A.units + 3 + 64 < cLine := by omega
  have hu1 : A.units + 3 + 1 < cLine := by omega
  exact (sss_one (ss_ret (se_or (se_cmp (op_neV hu4) (se_ix hu1 (se_var 0) se_int) (se_ix hu1 (se_var 1) se_int)) (se_one (se_cmp op_gtV (se_ix hu1 (se_var 1) se_int) (se_ix hu1 (se_var 0) se_int))))))
theorem sc_levels_of : FnScope N_levels_of ["rows"] (defScope s_levels_of) := ⟨rfl, rfl, rfl, by decide +kernel, rfl, by decide +kernel, by decide +kernel⟩
set_option maxHeartbeats 4000000 in
theorem ok_levels_of {f : Addr} {fd : FuncData} (F : Fun K "levels_of" "levels_of" s_levels_of f fd) (T : Top K mg) (k_are_apart : CalG P w K mg base 1 "are_apart" v_are_apart 2) : FnG P w K mg base CX0 2 f fd ["rows"] (spG K mg v_levels_of 1) := by
  refine fnG0 (N := N_levels_of) (m := m_levels_of) F sc_levels_of fun cdv A outer s H E hr gd => ?_
  have hN : N_levels_of.Nodup := sc_levels_of.nd
  have hu : A.units + 3 + 65 < cLine := by have := hr.un; have e : (A.deeper (envOfC "levels_of" (defScope s_levels_of) s.heap.objs.size f cdv)).units = A.units + 3 := rfl; omega
  have hu4 : A.units + 3 + 64 < cLine := by omega
  have hu1 : A.units + 3 + 1 < cLine := by omega
  exact (sss_cons (ss_set 1 hN (se_lstM sa_nil))
    (sss_cons (ss_for PassesOwn.never rfl (si_seq (se_var 0)) (sg_nm 2 hN) (sss_cons (ss_setLc 3 rfl hN [("one", 4), ("level", 5)] (si_zip rfl T.b_zip (sa_cons (se_var 0) (sa_cons (se_var 1) sa_nil))) (by rfl) (fun _ _ _ _ _ => (sg_un rfl (sgs_cons (sg_nm 4 hN) (sgs_cons (sg_nm 5 hN) sgs_nil)))) (fun _ _ _ _ _ => (st_one (sb_w (sw_and (sb_cmp (op_eqV hu4) (se_ix hu1 (se_var 4) se_int) (se_ix hu1 (se_var 2) se_int)) (sw_and1 (sb_tru (se_call k_are_apart hr (by decide) gd rfl (sa_cons (se_var 4) (sa_cons (se_var 2) sa_nil))))))))) (fun _ _ _ _ _ => (se_var 5)))
    (sss_one (ss_expr (se_meth mt_appV PySem.F.plainAttrs_list PySem.F.slot_list_append PySem.F.type_list_append (se_var 1) (sa_cons (se_bin op_addV se_int (se_callBK (blt_maxD rfl) rfl T.b_max (by rfl) (sa_cons (se_var 3) sa_nil) (sk_cons (se_neg se_int) sk_nil))) sa_nil))))))
    (sss_one (ss_ret (se_frz (se_var 1))))))
theorem sc_run_of : FnScope N_run_of ["rows"] (defScope s_run_of) := ⟨rfl, rfl, rfl, by decide +kernel, rfl, by decide +kernel, by decide +kernel⟩
set_option maxHeartbeats 4000000 in
theorem ok_run_of {f : Addr} {fd : FuncData} (F : Fun K "run_of" "run_of" s_run_of f fd) (T : Top K mg) (k_are_apart : CalG P w K mg base 1 "are_apart" v_are_apart 2) (k_levels_of : CalG P w K mg base 2 "levels_of" v_levels_of 1) : FnG P w K mg base CX0 3 f fd ["rows"] (spG K mg v_run_of 1) := by
  refine fnG0 (N := N_run_of) (m := m_run_of) F sc_run_of fun cdv A outer s H E hr gd => ?_
  have hN : N_run_of.Nodup := sc_run_of.nd
  have hu : A.units + 3 + 65 < cLine := by have := hr.un; have e : (A.deeper (envOfC "run_of" (defScope s_run_of) s.heap.objs.size f cdv)).units = A.units + 3 := rfl; omega
  have hu4 : A.units + 3 + 64 < cLine := by omega
  have hu1 : A.units + 3 + 1 < cLine := by omega
  exact (sss_cons (ss_set 1 hN (se_call k_levels_of hr (by decide) gd rfl (sa_cons (se_var 0) sa_nil)))
    (sss_cons (ss_set 2 hN (se_lstM sa_nil))
    (sss_cons (ss_for PassesOwn.never rfl (si_seq (se_sortSet rfl rfl T.b_sorted rfl T.b_set (se_lc rfl hN [("row", 8)] (si_seq (se_var 0)) (by rfl) (fun _ _ _ _ _ => (sg_nm 8 hN)) (fun _ _ _ _ _ => st_nil) (fun _ _ _ _ _ => (se_ix hu1 (se_var 8) se_int))))) (sg_nm 3 hN) (sss_cons (ss_setLc 4 rfl hN [("number", 7), ("row", 8)] (si_enum rfl T.b_enumerate (sa_cons (se_var 0) sa_nil)) (by rfl) (fun _ _ _ _ _ => (sg_un rfl (sgs_cons (sg_nm 7 hN) (sgs_cons (sg_nm 8 hN) sgs_nil)))) (fun _ _ _ _ _ => (st_one (sb_cmp (op_eqV hu4) (se_ix hu1 (se_var 8) se_int) (se_var 3)))) (fun _ _ _ _ _ => (se_var 7)))
    (sss_cons (ss_set 5 hN (se_callB (blt_maxL rfl) rfl T.b_max (by rfl) (sa_cons (se_lc rfl hN [("number", 7)] (si_seq (se_var 4)) (by rfl) (fun _ _ _ _ _ => (sg_nm 7 hN)) (fun _ _ _ _ _ => st_nil) (fun _ _ _ _ _ => (se_ix hu1 (se_var 1) (se_var 7)))) sa_nil)))
    (sss_cons (ss_set 6 hN se_non)
    (sss_one (ss_for PassesOwn.never rfl (si_seq (se_revL (se_var 4))) (sg_nm 7 hN) (sss_one (ss_if (sb_w (sw_and (sb_cmp (op_eqV hu4) (se_ix hu1 (se_var 1) (se_var 7)) (se_var 5)) (sw_and1 (sb_w (sw_or (sb_cmp op_isNV (se_var 6) se_non) (sw_or1 (sb_tru (se_call k_are_apart hr (by decide) gd rfl (sa_cons (se_ix hu1 (se_var 0) (se_var 7)) (sa_cons (se_ix hu1 (se_var 0) (se_var 6)) sa_nil)))))))))) (sss_cons (ss_expr (se_meth mt_appV PySem.F.plainAttrs_list PySem.F.slot_list_append PySem.F.type_list_append (se_var 2) (sa_cons (se_var 7) sa_nil)))
    (sss_cons (ss_set 6 hN (se_var 7))
    (sss_one (ss_set 5 hN (se_bin op_subV (se_var 5) se_int))))) sss_nil))))))))
    (sss_one (ss_ret (se_callTy blt_tuple rfl T.b_tuple (by rfl) (sa_cons (se_callB blt_sorted rfl T.b_sorted (by rfl) (sa_cons (se_var 2) sa_nil)) sa_nil)))))))
theorem sc_fewest : FnScope N_fewest ["stock", "works"] (defScope s_fewest) := ⟨rfl, rfl, rfl, by decide +kernel, rfl, by decide +kernel, by decide +kernel⟩
set_option maxHeartbeats 4000000 in
theorem ok_fewest {f : Addr} {fd : FuncData} (F : Fun K "fewest" "fewest" s_fewest f fd) (T : Top K mg) (k_need_works : CalG P w K mg base 6 "need_works" v_need_works 2) (k_run_of : CalG P w K mg base 3 "run_of" v_run_of 1) : FnG P w K mg base CX0 7 f fd ["stock", "works"] (spG K mg v_fewest 2) := by
  refine fnG0 (N := N_fewest) (m := m_fewest) F sc_fewest fun cdv A outer s H E hr gd => ?_
  have hN : N_fewest.Nodup := sc_fewest.nd
  have hu : A.units + 3 + 65 < cLine := by have := hr.un; have e : (A.deeper (envOfC "fewest" (defScope s_fewest) s.heap.objs.size f cdv)).units = A.units + 3 := rfl; omega
  have hu4 : A.units + 3 + 64 < cLine := by omega
  have hu1 : A.units + 3 + 1 < cLine := by omega
  exact (sss_one (ss_ret (se_callB blt_len rfl T.b_len (by rfl) (sa_cons (se_call k_run_of hr (by decide) gd rfl (sa_cons (se_call k_need_works hr (by decide) gd rfl (sa_cons (se_var 0) (sa_cons (se_var 1) sa_nil))) sa_nil)) sa_nil))))
theorem sc_tools_of : FnScope N_tools_of ["rows"] (defScope s_tools_of) := ⟨rfl, rfl, rfl, by decide +kernel, rfl, by decide +kernel, by decide +kernel⟩
set_option maxHeartbeats 4000000 in
theorem ok_tools_of {f : Addr} {fd : FuncData} (F : Fun K "tools_of" "tools_of" s_tools_of f fd) (T : Top K mg) (k_levels_of : CalG P w K mg base 2 "levels_of" v_levels_of 1) : FnG P w K mg base CX0 3 f fd ["rows"] (spG K mg v_tools_of 1) := by
  refine fnG0 (N := N_tools_of) (m := m_tools_of) F sc_tools_of fun cdv A outer s H E hr gd => ?_
  have hN : N_tools_of.Nodup := sc_tools_of.nd
  have hu : A.units + 3 + 65 < cLine := by have := hr.un; have e : (A.deeper (envOfC "tools_of" (defScope s_tools_of) s.heap.objs.size f cdv)).units = A.units + 3 := rfl; omega
  have hu4 : A.units + 3 + 64 < cLine := by omega
  have hu1 : A.units + 3 + 1 < cLine := by omega
  exact (sss_cons (ss_set 1 hN (se_lstM sa_nil))
    (sss_cons (ss_set 2 hN se_dictT)
    (sss_cons (ss_for PassesOwn.never rfl (si_zip rfl T.b_zip (sa_cons (se_var 0) (sa_cons (se_call k_levels_of hr (by decide) gd rfl (sa_cons (se_var 0) sa_nil)) sa_nil))) (sg_un rfl (sgs_cons (sg_nm 3 hN) (sgs_cons (sg_nm 4 hN) sgs_nil))) (sss_cons (ss_set 5 hN (se_tup (sa_cons (se_ix hu1 (se_var 3) se_int) (sa_cons (se_var 4) sa_nil))))
    (sss_cons (ss_put hu1 (se_callB (blt_min2 rfl) rfl T.b_min (by rfl) (sa_cons (se_ix hu1 (se_var 3) se_int) (sa_cons (se_get2 hu1 (se_var 2) (se_var 5) (se_ix hu1 (se_var 3) se_int)) sa_nil))) (se_var 2) (se_var 5))
    (sss_one (ss_expr (se_meth mt_appV PySem.F.plainAttrs_list PySem.F.slot_list_append PySem.F.type_list_append (se_var 1) (sa_cons (se_bin op_addV (se_var 5) (se_tup (sa_cons (se_ix hu1 (se_var 2) (se_var 5)) sa_nil))) sa_nil)))))))
    (sss_one (ss_ret (se_callTy blt_tuple rfl T.b_tuple (by rfl) (sa_cons (se_var 1) sa_nil)))))))
theorem sc_plan_for : FnScope N_plan_for ["stock", "works"] (defScope s_plan_for) := ⟨rfl, rfl, rfl, by decide +kernel, rfl, by decide +kernel, by decide +kernel⟩
set_option maxHeartbeats 4000000 in
theorem ok_plan_for {f : Addr} {fd : FuncData} (F : Fun K "plan_for" "plan_for" s_plan_for f fd) (T : Top K mg) (k_need_works : CalG P w K mg base 6 "need_works" v_need_works 2) (k_tools_of : CalG P w K mg base 3 "tools_of" v_tools_of 1) : FnG P w K mg base CX0 7 f fd ["stock", "works"] (spG K mg v_plan_for 2) := by
  refine fnG0 (N := N_plan_for) (m := m_plan_for) F sc_plan_for fun cdv A outer s H E hr gd => ?_
  have hN : N_plan_for.Nodup := sc_plan_for.nd
  have hu : A.units + 3 + 65 < cLine := by have := hr.un; have e : (A.deeper (envOfC "plan_for" (defScope s_plan_for) s.heap.objs.size f cdv)).units = A.units + 3 := rfl; omega
  have hu4 : A.units + 3 + 64 < cLine := by omega
  have hu1 : A.units + 3 + 1 < cLine := by omega
  exact (sss_one (ss_ret (se_call k_tools_of hr (by decide) gd rfl (sa_cons (se_call k_need_works hr (by decide) gd rfl (sa_cons (se_var 0) (sa_cons (se_var 1) sa_nil))) sa_nil))))
theorem sc__law_two_right : FnScope N__law_two_right ["draw", "s"] (defScope s__law_two_right) := ⟨rfl, rfl, rfl, by decide +kernel, rfl, by decide +kernel, by decide +kernel⟩
set_option maxHeartbeats 4000000 in
theorem ok__law_two_right {f : Addr} {fd : FuncData} (F : Fun K "_law_two_right" "_law_two_right" s__law_two_right f fd) (T : Top K mg) (k__law_names : CalG P w K mg base 3 "_law_names" v__law_names 2) (k_fewest : CalG P w K mg base 7 "fewest" v_fewest 2) (k_plan_for : CalG P w K mg base 7 "plan_for" v_plan_for 2) : FnG P w K mg base CX0 8 f fd ["draw", "s"] (spG K mg v__law_two_right 2) := by
  refine fnG0 (N := N__law_two_right) (m := m__law_two_right) F sc__law_two_right fun cdv A outer s H E hr gd => ?_
  have hN : N__law_two_right.Nodup := sc__law_two_right.nd
  have hu : A.units + 3 + 65 < cLine := by have := hr.un; have e : (A.deeper (envOfC "_law_two_right" (defScope s__law_two_right) s.heap.objs.size f cdv)).units = A.units + 3 := rfl; omega
  have hu4 : A.units + 3 + 64 < cLine := by omega
  have hu1 : A.units + 3 + 1 < cLine := by omega
  exact (sss_cons (ss_asg (se_call k__law_names hr (by decide) gd rfl (sa_cons (se_var 0) (sa_cons se_int sa_nil))) (sg_un rfl (sgs_cons (sg_nm 2 hN) (sgs_cons (sg_nm 3 hN) sgs_nil))))
    (sss_cons (ss_asg (se_call k__law_names hr (by decide) gd rfl (sa_cons (se_var 0) (sa_cons se_int sa_nil))) (sg_un rfl (sgs_cons (sg_nm 4 hN) (sgs_cons (sg_nm 5 hN) (sgs_cons (sg_nm 6 hN) sgs_nil)))))
    (sss_cons (ss_set 7 hN (se_tup (sa_cons (se_tup (sa_cons (se_var 4) (sa_cons (se_var 2) (sa_cons se_int (sa_cons (se_var 1) sa_nil))))) (sa_cons (se_tup (sa_cons (se_var 5) (sa_cons (se_var 3) (sa_cons (se_var 1) (sa_cons (se_bin op_addV (se_var 1) se_int) sa_nil))))) (sa_cons (se_tup (sa_cons (se_var 6) (sa_cons (se_var 2) (sa_cons se_int (sa_cons (se_bin op_addV (se_var 1) se_int) sa_nil))))) sa_nil)))))
    (sss_cons (ss_set 8 hN (se_tup (sa_cons (se_tup (sa_cons (se_tup (sa_cons (se_var 2) (sa_cons (se_var 1) sa_nil))) (sa_cons (se_tup (sa_cons (se_var 3) (sa_cons (se_bin op_addV (se_var 1) se_int) sa_nil))) sa_nil))) (sa_cons (se_tup sa_nil) (sa_cons (se_tup sa_nil) (sa_cons (se_tup sa_nil) (sa_cons (se_tup sa_nil) (sa_cons (se_tup sa_nil) (sa_cons (se_var 7) (sa_cons (se_tup sa_nil) sa_nil))))))))))
    (sss_cons (ss_set 9 hN (se_tup (sa_cons (se_tup (sa_cons (se_var 2) (sa_cons se_int (sa_cons (se_var 1) sa_nil)))) (sa_cons (se_tup (sa_cons (se_var 3) (sa_cons se_int (sa_cons (se_bin op_addV (se_var 1) se_int) sa_nil)))) (sa_cons (se_tup (sa_cons (se_var 2) (sa_cons se_int (sa_cons (se_var 1) sa_nil)))) (sa_cons (se_tup (sa_cons (se_var 3) (sa_cons se_int (sa_cons (se_bin op_addV (se_var 1) se_int) sa_nil)))) (sa_cons (se_tup (sa_cons (se_var 2) (sa_cons se_int (sa_cons (se_var 1) sa_nil)))) sa_nil)))))))
    (sss_cons (ss_if (sb_w (sw_or (sb_cmp (op_neV hu4) (se_callB (blt_repr gd hu4) rfl T.b_repr (by rfl) (sa_cons (se_call k_plan_for hr (by decide) gd rfl (sa_cons (se_var 8) (sa_cons (se_tup (sa_cons (se_var 4) (sa_cons (se_var 5) (sa_cons (se_var 6) (sa_cons (se_var 5) (sa_cons (se_var 4) sa_nil)))))) sa_nil))) sa_nil)) (se_callB (blt_repr gd hu4) rfl T.b_repr (by rfl) (sa_cons (se_var 9) sa_nil))) (sw_or1 (sb_cmp (op_neV hu4) (se_callB (blt_repr gd hu4) rfl T.b_repr (by rfl) (sa_cons (se_call k_fewest hr (by decide) gd rfl (sa_cons (se_var 8) (sa_cons (se_tup (sa_cons (se_var 4) (sa_cons (se_var 5) (sa_cons (se_var 6) (sa_cons (se_var 5) (sa_cons (se_var 4) sa_nil)))))) sa_nil))) sa_nil)) se_str)))) (sss_one (ss_ret se_bl)) sss_nil)
    (sss_one (ss_ret (se_cmp (op_eqV hu4) (se_callB (blt_repr gd hu4) rfl T.b_repr (by rfl) (sa_cons (se_lst (sa_cons (se_call k_plan_for hr (by decide) gd rfl (sa_cons (se_var 8) (sa_cons (se_tup sa_nil) sa_nil))) (sa_cons (se_call k_fewest hr (by decide) gd rfl (sa_cons (se_var 8) (sa_cons (se_tup sa_nil) sa_nil))) (sa_cons (se_call k_plan_for hr (by decide) gd rfl (sa_cons (se_var 8) (sa_cons (se_tup (sa_cons (se_var 6) sa_nil)) sa_nil))) sa_nil)))) sa_nil)) (se_callB (blt_repr gd hu4) rfl T.b_repr (by rfl) (sa_cons (se_lst (sa_cons (se_tup sa_nil) (sa_cons se_int (sa_cons (se_tup (sa_cons (se_tup (sa_cons (se_var 2) (sa_cons se_int (sa_cons (se_bin op_addV (se_var 1) se_int) sa_nil)))) sa_nil)) sa_nil)))) sa_nil)))))))))))
theorem sc_law : FnScope N_law ["script"] (defScope s_law) := ⟨rfl, rfl, rfl, by decide +kernel, rfl, by decide +kernel, by decide +kernel⟩
set_option maxHeartbeats 4000000 in
theorem ok_law {f : Addr} {fd : FuncData} (F : Fun K "law" "law" s_law f fd) (T : Top K mg) (k__law_cases : CalG P w K mg base 1 "_law_cases" v__law_cases 1) (k__law_draw : CalG P w K mg base 1 "_law_draw" v__law_draw 2) (k__law_plain : CalG P w K mg base 4 "_law_plain" v__law_plain 3) (k__law_take : CalG P w K mg base 2 "_law_take" v__law_take 2) (k__law_two_right : CalG P w K mg base 8 "_law_two_right" v__law_two_right 2) (k_fewest : CalG P w K mg base 7 "fewest" v_fewest 2) (k_plan_for : CalG P w K mg base 7 "plan_for" v_plan_for 2) : FnG P w K mg base CX0 9 f fd ["script"] (spG K mg v_law 1) := by
  refine fnG0 (N := N_law) (m := m_law) F sc_law fun cdv A outer s H E hr gd => ?_
  have hN : N_law.Nodup := sc_law.nd
  have hu : A.units + 3 + 65 < cLine := by have := hr.un; have e : (A.deeper (envOfC "law" (defScope s_law) s.heap.objs.size f cdv)).units = A.units + 3 := rfl; omega
  have hu4 : A.units + 3 + 64 < cLine := by omega
  have hu1 : A.units + 3 + 1 < cLine := by omega
  exact (sss_cons (ss_for PassesOwn.never rfl (si_rng1 rfl T.b_range (sa_cons (se_callB (blt_max2 rfl) rfl T.b_max (by rfl) (sa_cons se_int (sa_cons (se_callB (blt_min2 rfl) rfl T.b_min (by rfl) (sa_cons se_int (sa_cons (se_callB blt_len rfl T.b_len (by rfl) (sa_cons (se_var 0) sa_nil)) sa_nil))) sa_nil))) sa_nil)) (sg_nm 1 hN) (sss_cons (ss_set 2 hN (se_call k__law_draw hr (by decide) gd rfl (sa_cons (se_var 0) (sa_cons (se_var 1) sa_nil))))
    (sss_cons (ss_set 3 hN (se_call k__law_take hr (by decide) gd rfl (sa_cons (se_var 2) (sa_cons se_int sa_nil))))
    (sss_cons (ss_for PassesOwn.never rfl (si_seq (se_call k__law_cases hr (by decide) gd rfl (sa_cons (se_var 3) sa_nil))) (sg_un rfl (sgs_cons (sg_nm 4 hN) (sgs_cons (sg_nm 5 hN) (sgs_cons (sg_nm 6 hN) sgs_nil)))) (sss_cons (ss_asg (se_call k__law_plain hr (by decide) gd rfl (sa_cons (se_var 2) (sa_cons (se_call k__law_take hr (by decide) gd rfl (sa_cons (se_var 2) (sa_cons (se_bin op_addV (se_var 3) se_int) sa_nil))) (sa_cons (se_var 4) sa_nil)))) (sg_un rfl (sgs_cons (sg_nm 7 hN) (sgs_cons (sg_nm 8 hN) (sgs_cons (sg_nm 9 hN) sgs_nil)))))
    (sss_cons (ss_set 10 hN (se_callTy blt_tuple rfl T.b_tuple (by rfl) (sa_cons (se_lc rfl hN [("at", 11)] (si_seq (se_var 5)) (by rfl) (fun _ _ _ _ _ => (sg_nm 11 hN)) (fun _ _ _ _ _ => st_nil) (fun _ _ _ _ _ => (se_ix hu1 (se_var 9) (se_var 11)))) sa_nil)))
    (sss_cons (ss_if (sb_cmp (op_neV hu4) (se_callB (blt_repr gd hu4) rfl T.b_repr (by rfl) (sa_cons (se_call k_plan_for hr (by decide) gd rfl (sa_cons (se_var 7) (sa_cons (se_var 10) sa_nil))) sa_nil)) (se_callB (blt_repr gd hu4) rfl T.b_repr (by rfl) (sa_cons (se_callTy blt_tuple rfl T.b_tuple (by rfl) (sa_cons (se_lc rfl hN [("pair", 12)] (si_seq (se_var 6)) (by rfl) (fun _ _ _ _ _ => (sg_nm 12 hN)) (fun _ _ _ _ _ => st_nil) (fun _ _ _ _ _ => (se_bin op_addV (se_tup (sa_cons (se_var 8) sa_nil)) (se_var 12)))) sa_nil)) sa_nil))) (sss_one (ss_ret se_bl)) sss_nil)
    (sss_one (ss_if (sb_cmp (op_neV hu4) (se_callB (blt_repr gd hu4) rfl T.b_repr (by rfl) (sa_cons (se_call k_fewest hr (by decide) gd rfl (sa_cons (se_var 7) (sa_cons (se_var 10) sa_nil))) sa_nil)) (se_callB (blt_repr gd hu4) rfl T.b_repr (by rfl) (sa_cons (se_lenSet rfl rfl T.b_len rfl T.b_set (se_lc rfl hN [("pair", 12)] (si_seq (se_var 6)) (by rfl) (fun _ _ _ _ _ => (sg_nm 12 hN)) (fun _ _ _ _ _ => st_nil) (fun _ _ _ _ _ => (se_ix hu1 (se_var 12) se_int)))) sa_nil))) (sss_one (ss_ret se_bl)) sss_nil))))))
    (sss_one (ss_if (sb_not (sb_tru (se_call k__law_two_right hr (by decide) gd rfl (sa_cons (se_var 2) (sa_cons (se_var 3) sa_nil))))) (sss_one (ss_ret se_bl)) sss_nil))))))
    (sss_one (ss_ret se_bl)))
end
end K36

namespace EV
open PySem PySem.Spec PyProof.Rows L2
section
variable {S : Sto} {α : Type}
@[simp] theorem boolsD_map' (L : List α) (p : α → Bool) : boolsD (L.map fun a => PyData.bool (p a)) = some (L.map p) := by
  have := boolsD_map (L.map p)
  rwa [List.map_map] at this
@[simp] theorem allV_map (L : List α) (p : α → Bool) : allV (.d (.list (L.map fun a => PyData.bool (p a)))) S = .ok (.d (.bool (L.all p))) S := by
  unfold allV
  simp only [seqD, boolsD_map']
  rw [List.all_map]
  rfl
theorem in_sign {c : Nat} {z : Str} : inVS false (.d (.str ⟨#[c]⟩)) (.d (.str z)) S = .ok (.d (.bool (decide (c ∈ z.cps.toList)))) S := rfl
/-- is a text among texts -/
theorem any_str (x : Str) : ∀ L : List Str, ((L.map PyData.str).any fun z => PyData.eqv z (.str x)) = decide (x ∈ L)
  | [] => rfl
  | y :: L => by
    rw [List.map_cons, List.any_cons, any_str x L]
    have : PyData.eqv (.str y) (.str x) = (y == x) := rfl
    rw [this]
    by_cases h : y = x
    · subst h; simp
    · have h' : ¬ x = y := fun e => h e.symm
      simp [h, h']
theorem flat_strs : ∀ L : List Str, (L.map PyData.str).all flatD = true
  | [] => rfl
  | y :: L => by rw [List.map_cons, List.all_cons, flat_strs L]; rfl
theorem inV_map {neg : Bool} {x : Str} (L : List α) (nm : α → Str) : inVS neg (.d (.str x)) (.d (.list (L.map fun a => .str (nm a)))) S = .ok (.d (.bool (bNeg neg (decide (x ∈ L.map nm))))) S := by
  have e : (L.map fun a => PyData.str (nm a)) = (L.map nm).map .str := by rw [List.map_map]; rfl
  rw [e]
  unfold inVS inB signIn dictAt itemIn
  simp only [view_d, seqD, flatD, flat_strs, any_str]
  rfl
theorem inV_strs {neg : Bool} {x : Str} {L : List Str} : inVS neg (.d (.str x)) (.d (.list (L.map .str))) S = .ok (.d (.bool (bNeg neg (decide (x ∈ L))))) S := by
  unfold inVS inB signIn dictAt itemIn
  simp only [view_d, seqD, flatD, flat_strs, any_str]
  rfl
end
/-- a name as stocks have them -/
def NameOk (z : Str) : Prop := 1 ≤ z.length ∧ z.length ≤ 8 ∧ ∀ c ∈ z.cps.toList, 97 ≤ c ∧ c ≤ 122
theorem small_is : (Str.ofString "abcdefghijklmnopqrstuvwxyz").cps.toList = (List.range 26).map (· + 97) := by decide +kernel
theorem small_mem {c : Nat} (h : 97 ≤ c ∧ c ≤ 122) : c ∈ (Str.ofString "abcdefghijklmnopqrstuvwxyz").cps.toList := by
  rw [small_is]
  exact List.mem_map.mpr ⟨c - 97, List.mem_range.mpr (by omega), by omega⟩
end EV
namespace K36
open PySem PySem.Spec PyProof.Rows L2 EV
variable {S : Sto}
theorem v_is_among_int {i lo hi : Int} : v_is_among [.d (.int i), .d (.int lo), .d (.int hi)] S = .ok (.d (.bool (decide (lo ≤ i) && decide (i ≤ hi)))) S := by
  simp [v_is_among, m_is_among, spM_eq]
  split <;> simp [*]
theorem v_is_size_int {i : Int} : v_is_size [.d (.int i)] S = .ok (.d (.bool (decide (0 ≤ i) && decide (i ≤ 99)))) S := by
  simp [v_is_size, m_is_size, spM_eq, v_is_among_int, c_MOST_SIZE]
theorem v_is_tuple_of_tup {ds : List PyData} {n : Int} : v_is_tuple_of [.d (.tuple ds), .d (.int n)] S = .ok (.d (.bool (decide ((ds.length : Int) = n)))) S := by
  simp [v_is_tuple_of, m_is_tuple_of, spM_eq]
  rfl
theorem v_is_name_ok {z : Str} (h : NameOk z) : v_is_name [.d (.str z)] S = .ok (.d (.bool true)) S := by
  obtain ⟨h1, h2, h3⟩ := h
  have hz : z.length ≤ sizeLine := by rw [sizeLine_eq]; omega
  have hl : z.cps.toList.length = z.length := by simp [Str.length]
  have e : mLc (gNm 1) (iSeq (mVar 0)) mYes (mBin (inVS false) (mVar 1) (mC c_SMALL)) [1] [some (.d (.str z)), none] S = .ok (.d (.list (z.cps.toList.map fun c => .bool true))) S :=
    mLc_map z.cps.toList (fun c => .str ⟨#[c]⟩) _ (by simp [strL]) (by omega) fun c hc => ⟨_, rfl, by
      have := small_mem (h3 c hc)
      simp only [mBin_eq, mVar_eq, mC_eq, c_SMALL, RE.bind_ok, varR_some, wipeN_cons, wipeN_nil, List.set_cons_succ, List.set_cons_zero, List.getElem?_cons_succ, List.getElem?_cons_zero, in_sign, this, decide_true]⟩
  have a1 : (1 : Int) ≤ z.length := by omega
  have a2 : (z.length : Int) ≤ 8 := by omega
  simp [v_is_name, m_is_name, spM_eq, lenV_str hz, c_MOST_LETTERS, a1, a2, e]
/-- rows whose first part is a text -/
theorem v_names_of_ok {α : Type} {L : List α} (nm : α → Str) (rs : α → List PyData) (hl : L.length ≤ 1000000) {x : Vl} (hx : seqI x S = .ok ((L.map fun a => PyData.tuple (.str (nm a) :: rs a)).map .d) [] S) :
    v_names_of [x] S = .ok (.d (.list (L.map fun a => .str (nm a)))) S := by
  have e : mLc (gNm 1) (iSeq (mVar 0)) mYes (mBin ixVS (mVar 1) (mC (.int 0))) [1] [some x, none] S = .ok (.d (.list (L.map fun a => .str (nm a)))) S :=
    mLc_map L (fun a => .tuple (.str (nm a) :: rs a)) _ (by simp [hx]) hl fun c hc => ⟨_, rfl, by simp⟩
  simp [v_names_of, m_names_of, spM_eq, e]
theorem v_is_new_ok {α : Type} {L : List α} (nm : α → Str) (rs : α → List PyData) (hl : L.length ≤ 1000000) {x : Vl} (hx : seqI x S = .ok ((L.map fun a => PyData.tuple (.str (nm a) :: rs a)).map .d) [] S) {z : Str} (hz : NameOk z) (hn : z ∉ L.map nm) :
    v_is_new [.d (.str z), x] S = .ok (.d (.bool true)) S := by
  simp [v_is_new, m_is_new, spM_eq, v_is_name_ok hz, v_names_of_ok nm rs hl hx, inV_map, bNeg, hn, -List.mem_map]
end K36

namespace K36
open PySem PySem.Spec PyProof.Rows L2 EV
variable {S : Sto}
abbrev Kd := Str × Int
abbrev Wk := Str × Str × Int × Int
def kD (p : Kd) : PyData := .tuple [.str p.1, .int p.2]
def wD (w : Wk) : PyData := .tuple [.str w.1, .str w.2.1, .int w.2.2.1, .int w.2.2.2]
def stD (ks : List Kd) (ws : List Wk) : PyData := .tuple [.tuple (ks.map kD), .tuple [], .tuple [], .tuple [], .tuple [], .tuple [], .tuple (ws.map wD), .tuple []]
theorem tix_kind : tixV (.k c_SORTS) [.d (.str "kind")] S = .ok (.d (.int 0)) S := by
  have e : (["kind", "box", "tool", "hand", "set", "gauge", "work", "keep"] : List Str).findIdx? (fun y => decide (y = ("kind" : Str))) = some 0 := by decide +kernel
  unfold tixV c_SORTS
  simp only [strsD, Option.map_some]
  rw [e]
  rfl
theorem tix_work : tixV (.k c_SORTS) [.d (.str "work")] S = .ok (.d (.int 6)) S := by
  have e : (["kind", "box", "tool", "hand", "set", "gauge", "work", "keep"] : List Str).findIdx? (fun y => decide (y = ("work" : Str))) = some 6 := by decide +kernel
  unfold tixV c_SORTS
  simp only [strsD, Option.map_some]
  rw [e]
  rfl
@[simp] theorem rty_k {ds : List PyData} : rty (.k ds) S = "tuple" := rfl
theorem v_rows_of_kind {ks : List Kd} {ws : List Wk} : v_rows_of [.d (stD ks ws), .d (.str "kind")] S = .ok (.d (.tuple (ks.map kD))) S := by
  simp [v_rows_of, m_rows_of, spM_eq, tix_kind, stD]
theorem v_rows_of_work {ks : List Kd} {ws : List Wk} : v_rows_of [.d (stD ks ws), .d (.str "work")] S = .ok (.d (.tuple (ws.map wD))) S := by
  simp [v_rows_of, m_rows_of, spM_eq, tix_work, stD]
theorem v_is_there_ok {α : Type} {x : Str} (L : List α) (nm : α → Str) : v_is_there [.d (.str x), .d (.list (L.map fun a => .str (nm a)))] S = .ok (.d (.bool (decide (x ∈ L.map nm)))) S := by
  simp [v_is_there, m_is_there, spM_eq, inV_map, bNeg, -List.mem_map]
theorem v_is_kind_ok {ks : List Kd} {p : Kd} (hl : ks.length ≤ 1000000) {x : Vl} (hx : seqI x S = .ok ((ks.map kD).map .d) [] S) (hz : NameOk p.1) (hn : p.1 ∉ ks.map (·.1)) (h0 : 0 ≤ p.2) (h1 : p.2 ≤ 99) :
    v_is_kind [.d (kD p), x] S = .ok (.d (.bool true)) S := by
  have e := v_is_new_ok (z := p.1) (L := ks) (fun p => p.1) (fun p => [.int p.2]) hl hx hz hn
  simp [v_is_kind, m_is_kind, spM_eq, kD, v_is_tuple_of_tup, e, v_is_size_int, h0, h1]
theorem v_is_ranged_ok {ks : List Kd} {ws ws' : List Wk} {w : Wk} (hl : ws'.length ≤ 1000000) (hlk : ks.length ≤ 1000000) {x : Vl} (hx : seqI x S = .ok ((ws'.map wD).map .d) [] S) (hz : NameOk w.1) (hn : w.1 ∉ ws'.map (·.1)) (hk : w.2.1 ∈ ks.map (·.1))
    (h0 : 0 ≤ w.2.2.1) (h1 : w.2.2.1 ≤ w.2.2.2) (h2 : w.2.2.2 ≤ 99) : v_is_ranged [.d (stD ks ws), .d (wD w), x] S = .ok (.d (.bool true)) S := by
  have e := v_is_new_ok (z := w.1) (L := ws') (fun p => p.1) (fun w => [.str w.2.1, .int w.2.2.1, .int w.2.2.2]) hl hx hz hn
  have e2 := v_names_of_ok (S := S) (x := .d (.tuple (ks.map kD))) (L := ks) (fun p => p.1) (fun p => [.int p.2]) hlk rfl
  have e3 := v_is_there_ok (S := S) (x := w.2.1) ks (fun p => p.1)
  have a1 : w.2.2.1 ≤ 99 := by omega
  have a2 : 0 ≤ w.2.2.2 := by omega
  simp [v_is_ranged, m_is_ranged, spM_eq, wD, v_is_tuple_of_tup, e, v_is_size_int, v_rows_of_kind, e2, e3, hk, h0, h1, h2, a1, a2, -List.mem_map]
end K36

namespace EV
open PySem PySem.Spec PyProof.Rows L2
/-! data that is laid plainly -/
theorem lay_map {α : Type} (f : α → PyData) : ∀ L : List α, (∀ a ∈ L, (f a).canLay0 = true) → PyData.canLayAll0 (L.map f) = true
  | [], _ => rfl
  | a :: L, h => by
    rw [List.map_cons]
    show ((f a).canLay0 && PyData.canLayAll0 (L.map f)) = true
    rw [h a List.mem_cons_self, lay_map f L fun b hb => h b (List.mem_cons_of_mem _ hb)]
    rfl
theorem dep_map {α : Type} (f : α → PyData) (n : Nat) (h : ∀ a, (f a).depth ≤ n) : ∀ L : List α, PyData.depthAll (L.map f) ≤ n
  | [] => Nat.zero_le _
  | a :: L => by
    rw [List.map_cons]
    show max (f a).depth (PyData.depthAll (L.map f)) ≤ n
    have := h a
    have := dep_map f n h L
    omega
theorem shaped_tup {α : Type} (f : α → PyData) (n : Nat) (hn : n + 1 ≤ 64) (L : List α) (h1 : ∀ a ∈ L, (f a).canLay0 = true) (h2 : ∀ a, (f a).depth ≤ n) : SeqAt.shaped (.tuple (L.map f)) = true := by
  unfold SeqAt.shaped
  have e1 : (PyData.tuple (L.map f)).canLay0 = PyData.canLayAll0 (L.map f) := rfl
  have e2 : (PyData.tuple (L.map f)).depth = PyData.depthAll (L.map f) + 1 := rfl
  rw [e1, e2, lay_map f L h1]
  have := dep_map f n h2 L
  simp
  omega
theorem shaped_lst {α : Type} (f : α → PyData) (n : Nat) (hn : n + 1 ≤ 64) (L : List α) (h1 : ∀ a ∈ L, (f a).canLay0 = true) (h2 : ∀ a, (f a).depth ≤ n) : SeqAt.shaped (.list (L.map f)) = true := by
  unfold SeqAt.shaped
  have e1 : (PyData.list (L.map f)).canLay0 = PyData.canLayAll0 (L.map f) := rfl
  have e2 : (PyData.list (L.map f)).depth = PyData.depthAll (L.map f) + 1 := rfl
  rw [e1, e2, lay_map f L h1]
  have := dep_map f n h2 L
  simp
  omega
end EV
namespace EV
open PySem PySem.Spec PyProof.Rows L2
theorem NameOk.strOk {z : Str} (h : NameOk z) : PyData.strOk z = true := by
  obtain ⟨h1, h2, h3⟩ := h
  unfold PyData.strOk
  rw [← Array.all_toList, List.all_eq_true]
  exact fun c hc => decide_eq_true (by have := h3 c hc; omega)
end EV
namespace K36
open PySem PySem.Spec PyProof.Rows L2 EV
variable {S : Sto}
@[simp] theorem sw1 : (Str.ofString "work" == Str.ofString "kind") = false := by decide +kernel
@[simp] theorem sw2 : (Str.ofString "work" == Str.ofString "box") = false := by decide +kernel
@[simp] theorem sw3 : (Str.ofString "work" == Str.ofString "tool") = false := by decide +kernel
@[simp] theorem sw4 : (Str.ofString "work" == Str.ofString "hand") = false := by decide +kernel
@[simp] theorem sw5 : (Str.ofString "work" == Str.ofString "set") = false := by decide +kernel
@[simp] theorem sw6 : (Str.ofString "work" == Str.ofString "keep") = false := by decide +kernel
structure Valid (ks : List Kd) (ws : List Wk) : Prop where
  k0 : ks ≠ []
  k1 : ks.length ≤ 6
  w1 : ws.length ≤ 8
  kn : (ks.map (·.1)).Nodup
  wn : (ws.map (·.1)).Nodup
  ko : ∀ p ∈ ks, NameOk p.1 ∧ 0 ≤ p.2 ∧ p.2 ≤ 99
  wo : ∀ w ∈ ws, NameOk w.1 ∧ w.2.1 ∈ ks.map (·.1) ∧ 0 ≤ w.2.2.1 ∧ w.2.2.1 ≤ w.2.2.2 ∧ w.2.2.2 ≤ 99
theorem nodup_ahead {α : Type} {L : List α} {f : α → Str} {i : Nat} {a : α} (h : (L.map f).Nodup) (e : L[i]? = some a) : f a ∉ (L.take i).map f := by
  intro hm
  rw [List.map_take] at hm
  obtain ⟨j, hj, e2⟩ := List.mem_iff_getElem.mp hm
  have hi := (List.getElem?_eq_some_iff.mp e).1
  rw [List.length_take, List.length_map] at hj
  rw [List.getElem_take] at e2
  have e3 : (L.map f)[i]'(by rw [List.length_map]; exact hi) = f a := by
    rw [List.getElem_map]
    exact congrArg f (List.getElem?_eq_some_iff.mp e).2
  have := (List.getElem_inj h).mp (e2.trans e3.symm)
  omega
theorem v_is_one_kind {ks : List Kd} {ws : List Wk} (V : Valid ks ws) {i : Nat} {row : PyData} (e : (ks.map kD)[i]? = some row) : v_is_one [.d (stD ks ws), .d (.str "kind"), .d row, .d (.tuple ((ks.map kD).take i))] S = .ok (.d (.bool true)) S := by
  rw [List.getElem?_map, Option.map_eq_some_iff] at e
  obtain ⟨p, e1, rfl⟩ := e
  obtain ⟨o1, o2, o3⟩ := V.ko p (List.mem_of_getElem? e1)
  have := V.k1
  have q := v_is_kind_ok (S := S) (ks := ks.take i) (p := p) (x := .d (.tuple ((ks.map kD).take i))) (by rw [List.length_take]; omega) (by simp [List.map_take]) o1 (nodup_ahead V.kn e1) o2 o3
  simp only [v_is_one, m_is_one, spM_eq]
  simp [q]
theorem v_is_one_work {ks : List Kd} {ws : List Wk} (V : Valid ks ws) {i : Nat} {row : PyData} (e : (ws.map wD)[i]? = some row) : v_is_one [.d (stD ks ws), .d (.str "work"), .d row, .d (.tuple ((ws.map wD).take i))] S = .ok (.d (.bool true)) S := by
  rw [List.getElem?_map, Option.map_eq_some_iff] at e
  obtain ⟨w, e1, rfl⟩ := e
  obtain ⟨o1, o2, o3, o4, o5⟩ := V.wo w (List.mem_of_getElem? e1)
  have := V.w1
  have := V.k1
  have q := v_is_ranged_ok (S := S) (ks := ks) (ws := ws) (ws' := ws.take i) (w := w) (x := .d (.tuple ((ws.map wD).take i))) (by rw [List.length_take]; omega) (by omega) (by simp [List.map_take]) o1 (nodup_ahead V.wn e1) o2 o3 o4 o5
  simp only [v_is_one, m_is_one, spM_eq]
  simp [q]
theorem v_has_form_ok {ks : List Kd} {ws : List Wk} (V : Valid ks ws) : v_has_form [.d (stD ks ws)] S = .ok (.d (.bool true)) S := by
  have hk := V.k1
  have hw := V.w1
  have e1 : mLc (gNm 1) (iSeq (mVar 0)) mYes (mIsI "tuple" (mVar 1)) [1] [some (.d (stD ks ws)), none, none] S = .ok (.d (.list (List.map (fun _ => .bool true) [ks.map kD, [], [], [], [], [], ws.map wD, []]))) S :=
    mLc_map [ks.map kD, [], [], [], [], [], ws.map wD, []] (fun l => .tuple l) _ (by simp [stD]) (by simp) fun c hc => ⟨_, rfl, by simp⟩
  have e2 : mLc (gUn 2 (gsCons (gNm 1) (gsCons (gNm 2) gsNil))) (iZipM (aCons (mVar 0) (aCons (mK c_MOST) aNil))) mYes (mBin leV (mBlt (one lenV) (aCons (mVar 1) aNil)) (mVar 2)) [1, 2] [some (.d (stD ks ws)), none, none] S =
      .ok (.d (.list (List.map (fun p : List PyData × Int => .bool (decide ((p.1.length : Int) ≤ p.2))) [(ks.map kD, 6), ([], 5), ([], 12), ([], 5), ([], 4), ([], 3), (ws.map wD, 8), ([], 6)]))) S := by
    have := mLc_pure (ρ := [some (.d (stD ks ws)), none, none]) (S := S) (g := gUn 2 (gsCons (gNm 1) (gsCons (gNm 2) gsNil))) (mi := iZipM (aCons (mVar 0) (aCons (mK c_MOST) aNil))) (t := mYes) (e := mBin leV (mBlt (one lenV) (aCons (mVar 1) aNil)) (mVar 2)) (pins := []) (vs := [1, 2])
      [(ks.map kD, (6 : Int)), ([], 5), ([], 12), ([], 5), ([], 4), ([], 3), (ws.map wD, 8), ([], 6)] (fun p => .d (.tuple [.tuple p.1, .int p.2])) (fun _ => true) (fun p => .bool (decide ((p.1.length : Int) ≤ p.2)))
      (by rw [iZip_d (x := .d (stD ks ws)) (y := .k c_MOST) (b := false) (xs := [ks.map kD, [], [], [], [], [], ws.map wD, []].map fun l => .d (.tuple l)) (ys := c_MOST.map .d) (by simp) (by simp [stD]) (by simp)]; simp [zipL, c_MOST, mkTupU, isRefD]) pins0 (by simp) fun c hc => ⟨_, rfl, by simp, fun _ => by simp⟩
    simpa using this
  have sh : SeqAt.shaped (.tuple (ks.map kD)) = true := shaped_tup kD 1 (by decide) ks (fun p hp => by simp [kD, PyData.canLay0, PyData.canLayAll0, (V.ko p hp).1.strOk]) (fun _ => by simp [kD, PyData.depth, PyData.depthAll])
  have ne : PyData.eqv (.tuple (ks.map kD)) (.tuple []) = false := by
    cases hks : ks with
    | nil => exact absurd hks V.k0
    | cons a r => rfl
  have ok : eqOk (.tuple (ks.map kD)) (.tuple []) = true := by
    unfold eqOk
    rw [sh]
    rfl
  have k6 : (ks.length : Int) ≤ 6 := by omega
  have w8 : (ws.length : Int) ≤ 8 := by omega
  have l8 : v_is_tuple_of [.d (stD ks ws), .d (.int 8)] S = .ok (.d (.bool true)) S := by
    rw [stD, v_is_tuple_of_tup]
    rfl
  have st0 : ixVS (.d (stD ks ws)) (.d (.int 0)) S = .ok (.d (.tuple (ks.map kD))) S := by simp [stD]
  simp only [v_has_form, m_has_form, spM_eq]
  simp [e1, e2, l8, c_SORTS, st0, eqVS_d, ok, ne, k6, w8, allV, seqD, boolsD]

/-- the pairs over which need_stock walks -/
def sortRows (ks : List Kd) (ws : List Wk) : List (Str × List PyData) := [("kind", ks.map kD), ("box", []), ("tool", []), ("hand", []), ("set", []), ("gauge", []), ("work", ws.map wD), ("keep", [])]
theorem v_is_one_all {ks : List Kd} {ws : List Wk} (V : Valid ks ws) {p : Str × List PyData} (hp : p ∈ sortRows ks ws) {i : Nat} {row : PyData} (e : p.2[i]? = some row) : v_is_one [.d (stD ks ws), .d (.str p.1), .d row, .d (.tuple (p.2.take i))] S = .ok (.d (.bool true)) S := by
  simp only [sortRows, List.mem_cons, List.not_mem_nil, or_false] at hp
  rcases hp with rfl | rfl | rfl | rfl | rfl | rfl | rfl | rfl
  · exact v_is_one_kind V e
  · simp at e
  · simp at e
  · simp at e
  · simp at e
  · simp at e
  · exact v_is_one_work V e
  · simp at e
theorem v_need_stock_ok {ks : List Kd} {ws : List Wk} (V : Valid ks ws) : v_need_stock [.d (stD ks ws)] S = .ok (.d (stD ks ws)) S := by
  have inner : ∀ (p : Str × List PyData), p ∈ sortRows ks ws → ∀ a b : Option Vl, ∃ a' b',
      sFor (gUn 2 (gsCons (gNm 3) (gsCons (gNm 4) gsNil))) (iEnumM (aCons (mVar 2) aNil)) (sIf (mNot (mTru (mCall 4 v_is_one (aCons (mVar 0) (aCons (mVar 1) (aCons (mVar 4) (aCons (mSlice (mVar 2) none (some (mVar 3))) aNil))))))) sBad sNil)
        [some (.d (stD ks ws)), some (.d (.str p.1)), some (.d (.tuple p.2)), a, b] S = .nx [some (.d (stD ks ws)), some (.d (.str p.1)), some (.d (.tuple p.2)), a', b'] S := by
    intro p hp a b
    rw [sFor_eq, iEnum_d (x := .d (.tuple p.2)) (b := false) (xs := p.2.map .d) (by simp) (by simp)]
    simp only [RI.toS_ok, pinV_d]
    obtain ⟨ρ', S', h1, ⟨a', b', rfl⟩, rfl⟩ := forL_ix (ρ := [some (.d (stD ks ws)), some (.d (.str p.1)), some (.d (.tuple p.2)), a, b]) (S := S) (g := gUn 2 (gsCons (gNm 3) (gsCons (gNm 4) gsNil)))
      (body := sIf (mNot (mTru (mCall 4 v_is_one (aCons (mVar 0) (aCons (mVar 1) (aCons (mVar 4) (aCons (mSlice (mVar 2) none (some (mVar 3))) aNil))))))) sBad sNil) (enumL (p.2.map .d))
      (fun _ ρ S' => (∃ a b, ρ = [some (.d (stD ks ws)), some (.d (.str p.1)), some (.d (.tuple p.2)), a, b]) ∧ S' = S) ⟨⟨a, b, rfl⟩, rfl⟩ (fun i x ρ S' hx ⟨⟨a, b, e1⟩, e2⟩ => by
        subst e1 e2
        have hx' : (enumL ((p.2.map id).map .d))[i]? = some x := by rw [List.map_id]; exact hx
        obtain ⟨row, hr, rfl⟩ := enumL_get' hx'
        refine ⟨[some (.d (stD ks ws)), some (.d (.str p.1)), some (.d (.tuple p.2)), some (.d (.int i)), some (.d row)], by simp, [some (.d (stD ks ws)), some (.d (.str p.1)), some (.d (.tuple p.2)), some (.d (.int i)), some (.d row)], S', .inl ?_, ⟨_, _, rfl⟩, rfl⟩
        have q := v_is_one_all (S := S') V hp hr
        simp [cutL_take, q])
    exact ⟨a', b', h1⟩
  have items : iZipM (aCons (mK c_SORTS) (aCons (mVar 0) aNil)) [some (.d (stD ks ws)), none, none, none, none] S = .ok ((sortRows ks ws).map fun p => .d (.tuple [.str p.1, .tuple p.2])) [] S := by
    rw [iZip_d (x := .k c_SORTS) (y := .d (stD ks ws)) (b := false) (xs := c_SORTS.map .d) (ys := [ks.map kD, [], [], [], [], [], ws.map wD, []].map fun l => .d (.tuple l)) (by simp) (by simp) (by simp [stD])]
    simp [zipL, c_SORTS, mkTupU, isRefD, sortRows]
  obtain ⟨ρ', S', h1, ⟨a, b, c, d, e1⟩, e2⟩ := forL_ix (ρ := [some (.d (stD ks ws)), none, none, none, none]) (S := S) (g := gUn 2 (gsCons (gNm 1) (gsCons (gNm 2) gsNil)))
    (body := sFor (gUn 2 (gsCons (gNm 3) (gsCons (gNm 4) gsNil))) (iEnumM (aCons (mVar 2) aNil)) (sIf (mNot (mTru (mCall 4 v_is_one (aCons (mVar 0) (aCons (mVar 1) (aCons (mVar 4) (aCons (mSlice (mVar 2) none (some (mVar 3))) aNil))))))) sBad sNil))
    ((sortRows ks ws).map fun p => .d (.tuple [.str p.1, .tuple p.2])) (fun _ ρ S' => (∃ a b c d, ρ = [some (.d (stD ks ws)), a, b, c, d]) ∧ S' = S) ⟨⟨_, _, _, _, rfl⟩, rfl⟩ (fun i x ρ S' hx ⟨⟨a, b, c, d, e1⟩, e2⟩ => by
      subst e1 e2
      rw [List.getElem?_map, Option.map_eq_some_iff] at hx
      obtain ⟨p, e3, rfl⟩ := hx
      obtain ⟨a', b', q⟩ := inner p (List.mem_of_getElem? e3) c d
      exact ⟨[some (.d (stD ks ws)), some (.d (.str p.1)), some (.d (.tuple p.2)), c, d], by simp, _, _, .inl q, ⟨_, _, _, _, rfl⟩, rfl⟩)
  subst e1
  rw [e2] at h1
  have outer : sFor (gUn 2 (gsCons (gNm 1) (gsCons (gNm 2) gsNil))) (iZipM (aCons (mK c_SORTS) (aCons (mVar 0) aNil))) (sFor (gUn 2 (gsCons (gNm 3) (gsCons (gNm 4) gsNil))) (iEnumM (aCons (mVar 2) aNil)) (sIf (mNot (mTru (mCall 4 v_is_one (aCons (mVar 0) (aCons (mVar 1) (aCons (mVar 4) (aCons (mSlice (mVar 2) none (some (mVar 3))) aNil))))))) sBad sNil))
      [some (.d (stD ks ws)), none, none, none, none] S = .nx [some (.d (stD ks ws)), a, b, c, d] S := by
    rw [sFor_eq, items]
    exact h1
  simp only [v_need_stock, m_need_stock, spM_eq]
  simp [v_has_form_ok V, outer, -sFor_eq]
end K36

namespace K36
open PySem PySem.Spec PyProof.Rows L2 EV
variable {S : Sto}
theorem row_loop {α : Type} {st sort : PyData} (nm : α → Str) (rs : α → List PyData) (x : Str) {a : α} : ∀ (L : List α) (c : Option Vl), (L.find? fun a => nm a == x) = some a →
    forL (gNm 3) (sIf (mAnd (mTru (mIsI "str" (mVar 2))) (mBin (eqVS false) (mBin ixVS (mVar 3) (mC (.int 0))) (mVar 2))) (sRet (mVar 3)) sNil) [] (L.map fun a => .d (.tuple (.str (nm a) :: rs a))) [some (.d st), some (.d sort), some (.d (.str x)), c] S = .ret (.d (.tuple (.str (nm a) :: rs a))) S
  | [], _, h => by cases h
  | b :: L, c, h => by
    rw [List.map_cons, forL_cons]
    rw [List.find?_cons] at h
    cases e : (nm b == x) with
    | true =>
      rw [e] at h
      cases h
      simp [e]
    | false =>
      rw [e] at h
      have ih := row_loop (st := st) (sort := sort) nm rs x L (some (.d (.tuple (.str (nm b) :: rs b)))) h
      simp [e, ih]
theorem v_row_called_ok {α : Type} {L : List α} (nm : α → Str) (rs : α → List PyData) {st sort : PyData} {x : Str} {a : α} (hr : v_rows_of [.d st, .d sort] S = .ok (.d (.tuple (L.map fun a => .tuple (.str (nm a) :: rs a)))) S) (h : (L.find? fun a => nm a == x) = some a) :
    v_row_called [.d st, .d sort, .d (.str x)] S = .ok (.d (.tuple (.str (nm a) :: rs a))) S := by
  have q := row_loop (S := S) (st := st) (sort := sort) nm rs x L none h
  have q' : forL (gNm 3) (sIf (mAnd (mTru (mIsI "str" (mVar 2))) (mBin (eqVS false) (mBin ixVS (mVar 3) (mC (.int 0))) (mVar 2))) (sRet (mVar 3)) sNil) [] ((L.map fun a => PyData.tuple (.str (nm a) :: rs a)).map .d) [some (.d st), some (.d sort), some (.d (.str x)), none] S = .ret (.d (.tuple (.str (nm a) :: rs a))) S := by
    rw [List.map_map]; exact q
  simp only [v_row_called, m_row_called, spM_eq]
  simp [hr, q', -List.map_map]
abbrev Jb := Str × Int × Int
def jD (j : Jb) : PyData := .tuple [.str j.1, .int j.2.1, .int j.2.2]
def sizeOf' (ks : List Kd) (z : Str) : Int := ((ks.find? fun p => p.1 == z).map (·.2)).getD 0
def jobOf (ks : List Kd) (w : Wk) : Jb := (w.2.1, (if sizeOf' ks w.2.1 > w.2.2.1 then sizeOf' ks w.2.1 else w.2.2.1), w.2.2.2)
theorem find_in {α : Type} {L : List α} {nm : α → Str} {x : Str} (h : x ∈ L.map nm) : ∃ a, (L.find? fun a => nm a == x) = some a ∧ nm a = x ∧ a ∈ L := by
  cases e : L.find? fun a => nm a == x with
  | none =>
    obtain ⟨a, ha, rfl⟩ := List.mem_map.mp h
    have := List.find?_eq_none.mp e a ha
    simp at this
  | some a => exact ⟨a, rfl, by simpa using List.find?_some e, List.mem_of_find?_eq_some e⟩
theorem find_self {α : Type} {L : List α} {nm : α → Str} {a : α} (hn : (L.map nm).Nodup) (ha : a ∈ L) : (L.find? fun b => nm b == nm a) = some a := by
  induction L with
  | nil => cases ha
  | cons b L ih =>
    rw [List.find?_cons]
    rw [List.map_cons, List.nodup_cons] at hn
    rcases List.mem_cons.mp ha with rfl | ha
    · simp
    · have : ¬ nm b = nm a := fun e => hn.1 (e ▸ List.mem_map.mpr ⟨a, ha, rfl⟩)
      have e : (nm b == nm a) = false := by simpa using this
      rw [e]
      exact ih hn.2 ha
theorem v_row_work {ks : List Kd} {ws : List Wk} (V : Valid ks ws) {w : Wk} (hw : w ∈ ws) : v_row_called [.d (stD ks ws), .d (.str "work"), .d (.str w.1)] S = .ok (.d (wD w)) S :=
  v_row_called_ok (L := ws) (fun w => w.1) (fun w => [.str w.2.1, .int w.2.2.1, .int w.2.2.2]) v_rows_of_work (find_self V.wn hw)
theorem v_row_kind {ks : List Kd} {ws : List Wk} {z : Str} (hz : z ∈ ks.map (·.1)) : ∃ p : Kd, p.1 = z ∧ p.2 = sizeOf' ks z ∧ p ∈ ks ∧ v_row_called [.d (stD ks ws), .d (.str "kind"), .d (.str z)] S = .ok (.d (kD p)) S := by
  obtain ⟨p, h1, h2, h3⟩ := find_in hz
  exact ⟨p, h2, by unfold sizeOf'; rw [h1]; rfl, h3, v_row_called_ok (L := ks) (fun p => p.1) (fun p => [.int p.2]) v_rows_of_kind h1⟩
/-- the works asked for -/
structure Asked (ks : List Kd) (ws some : List Wk) : Prop where
  len : some.length ≤ 12
  mem : ∀ w ∈ some, w ∈ ws
  fit : ∀ w ∈ some, sizeOf' ks w.2.1 ≤ w.2.2.2
theorem v_need_works_ok {ks : List Kd} {ws sm : List Wk} (V : Valid ks ws) (A : Asked ks ws sm) (hS : Clo S) : v_need_works [.d (stD ks ws), .d (.tuple (sm.map fun w => .str w.1))] S = .ok (.d (.list ((sm.map (jobOf ks)).map jD))) S := by
  have hl := A.len
  have e1 : mLc (gNm 9) (iSeq (mVar 1)) mYes (mCall 3 v_row_called (aCons (mVar 0) (aCons (mC (.str "work")) (aCons (mVar 9) aNil)))) [9] [some (.d (stD ks ws)), some (.d (.tuple (sm.map fun w => .str w.1))), none, none, none, none, none, none, none, none] S = .ok (.d (.list (sm.map wD))) S :=
    mLc_map sm (fun w => .str w.1) _ (by simp) (by omega) fun w hw => ⟨_, rfl, by simp [v_row_work V (A.mem w hw)]⟩
  let X : Nat → Sto := fun i => S ++ [.lst (((sm.take i).map fun w => jD (jobOf ks w)).map .d)]
  obtain ⟨ρ', S', h1, ⟨a, b, c, d, e, f, e3⟩, e4⟩ := forL_st (ρ := [some (.d (stD ks ws)), some (.d (.tuple (sm.map fun w => .str w.1))), some (.d (.list (sm.map wD))), some (.r S.length), none, none, none, none, none, none]) (S := S ++ [.lst []]) (g := gUn 4 (gsCons (gNm 4) (gsCons (gNm 5) (gsCons (gNm 6) (gsCons (gNm 7) gsNil)))))
    (body := sSeq (sSet 8 (mBin ixVS (mCall 3 v_row_called (aCons (mVar 0) (aCons (mC (.str "kind")) (aCons (mVar 5) aNil)))) (mC (.int 1))))
      (sSeq (sIf (mBin ltV (mVar 7) (mVar 8)) sBad sNil) (sExpr (mMeth "list" appV (mVar 3) (aCons (mTup (aCons (mVar 5) (aCons (mBlt (two max2V) (aCons (mVar 6) (aCons (mVar 8) aNil))) (aCons (mVar 7) aNil)))) aNil)))))
    ((sm.map wD).map .d) (fun i ρ S' => (∃ a b c d e f, ρ = [some (.d (stD ks ws)), some (.d (.tuple (sm.map fun w => .str w.1))), some (.d (.list (sm.map wD))), some (.r S.length), a, b, c, d, e, f]) ∧ S' = X i)
    ⟨⟨_, _, _, _, _, _, rfl⟩, rfl⟩ (fun i x ρ S' hx ⟨⟨a, b, c, d, e, f, e5⟩, e6⟩ => by
      subst e5 e6
      rw [List.map_map, List.getElem?_map, Option.map_eq_some_iff] at hx
      obtain ⟨w, hw, rfl⟩ := hx
      have hm := List.mem_of_getElem? hw
      have hi := (List.getElem?_eq_some_iff.mp hw).1
      obtain ⟨o1, o2, o3, o4, o5⟩ := V.wo w (A.mem w hm)
      obtain ⟨p, p1, p2, p3, p4⟩ := v_row_kind (S := X i) (ws := ws) o2
      have fit : ¬ w.2.2.2 < sizeOf' ks w.2.1 := by have := A.fit w hm; omega
      have hX : (X i)[S.length]? = some (.lst (((sm.take i).map fun w => jD (jobOf ks w)).map .d)) := by simp [X]
      have nx : X (i + 1) = (X i).set S.length (.lst ((((sm.take i).map fun w => jD (jobOf ks w)).map .d) ++ [.d (jD (jobOf ks w))])) := by
        simp only [X, set0]
        rw [List.take_add_one, hw]
        simp
      have lenX : ((((sm.take i).map fun w => jD (jobOf ks w)).map Vl.d)).length < 1000000 := by simp; omega
      simp [wD, p4, kD, fit, rty_lst hX, appV_at hX lenX, jD, jobOf, p2, nx, -List.map_take, -List.map_map])
  subst e3
  have hX : S' = S ++ [.lst ((sm.map fun w => jD (jobOf ks w)).map .d)] := by rw [e4]; simp only [X, List.length_map, List.take_length]
  rw [hX] at h1
  have g12 : ¬ (12 : Int) < sm.length := by omega
  have fz := frz_at (S := S ++ [.lst ((sm.map fun w => jD (jobOf ks w)).map .d)]) (l := S.length) (ds := sm.map fun w => jD (jobOf ks w)) (by simp)
  simp only [v_need_works, m_need_works, spM_eq]
  simp [v_need_stock_ok V, c_MOST_WORKS, g12, e1, h1, fz, cutS_d hS, -List.map_map]
  rw [List.map_map]
  rfl
end K36

namespace EV
open PySem PySem.Spec PyProof.Rows L2
theorem pinsOk_of (x : Vl) (S : Sto) : pinsOk (pinV x S) S := pinV_ok x S
end EV
namespace K36
open PySem PySem.Spec PyProof.Rows L2 EV
variable {S : Sto}
def apart (a b : Jb) : Bool := !(a.1 == b.1) || decide (a.2.2 < b.2.1)
theorem v_are_apart_ok {a b : Jb} : v_are_apart [.d (jD a), .d (jD b)] S = .ok (.d (.bool (apart a b))) S := by
  simp only [v_are_apart, m_are_apart, spM_eq]
  by_cases h : a.1 = b.1 <;> simp [jD, apart, h]
def someOf (prev : List (Jb × Int)) (r : Jb) : List (Jb × Int) := prev.filter fun p => (p.1.1 == r.1) && apart p.1 r
def topOf (ns : List Int) : Int := if ns = [] then -1 else listMax 0 ns
def lvl (prev : List (Jb × Int)) (r : Jb) : Int := 1 + topOf ((someOf prev r).map (·.2))
def lvL (rows : List Jb) : List (Jb × Int) := rows.foldl (fun acc r => acc ++ [(r, lvl acc r)]) []
theorem lvL_snoc (rows : List Jb) (r : Jb) : lvL (rows ++ [r]) = lvL rows ++ [(r, lvl (lvL rows) r)] := by
  unfold lvL
  rw [List.foldl_append]
  rfl
theorem lvL_len (rows : List Jb) : (lvL rows).length = rows.length := by
  have : ∀ (rows : List Jb) (acc : List (Jb × Int)), (rows.foldl (fun acc r => acc ++ [(r, lvl acc r)]) acc).length = acc.length + rows.length := by
    intro rows
    induction rows with
    | nil => intro acc; simp
    | cons r rows ih => intro acc; rw [List.foldl_cons, ih]; simp; omega
  have := this rows []
  simpa [lvL] using this
theorem lvL_fst (rows : List Jb) : (lvL rows).map (·.1) = rows := by
  have : ∀ (rows : List Jb) (acc : List (Jb × Int)), (rows.foldl (fun acc r => acc ++ [(r, lvl acc r)]) acc).map (·.1) = acc.map (·.1) ++ rows := by
    intro rows
    induction rows with
    | nil => intro acc; simp
    | cons r rows ih => intro acc; rw [List.foldl_cons, ih]; simp
  have := this rows []
  simpa [lvL] using this
theorem take_snoc {α : Type} {L : List α} {i : Nat} {a : α} (h : L[i]? = some a) : L.take (i + 1) = L.take i ++ [a] := by
  rw [List.take_add_one, h]
  rfl
theorem zip_lv (rows : List Jb) (i : Nat) : zipL ((rows.map jD).map .d) ((lvL (rows.take i)).map fun p => .d (.int p.2)) = (lvL (rows.take i)).map fun p => .d (.tuple [jD p.1, .int p.2]) := by
  have key : ∀ (ps : List (Jb × Int)) (rest : List Jb), zipL (((ps.map (·.1) ++ rest).map jD).map .d) (ps.map fun p => .d (.int p.2)) = ps.map fun p => .d (.tuple [jD p.1, .int p.2]) := by
    intro ps
    induction ps with
    | nil => intro rest; simp [zipL]
    | cons p ps ih =>
      intro rest
      have := ih rest
      simp only [zipL, List.map_cons, List.cons_append, List.zip_cons_cons] at this ⊢
      rw [this]
      simp [mkTupU, isRefD, jD]
  have e : rows = (lvL (rows.take i)).map (·.1) ++ rows.drop i := by rw [lvL_fst, List.take_append_drop]
  have := key (lvL (rows.take i)) (rows.drop i)
  rw [← e] at this
  exact this
theorem v_levels_of_ok {rows : List Jb} (hl : rows.length ≤ 1000) (hS : Clo S) : v_levels_of [.d (.list (rows.map jD))] S = .ok (.d (.list ((lvL rows).map fun p => .int p.2))) S := by
  let R : Vl := .d (.list (rows.map jD))
  let X : Nat → Sto := fun i => S ++ [.lst ((lvL (rows.take i)).map fun p => .d (.int p.2))]
  obtain ⟨ρ', S', h1, ⟨a, b, c, d, e1⟩, e2⟩ := forL_st (ρ := [some R, some (.r S.length), none, none, none, none]) (S := S ++ [.lst []]) (g := gNm 2)
    (body := sSeq (sSet 3 (mLc (gUn 2 (gsCons (gNm 4) (gsCons (gNm 5) gsNil))) (iZipM (aCons (mVar 0) (aCons (mVar 1) aNil))) (mAnd (mBin (eqVS false) (mBin ixVS (mVar 4) (mC (.int 0))) (mBin ixVS (mVar 2) (mC (.int 0)))) (mTru (mCall 2 v_are_apart (aCons (mVar 4) (aCons (mVar 2) aNil))))) (mVar 5) [4, 5]))
      (sExpr (mMeth "list" appV (mVar 1) (aCons (mBin addV (mC (.int 1)) (mBltK maxDV (aCons (mVar 3) aNil) (aCons (mUn negV (mC (.int 1))) aNil))) aNil))))
    ((rows.map jD).map .d) (fun i ρ S' => (∃ a b c d, ρ = [some R, some (.r S.length), a, b, c, d]) ∧ S' = X i) ⟨⟨_, _, _, _, rfl⟩, rfl⟩ (fun i x ρ S' hx ⟨⟨a, b, c, d, e1⟩, e2⟩ => by
      subst e1 e2
      rw [List.map_map, List.getElem?_map, Option.map_eq_some_iff] at hx
      obtain ⟨r, hr, rfl⟩ := hx
      have hi := (List.getElem?_eq_some_iff.mp hr).1
      have len : (lvL (rows.take i)).length = i := by rw [lvL_len, List.length_take]; omega
      have hX : (X i)[S.length]? = some (.lst ((lvL (rows.take i)).map fun p => .d (.int p.2))) := by simp [X]
      have nx : X (i + 1) = (X i).set S.length (.lst (((lvL (rows.take i)).map fun p => .d (.int p.2)) ++ [.d (.int (lvl (lvL (rows.take i)) r))])) := by
        simp only [X, set0]
        rw [take_snoc hr, lvL_snoc]
        simp
      have lenX : ((lvL (rows.take i)).map fun p => Vl.d (.int p.2)).length < 1000000 := by rw [List.length_map, len]; omega
      have comp : mLc (gUn 2 (gsCons (gNm 4) (gsCons (gNm 5) gsNil))) (iZipM (aCons (mVar 0) (aCons (mVar 1) aNil))) (mAnd (mBin (eqVS false) (mBin ixVS (mVar 4) (mC (.int 0))) (mBin ixVS (mVar 2) (mC (.int 0)))) (mTru (mCall 2 v_are_apart (aCons (mVar 4) (aCons (mVar 2) aNil))))) (mVar 5) [4, 5]
          [some R, some (.r S.length), some (.d (jD r)), b, c, d] (X i) = .ok (.d (.list ((someOf (lvL (rows.take i)) r).map fun p => .int p.2))) (X i) := by
        refine mLc_pure (lvL (rows.take i)) (fun p => .d (.tuple [jD p.1, .int p.2])) (fun p => (p.1.1 == r.1) && apart p.1 r) (fun p => .int p.2) (pins := pinV (.r S.length) (X i)) ?_ (pinsOk_of _ _) (by rw [len]; omega) fun p hp => ?_
        · rw [iZip_d (x := R) (y := .r S.length) (b := true) (xs := (rows.map jD).map .d) (ys := (lvL (rows.take i)).map fun p => .d (.int p.2)) (by simp) rfl (by simp [seqV, hX]), zip_lv]
          rfl
        · refine ⟨_, rfl, ?_, fun _ => by simp⟩
          have q : v_are_apart [.d (jD p.1), .d (jD r)] (X i) = _ := v_are_apart_ok
          simp only [jD] at q
          by_cases h : p.1.1 = r.1
          · rw [h] at q; simp [jD, h, q]
          · simp [jD, h]
      have mx : maxDV [.d (.list ((someOf (lvL (rows.take i)) r).map fun p => .int p.2))] [.d (.int (-1))] (X i) = .ok (.d (.int (topOf ((someOf (lvL (rows.take i)) r).map (·.2))))) (X i) := by
        unfold topOf
        by_cases h : someOf (lvL (rows.take i)) r = []
        · rw [h]; rfl
        · rw [maxDV_ints _ _ h, if_neg (by simpa using h)]
      simp [comp, mx, rty_lst hX, appV_at hX lenX, nx, lvl])
  subst e1
  have hX : S' = S ++ [.lst (((lvL rows).map fun p => PyData.int p.2).map .d)] := by rw [e2]; simp [X]
  rw [hX] at h1
  have fz := frz_at (S := S ++ [.lst (((lvL rows).map fun p => PyData.int p.2).map .d)]) (l := S.length) (ds := (lvL rows).map fun p => .int p.2) (by simp)
  simp only [v_levels_of, m_levels_of, spM_eq]
  simp only [sSeq_eq, sSet_eq, mLstM_eq, aNil_eq, RA.bind_ok, List.length_nil, Nat.zero_le, if_true, RE.toS_ok, seq_nx, envAt_eq, List.map_cons, List.map_nil, List.length_cons, List.replicate]
  simp [h1, fz, cutS_d hS, R, -List.map_map] at h1 ⊢
end K36

namespace EV
open PySem PySem.Spec PyProof.Rows L2
/-! dicts of whole numbers -/
section
variable {κ : Type} [DecidableEq κ]
def putT (kvs : List (κ × Int)) (k : κ) (v : Int) : List (κ × Int) := if (kvs.any fun kv => decide (kv.1 = k)) = true then kvs.map (fun kv => if kv.1 = k then (kv.1, v) else kv) else kvs ++ [(k, v)]
def lookT (kvs : List (κ × Int)) (k : κ) : Option Int := (kvs.find? fun kv => decide (kv.1 = k)).map (·.2)
def embT (kvs : List (κ × Int)) : List (κ × Vl) := kvs.map fun p => (p.1, Vl.d (.int p.2))
theorem any_emb (k : κ) : ∀ kvs : List (κ × Int), ((embT kvs).any fun kv => decide (kv.1 = k)) = kvs.any fun kv => decide (kv.1 = k)
  | [] => rfl
  | a :: r => by
    have := any_emb k r
    unfold embT at this ⊢
    rw [List.map_cons, List.any_cons, List.any_cons, this]
theorem put_emb (kvs : List (κ × Int)) (k : κ) (v : Int) : putC (embT kvs) k (.d (.int v)) = embT (putT kvs k v) := by
  unfold putC putT
  rw [any_emb]
  split
  · unfold embT
    rw [List.map_map, List.map_map]
    refine List.map_congr_left fun a _ => ?_
    by_cases h : a.1 = k <;> simp [h]
  · simp [embT]
theorem look_emb (k : κ) : ∀ kvs : List (κ × Int), lookC (embT kvs) k = (lookT kvs k).map fun v => .d (.int v)
  | [] => rfl
  | a :: r => by
    have := look_emb k r
    unfold lookC lookT embT at this ⊢
    rw [List.map_cons, List.find?_cons, List.find?_cons]
    by_cases h : a.1 = k
    · simp [h]
    · simp only [h, decide_false]
      exact this
theorem lookT_put (kvs : List (κ × Int)) (k : κ) (v : Int) : lookT (putT kvs k v) k = some v := by
  have h := look_put k (.d (.int v)) (embT kvs)
  rw [put_emb, look_emb] at h
  cases e : lookT (putT kvs k v) k with
  | none => rw [e] at h; cases h
  | some w => rw [e] at h; cases h; rfl
theorem putT_len (kvs : List (κ × Int)) (k : κ) (v : Int) : (putT kvs k v).length ≤ kvs.length + 1 := by
  unfold putT
  split <;> simp
end
theorem unKeys2 {z : Str} {n : Int} : unKeys [.str z, .int n] = some [.inr z, .inl n] := rfl
end EV
namespace K36
open PySem PySem.Spec PyProof.Rows L2 EV
variable {S : Sto}
def kJ (z : Str) (n : Int) : List Key := [.inr z, .inl n]
def mn (i j : Int) : Int := if j < i then j else i
abbrev St := List (List Key × Int) × List PyData
def stepT (st : St) (p : Jb × Int) : St :=
  (putT st.1 (kJ p.1.1 p.2) (mn p.1.2.2 ((lookT st.1 (kJ p.1.1 p.2)).getD p.1.2.2)), st.2 ++ [.tuple [.str p.1.1, .int p.2, .int (mn p.1.2.2 ((lookT st.1 (kJ p.1.1 p.2)).getD p.1.2.2))]])
def tl (ps : List (Jb × Int)) : St := ps.foldl stepT ([], [])
theorem tl_snoc (ps : List (Jb × Int)) (p : Jb × Int) : tl (ps ++ [p]) = stepT (tl ps) p := by unfold tl; rw [List.foldl_append]; rfl
theorem fold_len : ∀ (ps : List (Jb × Int)) (st : St), (ps.foldl stepT st).1.length ≤ st.1.length + ps.length ∧ (ps.foldl stepT st).2.length = st.2.length + ps.length
  | [], st => ⟨by simp, by simp⟩
  | p :: ps, st => by
    obtain ⟨h1, h2⟩ := fold_len ps (stepT st p)
    rw [List.foldl_cons]
    have h3 : (stepT st p).1.length ≤ st.1.length + 1 := putT_len _ _ _
    have h4 : (stepT st p).2.length = st.2.length + 1 := by simp [stepT]
    constructor
    · simp only [List.length_cons]; omega
    · simp only [List.length_cons]; omega
theorem v_tools_of_ok {rows : List Jb} (hl : rows.length ≤ 1000) (hS : Clo S) : v_tools_of [.d (.list (rows.map jD))] S = .ok (.d (.tuple (tl (lvL rows)).2)) S := by
  let R : Vl := .d (.list (rows.map jD))
  let ps := lvL rows
  have lps : ps.length = rows.length := lvL_len rows
  let X : Nat → Sto := fun i => S ++ [.lst ((tl (ps.take i)).2.map .d), .dt (embT (tl (ps.take i)).1)]
  obtain ⟨ρ', S', h1, ⟨a, b, c, e1⟩, e2⟩ := forL_st (ρ := [some R, some (.r S.length), some (.r (S.length + 1)), none, none, none]) (S := S ++ [.lst [], .dt []]) (g := gUn 2 (gsCons (gNm 3) (gsCons (gNm 4) gsNil)))
    (body := sSeq (sSet 5 (mTup (aCons (mBin ixVS (mVar 3) (mC (.int 0))) (aCons (mVar 4) aNil))))
      (sSeq (sPut (mVar 2) (mVar 5) (mBlt (two min2V) (aCons (mBin ixVS (mVar 3) (mC (.int 2))) (aCons (mGet2 (mVar 2) (mVar 5) (mBin ixVS (mVar 3) (mC (.int 2)))) aNil))))
      (sExpr (mMeth "list" appV (mVar 1) (aCons (mBin addV (mVar 5) (mTup (aCons (mBin ixVS (mVar 2) (mVar 5)) aNil))) aNil)))))
    (ps.map fun p => .d (.tuple [jD p.1, .int p.2])) (fun i ρ S' => (∃ a b c, ρ = [some R, some (.r S.length), some (.r (S.length + 1)), a, b, c]) ∧ S' = X i) ⟨⟨_, _, _, rfl⟩, rfl⟩ (fun i x ρ S' hx ⟨⟨a, b, c, e1⟩, e2⟩ => by
      subst e1 e2
      rw [List.getElem?_map, Option.map_eq_some_iff] at hx
      obtain ⟨p, hp, rfl⟩ := hx
      have hi := (List.getElem?_eq_some_iff.mp hp).1
      obtain ⟨f1, f2⟩ := fold_len (ps.take i) ([], [])
      have f1 : (tl (ps.take i)).1.length ≤ i := by have : (tl (ps.take i)).1.length ≤ 0 + (ps.take i).length := f1; rw [List.length_take] at this; omega
      have f2 : (tl (ps.take i)).2.length ≤ i := by have : (tl (ps.take i)).2.length = 0 + (ps.take i).length := f2; rw [List.length_take] at this; omega
      have h0 : (X i)[S.length]? = some (.lst ((tl (ps.take i)).2.map .d)) := by simp [X]
      have h1 : (X i)[S.length + 1]? = some (.dt (embT (tl (ps.take i)).1)) := by simp [X]
      have nx : X (i + 1) = S ++ [.lst ((stepT (tl (ps.take i)) p).2.map .d), .dt (embT (stepT (tl (ps.take i)) p).1)] := by
        simp only [X]
        rw [take_snoc hp, tl_snoc]
      generalize hk : (tl (ps.take i)).1 = kv at *
      generalize ho : (tl (ps.take i)).2 = out at *
      have hst : tl (ps.take i) = (kv, out) := by rw [← hk, ← ho]
      rw [hst] at nx
      obtain ⟨⟨z, lo, hi'⟩, n⟩ := p
      let v := mn hi' ((lookT kv (kJ z n)).getD hi')
      have uk : unKeys [.str z, .int n] = some (kJ z n) := unKeys2
      have g1 : dictAt (.r (S.length + 1)) (.d (.tuple [.str z, .int n])) (X i) = some ((lookT kv (kJ z n)).map fun v => .d (.int v)) := by rw [dictAt_dt h1 uk, look_emb]
      have g2 : ((lookT kv (kJ z n)).map fun v => Vl.d (.int v)).getD (.d (.int hi')) = .d (.int ((lookT kv (kJ z n)).getD hi')) := by cases lookT kv (kJ z n) <;> rfl
      let Y : Sto := S ++ [.lst (out.map .d), .dt (embT (putT kv (kJ z n) v))]
      have g3 : setV (.r (S.length + 1)) (.d (.tuple [.str z, .int n])) (.d (.int v)) (X i) = some Y := by
        rw [setV_dt h1 uk (by simp [embT]; omega), put_emb]
        have hX : X i = S ++ [.lst (out.map .d), .dt (embT kv)] := by simp only [X]; rw [hst]
        rw [hX, set1]
      have y0 : Y[S.length]? = some (.lst (out.map .d)) := by simp [Y]
      have y1 : Y[S.length + 1]? = some (.dt (embT (putT kv (kJ z n) v))) := by simp [Y]
      have g4 : ixVS (.r (S.length + 1)) (.d (.tuple [.str z, .int n])) Y = .ok (.d (.int v)) Y := ixVS_dt y1 uk (by rw [look_emb, lookT_put]; rfl)
      have g5 : appV (.r S.length) [.d (.tuple [.str z, .int n, .int v])] Y = .ok (.d .none) (X (i + 1)) := by
        rw [appV_at y0 (by simp; omega), nx]
        simp [Y, stepT, v]
      have l3 : (3 : Nat) ≤ sizeLine := by rw [sizeLine_eq]; omega
      have v' : mn hi' ((lookT kv (kJ z n)).getD hi') = v := rfl
      have g6 : min2V (.d (.int hi')) (.d (.int ((lookT kv (kJ z n)).getD hi'))) (X i) = .ok (.d (.int v)) (X i) := rfl
      simp [jD, isDV_dt h1, g1, g2, g3, g4, g5, g6, rty_lst y0, l3])
  subst e1
  have hX : S' = S ++ [.lst ((tl ps).2.map .d), .dt (embT (tl ps).1)] := by rw [e2]; simp [X]
  rw [hX] at h1
  have it : iZipM (aCons (mVar 0) (aCons (mCall 1 v_levels_of (aCons (mVar 0) aNil)) aNil)) [some R, some (.r S.length), some (.r (S.length + 1)), none, none, none] (S ++ [.lst [], .dt []]) = .ok (ps.map fun p => .d (.tuple [jD p.1, .int p.2])) [] (S ++ [.lst [], .dt []]) := by
    have hS' : Clo (S ++ [.lst [], .dt []]) := clo_app hS rfl
    have q : v_levels_of [R] (S ++ [.lst [], .dt []]) = _ := v_levels_of_ok hl hS'
    have zl := zip_lv rows rows.length
    rw [List.take_length] at zl
    rw [iZip_d (x := R) (y := .d (.list (ps.map fun p => .int p.2))) (b := true) (xs := (rows.map jD).map .d) (ys := ps.map fun p => .d (.int p.2)) (by simp [q, ps]) rfl (by simp), zl]
    rfl
  have tp := tuple_at (S := S ++ [.lst ((tl ps).2.map .d), .dt (embT (tl ps).1)]) (l := S.length) (ds := (tl ps).2) (by simp)
  simp only [v_tools_of, m_tools_of, spM_eq]
  simp [-sFor_eq]
  rw [sFor_eq, it]
  simp only [ps, R] at h1 tp ⊢
  simp [h1, tp, cutS_d hS]
theorem v_plan_for_ok {ks : List Kd} {ws sm : List Wk} (V : Valid ks ws) (A : Asked ks ws sm) (hS : Clo S) :
    v_plan_for [.d (stD ks ws), .d (.tuple (sm.map fun w => .str w.1))] S = .ok (.d (.tuple (tl (lvL (sm.map (jobOf ks)))).2)) S := by
  have := A.len
  have q := v_tools_of_ok (rows := sm.map (jobOf ks)) (S := S) (by rw [List.length_map]; omega) hS
  simp only [v_plan_for, m_plan_for, spM_eq]
  simp [v_need_works_ok V A hS, q, -List.map_map]
end K36

namespace EV
open PySem PySem.Spec PyProof.Rows L2
/-! dict(pairs) of pairs with differing keys -/
theorem putC_new {κ : Type} [DecidableEq κ] {kvs : List (κ × Vl)} {k : κ} {v : Vl} (h : k ∉ kvs.map (·.1)) : putC kvs k v = kvs ++ [(k, v)] := by
  unfold putC
  rw [if_neg]
  intro e
  obtain ⟨a, ha, e2⟩ := List.any_eq_true.mp e
  exact h (List.mem_map.mpr ⟨a, ha, of_decide_eq_true e2⟩)
theorem mergeC_new : ∀ (more acc : List (Key × Vl)), ((acc ++ more).map (·.1)).Nodup → mergeC acc more = acc ++ more
  | [], acc, _ => by simp [mergeC]
  | p :: more, acc, h => by
    have hn : p.1 ∉ acc.map (·.1) := by
      rw [List.map_append, List.nodup_append] at h
      exact fun hm => h.2.2 _ hm p.1 (by simp) rfl
    have ih := mergeC_new more (acc ++ [p]) (by rw [List.append_assoc]; exact h)
    show mergeC (putC acc p.1 p.2) more = _
    rw [putC_new hn, ih, List.append_assoc]
    rfl
theorem pairsV_map {α : Type} (L : List α) (k : α → Str) (v : α → PyData) : pairsV ((L.map fun a => PyData.tuple [.str (k a), v a]).map .d) = some (L.map fun a => (.inr (k a), .d (v a))) := by
  induction L with
  | nil => rfl
  | cons a L ih =>
    rw [List.map_cons, List.map_cons]
    unfold pairsV
    rw [ih]
    rfl
theorem look_map {α : Type} (L : List α) (k : α → Str) (v : α → PyData) (z : Str) : lookC (L.map fun a => ((Sum.inr (k a) : Key), Vl.d (v a))) (.inr z) = (L.find? fun a => k a == z).map fun a => .d (v a) := by
  induction L with
  | nil => rfl
  | cons a L ih =>
    unfold lookC at ih ⊢
    rw [List.map_cons, List.find?_cons, List.find?_cons]
    by_cases h : k a = z
    · simp [h]
    · have h' : ¬ (Sum.inr (k a) : Key) = Sum.inr z := fun e => h (Sum.inr.inj e)
      have h2 : (k a == z) = false := by simpa using h
      simp only [h', decide_false, h2]
      exact ih
theorem dictV_tup {S : Sto} {α : Type} {L : List α} (k : α → Str) (v : α → PyData) (hn : (L.map k).Nodup) : dictV (.d (.tuple (L.map fun a => .tuple [.str (k a), v a]))) S = .ok (.r S.length) (S ++ [.dk (L.map fun a => (.inr (k a), .d (v a)))]) := by
  unfold dictV
  simp only [pairsV_map]
  rw [mergeC_new _ [] (by
    rw [List.nil_append, List.map_map]
    have : (L.map ((fun p : Key × Vl => p.1) ∘ fun a => (Sum.inr (k a), Vl.d (v a)))) = (L.map k).map Sum.inr := by rw [List.map_map]; rfl
    rw [this]
    exact List.Pairwise.map Sum.inr (fun a b h e => h (Sum.inr.inj e)) hn)]
  rfl
theorem dictV_lst {S : Sto} {α : Type} {L : List α} (k : α → Str) (v : α → PyData) (hn : (L.map k).Nodup) : dictV (.d (.list (L.map fun a => .tuple [.str (k a), v a]))) S = .ok (.r S.length) (S ++ [.dk (L.map fun a => (.inr (k a), .d (v a)))]) := by
  unfold dictV
  simp only [seqV_lst, pairsV_map]
  rw [mergeC_new _ [] (by
    rw [List.nil_append, List.map_map]
    have : (L.map ((fun p : Key × Vl => p.1) ∘ fun a => (Sum.inr (k a), Vl.d (v a)))) = (L.map k).map Sum.inr := by rw [List.map_map]; rfl
    rw [this]
    exact List.Pairwise.map Sum.inr (fun a b h e => h (Sum.inr.inj e)) hn)]
  rfl
@[simp] theorem sAsg_eq {ρ : Nv} {S : Sto} {g : MG} {m : ME} : sAsg g m ρ S = (m ρ S).toS ρ fun x S1 => match g x ρ S1 with
  | some ρ1 => .nx ρ1 S1
  | none => .bad := rfl
end EV
namespace K36
open PySem PySem.Spec PyProof.Rows L2 EV
variable {S : Sto}
def jz : Jb := (Str.ofString "", 0, 0)
def at' (rows : List Jb) (n : Nat) : Jb := rows.getD n jz
def rnP (rows : List Jb) : Nat → List (List Nat)
  | 0 => [[]]
  | n + 1 => rnP rows n ++ ((rnP rows n).filter fun run => run.all fun one => apart (at' rows one) (at' rows n)).map (· ++ [n])
theorem rn_lt {rows : List Jb} : ∀ {n : Nat} {run : List Nat}, run ∈ rnP rows n → ∀ a ∈ run, a < n
  | 0, run, h, a, ha => by
    have h : run = [] := by simpa [rnP] using h
    rw [h] at ha
    cases ha
  | n + 1, run, h, a, ha => by
    unfold rnP at h
    rcases List.mem_append.mp h with h | h
    · exact Nat.lt_succ_of_lt (rn_lt h a ha)
    · obtain ⟨r, hr, rfl⟩ := List.mem_map.mp h
      have hr := (List.mem_filter.mp hr).1
      rcases List.mem_append.mp ha with ha | ha
      · exact Nat.lt_succ_of_lt (rn_lt hr a ha)
      · have : a = n := by simpa using ha
        omega
theorem rn_len {rows : List Jb} : ∀ {n : Nat} {run : List Nat}, run ∈ rnP rows n → run.length ≤ n
  | 0, run, h => by
    have h : run = [] := by simpa [rnP] using h
    rw [h]; simp
  | n + 1, run, h => by
    unfold rnP at h
    rcases List.mem_append.mp h with h | h
    · exact Nat.le_succ_of_le (rn_len h)
    · obtain ⟨r, hr, rfl⟩ := List.mem_map.mp h
      have := rn_len (List.mem_filter.mp hr).1
      simp; omega
theorem rn_many {rows : List Jb} : ∀ n : Nat, (rnP rows n).length ≤ 2 ^ n
  | 0 => by simp [rnP]
  | n + 1 => by
    have := rn_many (rows := rows) n
    unfold rnP
    rw [List.length_append, List.length_map, Nat.pow_succ]
    have := List.length_filter_le (fun run => run.all fun one => apart (at' rows one) (at' rows n)) (rnP rows n)
    omega
def runD (run : List Nat) : PyData := .tuple (run.map fun (n : Nat) => .int n)
theorem at_get {rows : List Jb} {n : Nat} {r : Jb} (h : rows[n]? = some r) : at' rows n = r := by unfold at'; rw [List.getD_eq_getElem?_getD, h]; rfl
theorem get_at {rows : List Jb} {n : Nat} (h : n < rows.length) : rows[n]? = some (at' rows n) := by rw [List.getElem?_eq_getElem h, at_get (List.getElem?_eq_getElem h)]
end K36

namespace K36
open PySem PySem.Spec PyProof.Rows L2 EV
variable {S : Sto}
/-! ### the longest runs are the levels -/
/-- all of one kind, each with a low side and a high side -/
structure Same (rows : List Jb) (z : Str) : Prop where
  kind : ∀ r ∈ rows, r.1 = z
  lohi : ∀ r ∈ rows, r.2.1 ≤ r.2.2
def lv (rows : List Jb) (n : Nat) : Int := ((lvL rows).getD n (jz, 0)).2
theorem lvL_take : ∀ (rows : List Jb) (n : Nat), (lvL rows).take n = lvL (rows.take n) := by
  intro rows n
  have key : ∀ (b a : List Jb), (lvL (a ++ b)).take a.length = lvL a := by
    intro b
    induction b with
    | nil => intro a; rw [List.append_nil, List.take_of_length_le (by rw [lvL_len]; exact Nat.le_refl _)]
    | cons x b ih =>
      intro a
      have h := ih (a ++ [x])
      rw [List.append_assoc] at h
      have h' : (lvL (a ++ x :: b)).take (a ++ [x]).length = lvL a ++ [(x, lvl (lvL a) x)] := by rw [← lvL_snoc]; exact h
      have := congrArg (List.take a.length) h'
      rw [List.take_take] at this
      rw [show min a.length (a ++ [x]).length = a.length by simp] at this
      rw [this, List.take_left' (lvL_len a)]
  by_cases h : n ≤ rows.length
  · have := key (rows.drop n) (rows.take n)
    rw [List.take_append_drop, List.length_take, Nat.min_eq_left h] at this
    exact this
  · rw [List.take_of_length_le (by rw [lvL_len]; omega), List.take_of_length_le (by omega)]
theorem lvL_at {rows : List Jb} {n : Nat} {r : Jb} (h : rows[n]? = some r) : (lvL rows)[n]? = some (r, lvl (lvL (rows.take n)) r) := by
  have h1 := lvL_take rows (n + 1)
  rw [take_snoc h, lvL_snoc] at h1
  have h2 := congrArg (fun l => l[n]?) h1
  simp only [List.getElem?_take_of_lt (Nat.lt_succ_self n)] at h2
  rw [h2]
  have hl : (lvL (rows.take n)).length = n := by
    rw [lvL_len, List.length_take]
    have := (List.getElem?_eq_some_iff.mp h).1
    omega
  rw [List.getElem?_append_right (by omega), hl]
  simp
theorem lv_at {rows : List Jb} {n : Nat} {r : Jb} (h : rows[n]? = some r) : lv rows n = lvl (lvL (rows.take n)) r := by
  unfold lv
  rw [List.getD_eq_getElem?_getD, lvL_at h]
  rfl
theorem listMax_ge (ns : List Int) {x : Int} (h : x ∈ ns) : x ≤ listMax 0 ns := by
  have := (foldl_max_ge ns (ns.headD 0)).2 x h
  exact this
theorem listMax_mem {ns : List Int} (h : ns ≠ []) : listMax 0 ns ∈ ns := by
  unfold listMax
  rcases foldl_max_mem ns (ns.headD 0) with e | e
  · rw [e]
    cases ns with
    | nil => exact absurd rfl h
    | cons a r => simp
  · exact e
theorem topOf_ge {ns : List Int} {x : Int} (h : x ∈ ns) : x ≤ topOf ns := by
  unfold topOf
  rw [if_neg (fun e => by rw [e] at h; cases h)]
  exact listMax_ge ns h
/-- the level of row n, from those ahead that it is apart from -/
theorem lv_ge {rows : List Jb} {z : Str} (Sm : Same rows z) {n j : Nat} {r : Jb} (hn : rows[n]? = some r) (hj : j < n) (ha : apart (at' rows j) r = true) : lv rows j + 1 ≤ lv rows n := by
  rw [lv_at hn]
  have hlt := (List.getElem?_eq_some_iff.mp hn).1
  obtain ⟨rj, e⟩ : ∃ rj, rows[j]? = some rj := ⟨rows[j], List.getElem?_eq_getElem (by omega)⟩
  rw [at_get e] at ha
  have e2 : (rows.take n)[j]? = some rj := by rw [List.getElem?_take_of_lt hj]; exact e
  have m1 := List.mem_of_getElem? (lvL_at e2)
  have e3 : lv rows j = lvl (lvL ((rows.take n).take j)) rj := by rw [lv_at e, List.take_take, Nat.min_eq_left (by omega)]
  have hk : (rj.1 == r.1) = true := by rw [Sm.kind rj (List.mem_of_getElem? e), Sm.kind r (List.mem_of_getElem? hn)]; simp
  have m2 : (rj, lvl (lvL ((rows.take n).take j)) rj) ∈ someOf (lvL (rows.take n)) r := List.mem_filter.mpr ⟨m1, by simp [hk, ha]⟩
  have m3 : lv rows j ∈ (someOf (lvL (rows.take n)) r).map (·.2) := by rw [e3]; exact List.mem_map.mpr ⟨_, m2, rfl⟩
  have := topOf_ge m3
  unfold lvl
  omega
/-- .. and it's just one more than one of them, or 0 -/
theorem lv_is {rows : List Jb} {n : Nat} {r : Jb} (hn : rows[n]? = some r) : lv rows n = 0 ∨ ∃ j, j < n ∧ apart (at' rows j) r = true ∧ lv rows n = lv rows j + 1 := by
  rw [lv_at hn]
  unfold lvl topOf
  by_cases h : (someOf (lvL (rows.take n)) r).map (·.2) = []
  · rw [if_pos h]; left; rfl
  · rw [if_neg h]
    right
    obtain ⟨p, hp, e⟩ := List.mem_map.mp (listMax_mem h)
    obtain ⟨h1, h2⟩ := List.mem_filter.mp hp
    obtain ⟨j, hj, e2⟩ := List.mem_iff_getElem.mp h1
    rw [lvL_len, List.length_take] at hj
    have hjn : j < n := by omega
    have hr := get_at (rows := rows) (n := j) (by omega)
    have e3 : (rows.take n)[j]? = some (at' rows j) := by rw [List.getElem?_take_of_lt hjn]; exact hr
    have e4 := lvL_at e3
    have e5 : (lvL (rows.take n))[j]? = some p := by rw [List.getElem?_eq_getElem (by rw [lvL_len, List.length_take]; omega), e2]
    rw [e5] at e4
    cases e4
    refine ⟨j, hjn, (Bool.and_eq_true_iff.mp h2).2, ?_⟩
    rw [← e, lv_at hr, List.take_take, Nat.min_eq_left (by omega)]
    omega
theorem lv_nn {rows : List Jb} : ∀ (n : Nat), n < rows.length → 0 ≤ lv rows n := by
  intro n
  induction n using Nat.strongRecOn with
  | ind n ih =>
    intro h
    rcases lv_is (get_at h) with e | ⟨j, hj, _, e⟩
    · omega
    · have := ih j hj (by omega)
      omega
/-- no run is longer than its last one's level tells -/
theorem run_le {rows : List Jb} {z : Str} (Sm : Same rows z) : ∀ (n : Nat), n ≤ rows.length → ∀ run ∈ rnP rows n, run = [] ∨ ∃ r' j, run = r' ++ [j] ∧ j < n ∧ (run.length : Int) ≤ lv rows j + 1
  | 0, _, run, h => by
    have h : run = [] := by simpa [rnP] using h
    exact .inl h
  | n + 1, hn, run, h => by
    unfold rnP at h
    rcases List.mem_append.mp h with h | h
    · rcases run_le Sm n (by omega) run h with e | ⟨r', j, e1, e2, e3⟩
      · exact .inl e
      · exact .inr ⟨r', j, e1, by omega, e3⟩
    · obtain ⟨r', hr, rfl⟩ := List.mem_map.mp h
      obtain ⟨h1, h2⟩ := List.mem_filter.mp hr
      refine .inr ⟨r', n, rfl, Nat.lt_succ_self _, ?_⟩
      have hat := get_at (rows := rows) (n := n) (by omega)
      rcases run_le Sm n (by omega) r' h1 with e | ⟨r2, j, e1, e2, e3⟩
      · rw [e]
        have := lv_nn (rows := rows) n (by omega)
        simp
        omega
      · have ha : apart (at' rows j) (at' rows n) = true := List.all_eq_true.mp h2 j (by rw [e1]; simp)
        have := lv_ge Sm hat e2 ha
        rw [List.length_append]
        simp
        omega
/-- and one is as long -/
theorem run_ge {rows : List Jb} {z : Str} (Sm : Same rows z) : ∀ (n : Nat), n ≤ rows.length → ∀ j, j < n → ∃ r', (r' ++ [j]) ∈ rnP rows n ∧ ((r' ++ [j]).length : Int) = lv rows j + 1 ∧ ∀ a ∈ r' ++ [j], (at' rows a).2.2 ≤ (at' rows j).2.2
  | 0, _, j, hj => by omega
  | n + 1, hn, j, hj => by
    by_cases h : j < n
    · obtain ⟨r', h1, h2, h3⟩ := run_ge Sm n (by omega) j h
      refine ⟨r', ?_, h2, h3⟩
      unfold rnP
      exact List.mem_append_left _ h1
    · have e : j = n := by omega
      subst e
      have hat := get_at (rows := rows) (n := j) (by omega)
      have apart_of : ∀ a, a < j → (at' rows a).2.2 < (at' rows j).2.1 → apart (at' rows a) (at' rows j) = true := fun a _ h => by unfold apart; simp [h]
      rcases lv_is hat with e | ⟨i, hi, ha, e⟩
      · refine ⟨[], ?_, by rw [e]; rfl, fun a ha => ?_⟩
        · unfold rnP
          refine List.mem_append_right _ (List.mem_map.mpr ⟨[], List.mem_filter.mpr ⟨?_, rfl⟩, rfl⟩)
          have : ∀ m, ([] : List Nat) ∈ rnP rows m := fun m => by
            induction m with
            | zero => simp [rnP]
            | succ m ih => unfold rnP; exact List.mem_append_left _ ih
          exact this j
        · have : a = j := by simpa using ha
          rw [this]; exact Int.le_refl _
      · obtain ⟨r', h1, h2, h3⟩ := run_ge Sm j (by omega) i hi
        have hki : (at' rows i).1 = z := Sm.kind _ (List.mem_of_getElem? (get_at (rows := rows) (n := i) (by omega)))
        have hkj : (at' rows j).1 = z := Sm.kind _ (List.mem_of_getElem? hat)
        have lt : (at' rows i).2.2 < (at' rows j).2.1 := by
          unfold apart at ha
          rw [hki, hkj] at ha
          simpa using ha
        have lh := Sm.lohi _ (List.mem_of_getElem? hat)
        refine ⟨r' ++ [i], ?_, ?_, fun a ha => ?_⟩
        · unfold rnP
          refine List.mem_append_right _ (List.mem_map.mpr ⟨r' ++ [i], List.mem_filter.mpr ⟨h1, List.all_eq_true.mpr fun a ha => ?_⟩, rfl⟩)
          have := h3 a ha
          exact apart_of a (rn_lt h1 a ha) (by omega)
        · rw [List.length_append]
          simp only [List.length_cons, List.length_nil]
          omega
        · rcases List.mem_append.mp ha with ha | ha
          · have := h3 a ha; omega
          · have : a = j := by simpa using ha
            rw [this]; exact Int.le_refl _
/-- what the reference tells: the most of the runs that end with the last -/
theorem long_is {rows : List Jb} {z : Str} (Sm : Same rows z) {n : Nat} (hn : rows.length = n + 1) : listMax 0 (((rnP rows rows.length).filter fun run => decide (run.getLast? = some n)).map fun run => (run.length : Int)) = lv rows n + 1 ∧
    ((rnP rows rows.length).filter fun run => decide (run.getLast? = some n)) ≠ [] := by
  obtain ⟨r', h1, h2, _⟩ := run_ge Sm rows.length (Nat.le_refl _) n (by omega)
  have m : (r' ++ [n]) ∈ (rnP rows rows.length).filter fun run => decide (run.getLast? = some n) := List.mem_filter.mpr ⟨h1, by simp⟩
  have ne : ((rnP rows rows.length).filter fun run => decide (run.getLast? = some n)) ≠ [] := fun e => by rw [e] at m; cases m
  refine ⟨?_, ne⟩
  refine (listMax_is (d := 0) (m := lv rows n + 1) ?_ fun y hy => ?_).symm
  · exact List.mem_map.mpr ⟨_, m, h2⟩
  · obtain ⟨run, hr, rfl⟩ := List.mem_map.mp hy
    obtain ⟨a1, a2⟩ := List.mem_filter.mp hr
    have a2 : run.getLast? = some n := of_decide_eq_true a2
    rcases run_le Sm rows.length (Nat.le_refl _) run a1 with e | ⟨r2, j, e1, e2, e3⟩
    · rw [e] at a2; cases a2
    · rw [e1] at a2
      simp at a2
      rw [a2] at e3
      exact e3
end K36

namespace EV
open PySem PySem.Spec PyProof.Rows L2
theorem last_cut {α : Type} (xs : List α) : cutL xs (some (-1)) none = xs.getLast?.toList := by
  unfold cutL
  rw [HT.sIx_none]
  have e : HT.sIx xs.length 0 (some (-1)) = xs.length - 1 := by
    show (if (-1 : Int) < 0 then ((-1 : Int) + (xs.length : Int)).toNat else min (-1 : Int).toNat xs.length) = xs.length - 1
    rw [if_pos (by decide)]
    omega
  rw [e]
  cases xs with
  | nil => rfl
  | cons a r =>
    have h : (a :: r) ≠ [] := by simp
    rw [List.getLast?_eq_some_getLast h]
    have hd : (a :: r).drop ((a :: r).length - 1) = [(a :: r).getLast h] := by
      have e3 : (a :: r).dropLast.length = (a :: r).length - 1 := by rw [List.length_dropLast]
      have e4 : ((a :: r).dropLast ++ [(a :: r).getLast h]).drop (a :: r).dropLast.length = [(a :: r).getLast h] := List.drop_left' rfl
      rw [List.dropLast_concat_getLast h, e3] at e4
      exact e4
    rw [hd]
    have : (a :: r).length - ((a :: r).length - 1) = 1 := by simp
    rw [this]
    rfl
end EV
namespace K36
open PySem PySem.Spec PyProof.Rows L2 EV
variable {S : Sto}
def ofKind (z : Str) (A : List Jb) : List Jb := A.filter fun o => o.1 == z
theorem someOf_kind {prev : List (Jb × Int)} {r : Jb} : someOf (prev.filter fun p => p.1.1 == r.1) r = someOf prev r := by
  unfold someOf
  rw [List.filter_filter]
  refine List.filter_congr fun p _ => ?_
  cases (p.1.1 == r.1) <;> simp
theorem lvL_kind (z : Str) (rows : List Jb) : ∀ n : Nat, lvL (ofKind z (rows.take n)) = (lvL (rows.take n)).filter fun p => p.1.1 == z
  | 0 => rfl
  | n + 1 => by
    have ih := lvL_kind z rows n
    cases e : rows[n]? with
    | none =>
      have h : rows.length ≤ n := List.getElem?_eq_none_iff.mp e
      rw [List.take_of_length_le h] at ih
      rw [List.take_of_length_le (by omega)]
      exact ih
    | some r =>
      rw [take_snoc e, lvL_snoc, List.filter_append, ← ih]
      unfold ofKind at ih ⊢
      rw [List.filter_append]
      by_cases h : r.1 = z
      · have h' : (r.1 == z) = true := by simpa using h
        have e1 : List.filter (fun o : Jb => o.1 == z) [r] = [r] := by simp [h']
        have e2 : List.filter (fun p : Jb × Int => p.1.1 == z) [(r, lvl (lvL (rows.take n)) r)] = [(r, lvl (lvL (rows.take n)) r)] := by simp [h']
        rw [e1, e2, lvL_snoc]
        have : lvl (lvL (List.filter (fun o : Jb => o.1 == z) (rows.take n))) r = lvl (lvL (rows.take n)) r := by
          unfold lvl
          rw [ih]
          subst h
          rw [someOf_kind]
        rw [this]
      · have h' : (r.1 == z) = false := by simpa using h
        have e1 : List.filter (fun o : Jb => o.1 == z) [r] = [] := by simp [h']
        have e2 : List.filter (fun p : Jb × Int => p.1.1 == z) [(r, lvl (lvL (rows.take n)) r)] = [] := by simp [h']
        rw [e1, e2, List.append_nil, List.append_nil]
structure JOk (rows : List Jb) : Prop where
  lohi : ∀ r ∈ rows, r.2.1 ≤ r.2.2
  most : ∀ r ∈ rows, r.2.2 ≤ 99
theorem own_level {rows : List Jb} (J : JOk rows) {i : Nat} {r : Jb} (h : rows[i]? = some r) : ∃ n, (ofKind r.1 (rows.take (i + 1))).length = n + 1 ∧ lv (ofKind r.1 (rows.take (i + 1))) n = lvl (lvL (rows.take i)) r ∧ Same (ofKind r.1 (rows.take (i + 1))) r.1 := by
  have e : ofKind r.1 (rows.take (i + 1)) = ofKind r.1 (rows.take i) ++ [r] := by
    unfold ofKind
    rw [take_snoc h, List.filter_append]
    simp
  refine ⟨(ofKind r.1 (rows.take i)).length, by rw [e]; simp, ?_, fun o ho => ?_, fun o ho => ?_⟩
  · have h1 : (ofKind r.1 (rows.take (i + 1)))[(ofKind r.1 (rows.take i)).length]? = some r := by rw [e]; simp
    rw [lv_at h1, e, List.take_left' rfl, lvL_kind]
    unfold lvl
    rw [someOf_kind]
  · have := (List.mem_filter.mp ho).2
    simpa using this
  · exact J.lohi o (List.mem_of_mem_take (List.mem_filter.mp ho).1)
theorem eqv_last {run : List Nat} {n : Nat} : PyData.eqv (.tuple ((run.map fun (m : Nat) => PyData.int m).getLast?.toList)) (.tuple [.int n]) = decide (run.getLast? = some n) := by
  rw [List.getLast?_map]
  cases run.getLast? with
  | none => rfl
  | some m =>
    show ((m : Int) == (n : Int) && true) = _
    by_cases h : m = n
    · subst h; simp
    · have : ¬ (m : Int) = n := by omega
      simp [h, this]
theorem shaped_ints (ns : List Int) : SeqAt.shaped (.tuple (ns.map .int)) = true := shaped_tup PyData.int 0 (by decide) ns (fun _ _ => rfl) (fun _ => Nat.le_refl _)
end K36

namespace EV
open PySem PySem.Spec PyProof.Rows L2
theorem cutS_len {n : Nat} {x : Vl} {S : Sto} (h : S.length = n) : cutS n x S = S := by
  subst h
  exact cutS_same
/-- what a draw looks like -/
def drawL (c r a : Int) : List (Key × Vl) := [(.inr (Str.ofString "cell"), .d (.int c)), (.inr (Str.ofString "rest"), .d (.int r)), (.inr (Str.ofString "at"), .d (.int a))]
def drawC (c r a : Int) : Cell := .dk (drawL c r a)
def IsD (b : Nat) (x : Cell) : Prop := ∃ c r a : Int, x = drawC c r a ∧ 0 ≤ a ∧ a ≤ b
theorem IsD.up {b b' : Nat} {x : Cell} (h : IsD b x) (hb : b ≤ b') : IsD b' x := by
  obtain ⟨c, r, a, e, h1, h2⟩ := h
  exact ⟨c, r, a, e, h1, by omega⟩
theorem ne1 : ¬ Str.ofString "cell" = Str.ofString "rest" := by decide +kernel
theorem ne2 : ¬ Str.ofString "cell" = Str.ofString "at" := by decide +kernel
theorem ne3 : ¬ Str.ofString "rest" = Str.ofString "at" := by decide +kernel
theorem ne4 : ¬ Str.ofString "at" = Str.ofString "rest" := by decide +kernel
theorem ne5 : ¬ Str.ofString "rest" = Str.ofString "cell" := by decide +kernel
theorem ne6 : ¬ Str.ofString "at" = Str.ofString "cell" := by decide +kernel
section
variable {S : Sto} {l : Nat} {c r a : Int}
theorem look_cell : lookC (drawL c r a) (.inr (Str.ofString "cell")) = some (.d (.int c)) := by simp [lookC, drawL]
theorem look_rest : lookC (drawL c r a) (.inr (Str.ofString "rest")) = some (.d (.int r)) := by simp [lookC, drawL, ne1]
theorem look_at : lookC (drawL c r a) (.inr (Str.ofString "at")) = some (.d (.int a)) := by simp [lookC, drawL, ne2, ne3]
theorem put_rest {v : Int} : putC (drawL c r a) (.inr (Str.ofString "rest")) (.d (.int v)) = drawL c v a := by simp [putC, drawL, ne1, ne4]
theorem put_at {v : Int} : putC (drawL c r a) (.inr (Str.ofString "at")) (.d (.int v)) = drawL c r v := by simp [putC, drawL, ne2, ne3]
theorem ix_cell (h : S[l]? = some (drawC c r a)) : ixVS (.r l) (.d (.str (Str.ofString "cell"))) S = .ok (.d (.int c)) S := ixVS_dks h look_cell
theorem ix_rest (h : S[l]? = some (drawC c r a)) : ixVS (.r l) (.d (.str (Str.ofString "rest"))) S = .ok (.d (.int r)) S := ixVS_dks h look_rest
theorem ix_at (h : S[l]? = some (drawC c r a)) : ixVS (.r l) (.d (.str (Str.ofString "at"))) S = .ok (.d (.int a)) S := ixVS_dks h look_at
theorem set_rest {v : Int} (h : S[l]? = some (drawC c r a)) : setV (.r l) (.d (.str (Str.ofString "rest"))) (.d (.int v)) S = some (S.set l (drawC c v a)) := by
  rw [setV_dk (k := .inr (Str.ofString "rest")) h rfl (by simp [drawL]), put_rest]
  rfl
theorem set_at {v : Int} (h : S[l]? = some (drawC c r a)) : setV (.r l) (.d (.str (Str.ofString "at"))) (.d (.int v)) S = some (S.set l (drawC c r v)) := by
  rw [setV_dk (k := .inr (Str.ofString "at")) h rfl (by simp [drawL]), put_at]
  rfl
end
end EV
namespace K36
open PySem PySem.Spec PyProof.Rows L2 EV
variable {S : Sto}
theorem small_of {i : Int} (h1 : -(2 ^ 64) < i) (h2 : i < 2 ^ 64) : smallI i = true := decide_eq_true ⟨h1, h2⟩
theorem v__law_mixed_ok {c k : Int} (h0 : 0 ≤ k) (h1 : k < 2 ^ 60) : ∃ m : Int, 0 ≤ m ∧ m < 2147483629 ∧ v__law_mixed [.d (.int c), .d (.int k)] S = .ok (.d (.int m)) S := by
  let x : Int := (c % 2147483647 + 7919 * k * k + 3) * 48271 % 2147483647
  have hx0 : 0 ≤ x := Int.emod_nonneg _ (by decide)
  have hx1 : x < 2147483647 := Int.emod_lt_of_pos _ (by decide)
  refine ⟨x * x % 2147483629, Int.emod_nonneg _ (by decide), Int.emod_lt_of_pos _ (by decide), ?_⟩
  have s1 : smallI k = true := small_of (by omega) (by omega)
  have s2 : smallI 7919 = true := by decide
  have s3 : smallI 48271 = true := by decide
  have s4 : smallI x = true := small_of (by omega) (by omega)
  have s5 : smallI ((c % 2147483647 + 7919 * k * k + 3) * 48271 % 2147483647) = true := s4
  simp only [v__law_mixed, m__law_mixed, spM_eq]
  simp [mulV_int, modV_int, s1, s2, s3, s5]
  rfl
theorem take_ok {l b : Nat} {x : Cell} {many : Int} (h : S[l]? = some x) (hd : IsD b x) (hb : b ≤ 100000) (hm : 0 < many) (hm2 : many ≤ 1000) :
    ∃ (n : Int) (y : Cell), 0 ≤ n ∧ n < many ∧ IsD (b + 1) y ∧ v__law_take [.r l, .d (.int many)] S = .ok (.d (.int n)) (S.set l y) := by
  obtain ⟨c, r, a, rfl, ha, ha2⟩ := hd
  have lg : many.natAbs.log2 < 9000 := by
    have h1 : many.natAbs ≤ 1000 := by omega
    have : many.natAbs.log2 ≤ many.natAbs := Nat.log2_le_self _
    omega
  have hl := (List.getElem?_eq_some_iff.mp h).1
  by_cases hr : 0 < r
  · refine ⟨r % many, drawC c (r / many) a, Int.emod_nonneg _ (by omega), Int.emod_lt_of_pos _ hm, ⟨c, r / many, a, rfl, ha, by omega⟩, ?_⟩
    simp only [v__law_take, m__law_take, spM_eq]
    simp [ix_rest h, hr, modV_int, hm, fdivV_int, lg, set_rest h, cutS_len]
  · let S1 := S.set l (drawC c r (a + 1))
    have h1 : S1[l]? = some (drawC c r (a + 1)) := by simp [S1, hl]
    obtain ⟨m1, p1, p2, p3⟩ := v__law_mixed_ok (S := S1) (c := c) (k := a + 1) (by omega) (by omega)
    obtain ⟨m2, q1, q2, q3⟩ := v__law_mixed_ok (S := S1) (c := c / 1000003) (k := a + 1 + 9001) (by omega) (by omega)
    refine ⟨(m1 * 31 + m2) / 11 % many, drawC c r (a + 1), Int.emod_nonneg _ (by omega), Int.emod_lt_of_pos _ hm, ⟨c, r, a + 1, rfl, by omega, by omega⟩, ?_⟩
    have l1 : Nat.log2 1000003 < 9000 := by decide
    have l2 : Nat.log2 11 < 9000 := by decide
    have s31 : smallI 31 = true := by decide
    have st : setV (.r l) (.d (.str (Str.ofString "at"))) (.d (.int (a + 1))) S = some S1 := set_at h
    simp only [v__law_take, m__law_take, spM_eq]
    simp [ix_rest h, hr, ix_at h, st, ix_cell h1, ix_at h1, p3, q3, fdivV_int, l1, l2, mulV_int, s31, modV_int, hm]
    simp [S1, cutS_len]
end K36

namespace EV
open PySem PySem.Spec PyProof.Rows L2
section
variable {S S' : Sto} {ρ : Nv}
theorem b62 {n : Nat} (hn : n ≤ 1000) : -4611686018427387904 ≤ (n : Int) ∧ (n : Int) < 4611686018427387904 := by omega
theorem r1 {n : Nat} : rngL 0 n = ((List.range n).map fun (i : Nat) => PyData.int i).map .d := by
  unfold rngL
  rw [List.map_map]
  refine List.map_congr_left fun i _ => ?_
  show Vl.d (.int (0 + (i : Int))) = Vl.d (.int (i : Int))
  rw [Int.zero_add]
theorem r2 {m : MA} {j : Int} (h : m ρ S = .ok [.d (.int j)] S') (hj : -4611686018427387904 ≤ j ∧ j < 4611686018427387904) : EV.iRng1 m ρ S = .ok (rngL 0 j.toNat) [] S' := by
  unfold EV.iRng1
  rw [h]
  simp only [toIA_ok]
  rw [if_pos hj]
theorem iRng1_ok {m : MA} {n : Nat} (h : m ρ S = .ok [.d (.int n)] S') (hn : n ≤ 1000) : EV.iRng1 m ρ S = .ok (((List.range n).map fun (i : Nat) => PyData.int i).map .d) [] S' :=
  (r2 h (b62 hn)).trans (by rw [Int.toNat_natCast, r1])
theorem letter_ok {n : Nat} (h : n < 26) : ixVS (.d (.str (Str.ofString "abcdefghijklmnopqrstuvwxyz"))) (.d (.int n)) S = .ok (.d (.str ⟨#[n + 97]⟩)) S := by
  have hl : (Str.ofString "abcdefghijklmnopqrstuvwxyz").length = 26 := by decide +kernel
  have hs : (Str.ofString "abcdefghijklmnopqrstuvwxyz").length ≤ sizeLine := by rw [hl, sizeLine_eq]; omega
  unfold ixVS ixV
  simp only [hs, if_true, small_is, atI_nat]
  rw [List.getElem?_map, List.getElem?_range h]
  rfl
end
theorem foldl_one (c : Nat) : ∀ (n : Nat) (acc : Array Nat), ((List.replicate n #[c]).foldl (· ++ ·) acc).toList = acc.toList ++ List.replicate n c
  | 0, acc => by simp
  | n + 1, acc => by
    rw [List.replicate_succ, List.foldl_cons, foldl_one c n, List.replicate_succ]
    simp
theorem strRep_one {c k : Nat} : (strRep ⟨#[c]⟩ (1 + (k : Int))).cps.toList = List.replicate (k + 1) c := by
  unfold strRep
  rw [if_neg (by omega)]
  cases k with
  | zero => rfl
  | succ k =>
    have h : ((1 + ((k + 1 : Nat) : Int)) == 1 || (⟨#[c]⟩ : Str).length == 0) = false := by
      have : ((1 + ((k + 1 : Nat) : Int)) == 1) = false := by
        rw [beq_eq_false_iff_ne]
        omega
      rw [this]
      rfl
    rw [h]
    have e : (1 + ((k + 1 : Nat) : Int)).toNat = k + 1 + 1 := by omega
    rw [e]
    simp only [Bool.false_eq_true, if_false]
    rw [foldl_one]
    simp
theorem str_ext {a b : Str} (h : a.cps.toList = b.cps.toList) : a = b := by
  obtain ⟨⟨a⟩⟩ := a
  obtain ⟨⟨b⟩⟩ := b
  simp only at h
  rw [h]
theorem nodup_range {β : Type} {f : Nat → β} {n : Nat} (h : ∀ a b, a < b → b < n → f a ≠ f b) : ((List.range n).map f).Nodup := by
  unfold List.Nodup
  rw [List.pairwise_map]
  refine List.Pairwise.imp_of_mem (fun {a b} ha hb hlt => ?_) List.pairwise_lt_range
  exact h a b hlt (List.mem_range.mp hb)
def nameB (z : Str) : Bool := decide (1 ≤ z.length) && decide (z.length ≤ 8) && z.cps.toList.all fun c => decide (97 ≤ c) && decide (c ≤ 122)
theorem nameB_ok {z : Str} (h : nameB z = true) : NameOk z := by
  unfold nameB at h
  simp only [Bool.and_eq_true, decide_eq_true_eq, List.all_eq_true] at h
  exact ⟨h.1.1, h.1.2, h.2⟩
end EV
namespace K36
open PySem PySem.Spec PyProof.Rows L2 EV
def W : List Str := Txt.split (Str.ofString "kind box tool hand set gauge work keep lend pass back sharp find stone lose new lost") (Str.ofString " ")
theorem W_len : W.length = 17 := by decide +kernel
theorem W_nd : W.Nodup := by decide +kernel
theorem W_ok : W.all nameB = true := by decide +kernel

theorem joinL_flat : ∀ ps : List (List Nat), TL.joinL [] ps = ps.flatten
  | [] => rfl
  | [p] => by simp [TL.joinL]
  | p :: q :: r => by
    have := joinL_flat (q :: r)
    rw [List.flatten_cons, ← this]
    rfl
open StrLaws in
theorem join_tl (ys : List Str) : (Txt.join (Str.ofString "") ys).cps.toList = (ys.map fun y => y.cps.toList).flatten := by
  have e : Txt.join (Str.ofString "") ys = Str.join (Str.ofString "") ys := glued_eq_join _ _
  rw [e]
  have h := TL.tl_join (Str.ofString "") ys
  have h0 : TL.tl (Str.ofString "") = [] := by decide +kernel
  rw [h0, joinL_flat] at h
  exact h
theorem append_tl (a b : Str) : (a ++ b).cps.toList = a.cps.toList ++ b.cps.toList := by
  have := TL.tl_append a b
  exact this
end K36

namespace K36
open PySem PySem.Spec PyProof.Rows L2 EV
variable {S : Sto}
theorem lst_str {α : Type} (L : List α) (F : α → Str) : (L.map fun a => PyData.str (F a)) = (L.map F).map PyData.str := by
  rw [List.map_map]
  rfl
theorem W_get {i : Nat} (h : i < 17) : W[i]? = some (W.getD i Str.empty) := by
  rw [List.getD_eq_getElem?_getD, List.getElem?_eq_getElem (by rw [W_len]; exact h)]
  rfl
theorem W_name {i : Nat} (h : i < 17) : NameOk (W.getD i Str.empty) := nameB_ok (List.all_eq_true.mp W_ok _ (List.mem_of_getElem? (W_get h)))
theorem W_inj {i j : Nat} (hi : i < 17) (hj : j < 17) (e : W.getD i Str.empty = W.getD j Str.empty) : i = j := by
  have h1 := W_get hi
  have h2 := W_get hj
  rw [e] at h1
  have hi' : i < W.length := by rw [W_len]; exact hi
  have hj' : j < W.length := by rw [W_len]; exact hj
  rw [List.getElem?_eq_getElem hi'] at h1
  rw [List.getElem?_eq_getElem hj'] at h2
  exact (List.getElem_inj W_nd).mp ((Option.some.inj h1).trans (Option.some.inj h2).symm)
theorem modV_nat {a b : Nat} (h : 0 < b) : modV (.d (.int a)) (.d (.int b)) S = .ok (.d (.int ((a % b : Nat) : Int))) S := by
  rw [modV_int, if_pos (by omega)]
  rfl
theorem mulV_3 {k : Nat} : mulV (.d (.int 3)) (.d (.int k)) S = .ok (.d (.int ((3 * k : Nat) : Int))) S := by
  have s3 : smallI 3 = true := by decide
  rw [mulV_int, s3]
  rfl
theorem sum_nat {a b : Nat} : ((a : Int) + (b : Int)) = ((a + b : Nat) : Int) := by omega
/-- a draw's number as a natural one -/
theorem take_nat {l b : Nat} {x : Cell} {many : Nat} (h : S[l]? = some x) (hd : IsD b x) (hb : b ≤ 100000) (hm : 0 < many) (hm2 : many ≤ 1000) :
    ∃ (n : Nat) (y : Cell), n < many ∧ IsD (b + 1) y ∧ v__law_take [.r l, .d (.int many)] S = .ok (.d (.int n)) (S.set l y) := by
  obtain ⟨n, y, h1, h2, h3, h4⟩ := take_ok h hd hb (many := many) (by omega) (by omega)
  refine ⟨n.toNat, y, by omega, h3, ?_⟩
  rw [h4, Int.toNat_of_nonneg h1]
theorem at_set {l : Nat} {x y : Cell} (h : S[l]? = some x) : (S.set l y)[l]? = some y := by
  simp [(List.getElem?_eq_some_iff.mp h).1]
theorem mulV_str {z : Str} {n : Int} : mulV (.d (.str z)) (.d (.int n)) S = if -1000000 ≤ n ∧ n ≤ 1000000 ∧ z.length * n.toNat ≤ sizeLine then .ok (.d (.str (strRep z n))) S else .bad := rfl
theorem strs_map {α : Type} (L : List α) (f : α → Str) : strsD (L.map fun a => PyData.str (f a)) = some (L.map f) := by
  have := strsD_map (L.map f)
  rwa [List.map_map] at this
theorem joinV_map {α : Type} (L : List α) (f : α → Str) (h : (L.map fun a => (f a).length).sum ≤ 1000000) : joinV (.d (.str (Str.ofString ""))) (.d (.list (L.map fun a => .str (f a)))) S = .ok (.d (.str (Txt.join (Str.ofString "") (L.map f)))) S := by
  have l0 : (Str.ofString "").length = 0 := by decide +kernel
  unfold joinV
  simp only [seqV_lst, allD_map, Option.bind_some, strs_map]
  have : ((L.map f).map (·.length)).sum + (L.map f).length * (Str.ofString "").length ≤ 16777216 := by
    rw [l0, Nat.mul_zero, Nat.add_zero, List.map_map]
    have : (L.map (Str.length ∘ f)).sum = (L.map fun a => (f a).length).sum := rfl
    have : (L.map ((fun x : Str => x.length) ∘ f)).sum = (L.map fun a => (f a).length).sum := rfl
    omega
  rw [if_pos this]
theorem ones : ∀ cs : List Nat, ((cs.map fun c => (⟨#[c + 97]⟩ : Str)).map fun y => y.cps.toList).flatten = cs.map (· + 97)
  | [] => rfl
  | a :: r => by
    rw [List.map_cons, List.map_cons, List.flatten_cons, ones r]
    rfl
theorem set_self {α : Type} {L : List α} {l : Nat} {x : α} (h : L[l]? = some x) : L.set l x = L := by
  obtain ⟨hl, e⟩ := List.getElem?_eq_some_iff.mp h
  rw [← e, List.set_getElem_self]
/-- some letters drawn -/
theorem letters_ok {l b : Nat} {x : Cell} {m : Nat} {a2 a3 a4 a6 a7 a8 : Option Vl} (h : S[l]? = some x) (hd : IsD b x) (hb : b ≤ 95000) (hm : m ≤ 8) :
    ∃ (cs : List Nat) (y : Cell), cs.length = m ∧ (∀ c ∈ cs, c < 26) ∧ IsD (b + m) y ∧
      lcL (gNm 7) mYes (mBin ixVS (mVar 4) (mCall 2 v__law_take (aCons (mVar 0) (aCons (mC (.int 26)) aNil)))) [] [7] [some (.r l), a2, a3, a4, some (.d (.str (Str.ofString "abcdefghijklmnopqrstuvwxyz"))), a6, a7, a8] (((List.range m).map fun (i : Nat) => PyData.int i).map .d) [] S =
        .ok ((cs.map fun c => PyData.str ⟨#[c + 97]⟩).map .d) (S.set l y) := by
  have hl := (List.getElem?_eq_some_iff.mp h).1
  obtain ⟨acc, S', h1, cs, y, h2, h3, h4, h5, h6⟩ := lcL_ix (S := S) (ρ := [some (.r l), a2, a3, a4, some (.d (.str (Str.ofString "abcdefghijklmnopqrstuvwxyz"))), a6, a7, a8]) (g := gNm 7) (t := mYes)
    (e := mBin ixVS (mVar 4) (mCall 2 v__law_take (aCons (mVar 0) (aCons (mC (.int 26)) aNil)))) (vs := [7]) (((List.range m).map fun (i : Nat) => PyData.int i).map .d)
    (fun i acc S' => ∃ cs y, cs.length = i ∧ (∀ c ∈ cs, c < 26) ∧ acc = (cs.map fun c => PyData.str ⟨#[c + 97]⟩).map .d ∧ IsD (b + i) y ∧ S' = S.set l y)
    ⟨[], x, rfl, (fun _ h => (by cases h)), rfl, hd, (set_self h).symm⟩
    (fun i z acc S' hz ⟨cs, y, c1, c2, c3, c4, c5⟩ => by
      subst c3 c5
      have hi : i < m := by have := (List.getElem?_eq_some_iff.mp hz).1; simpa using this
      obtain ⟨n, y2, w, d, e⟩ := take_nat (S := S.set l y) (many := 26) (at_set h) c4 (by omega) (by decide) (by decide)
      rw [List.set_set] at e
      have e : v__law_take [.r l, .d (.int 26)] (S.set l y) = .ok (.d (.int n)) (S.set l y2) := e
      refine ⟨_, rfl, true, S.set l y, rfl, fun _ => ⟨.d (.str ⟨#[n + 97]⟩), S.set l y2, ?_, cs ++ [n], y2, by simp [c1], fun c hc => ?_, by simp, by rw [← Nat.add_assoc]; exact d, rfl⟩, fun e => by cases e⟩
      · simp [e, letter_ok w]
      · rcases List.mem_append.mp hc with hc | hc
        · exact c2 c hc
        · have : c = n := by simpa using hc
          omega)
  refine ⟨cs, y, by simpa using h2, h3, ?_, ?_⟩
  · simpa using h5
  · rw [h1, h4, h6]
theorem seq_step {a b : MS} {ρ ρ' : Nv} {S S' : Sto} (h : a ρ S = .nx ρ' S') : sSeq a b ρ S = b ρ' S' := by rw [sSeq_eq, h]; rfl
theorem seq_stop {a b : MS} {ρ : Nv} {x : Vl} {S S' : Sto} (h : a ρ S = .ret x S') : sSeq a b ρ S = .ret x S' := by rw [sSeq_eq, h]; rfl
theorem if_no {c : ME} {a b : MS} {ρ : Nv} {S S' : Sto} (h : c ρ S = .ok (.d (.bool false)) S') : sIf c a b ρ S = b ρ S' := by
  rw [sIf_eq, h, RE.toS_ok, onB_b, if_neg Bool.false_ne_true]
theorem if_yes {c : ME} {a b : MS} {ρ : Nv} {S S' : Sto} (h : c ρ S = .ok (.d (.bool true)) S') : sIf c a b ρ S = a ρ S' := by
  rw [sIf_eq, h, RE.toS_ok, onB_b, if_pos rfl]
theorem ret_of {m : ME} {ρ : Nv} {S S' : Sto} {x : Vl} (h : m ρ S = .ok x S') : sRet m ρ S = .ret x S' := by rw [sRet_eq, h, RE.toS_ok]
theorem v_names_of_m {l : Nat} {many : Int} {x : Vl} {S' : Sto} (h : m__law_names [some (.r l), some (.d (.int many)), none, none, none, none, none, none] S = .ret x S') (hl : S'.length = S.length) : v__law_names [.r l, .d (.int many)] S = .ok x S' := by
  have e : v__law_names [.r l, .d (.int many)] S = retR (m__law_names (envAt 8 [.r l, .d (.int many)]) S) S := rfl
  have e0 : envAt 8 [Vl.r l, .d (.int many)] = [some (.r l), some (.d (.int many)), none, none, none, none, none, none] := rfl
  rw [e, e0, h, retR_ret, cutS_len hl]
theorem names0 {l b : Nat} {x : Cell} {many : Nat} (h : S[l]? = some x) (hb : b ≤ 90000) (hm : many ≤ 8) {y1 y2 : Cell} {f : Nat} (w2 : f < 26) (d2 : IsD (b + 1 + 1) y2)
    (e1 : v__law_take [.r l, .d (.int 3)] S = .ok (.d (.int 0)) (S.set l y1)) (e2 : v__law_take [.r l, .d (.int 26)] (S.set l y1) = .ok (.d (.int f)) (S.set l y2)) :
    ∃ (ns : List Str) (y : Cell), ns.length = many ∧ ns.Nodup ∧ (∀ z ∈ ns, NameOk z) ∧ IsD (b + 10) y ∧ v__law_names [.r l, .d (.int many)] S = .ok (.d (.list (ns.map .str))) (S.set l y) := by
  have wlen : (Str.ofString "kind box tool hand set gauge work keep lend pass back sharp find stone lose new lost").length ≤ 1000000 := by decide +kernel
  have slen : (Str.ofString " ").length = 1 := by decide +kernel
  refine ⟨(List.range many).map fun k => W.getD ((f + 3 * k) % 17) Str.empty, y2, by simp, ?_, ?_, d2.up (by omega), ?_⟩
  · refine nodup_range fun a b hab hb e => ?_
    have := W_inj (Nat.mod_lt _ (by decide)) (Nat.mod_lt _ (by decide)) e
    omega
  · intro z hz
    obtain ⟨k, _, rfl⟩ := List.mem_map.mp hz
    exact W_name (Nat.mod_lt _ (by decide))
  · have c : mLc (gNm 7) (EV.iRng1 (aCons (mVar 1) aNil)) mYes (mBin ixVS (mVar 5) (mBin modV (mBin addV (mVar 3) (mBin mulV (mC (.int 3)) (mVar 7))) (mC (.int 17)))) [7]
        [some (.r l), some (.d (.int many)), some (.d (.int 0)), some (.d (.int f)), some (.d (.str (Str.ofString "abcdefghijklmnopqrstuvwxyz"))), some (.d (.list (W.map .str))), none, none] (S.set l y2) =
        .ok (.d (.list ((List.range many).map fun k => .str (W.getD ((f + 3 * k) % 17) Str.empty)))) (S.set l y2) :=
      mLc_map (List.range many) (fun (k : Nat) => .int k) _ (iRng1_ok (by simp) (by omega)) (by simp; omega) fun k hk => ⟨_, rfl, by
        have g := W_get (Nat.mod_lt (f + 3 * k) (by decide : 0 < 17))
        have md : modV (.d (.int ((f + 3 * k : Nat) : Int))) (.d (.int 17)) (S.set l y2) = .ok (.d (.int (((f + 3 * k) % 17 : Nat) : Int))) (S.set l y2) := modV_nat (b := 17) (by decide)
        simp only [mBin_eq, mVar_eq, mC_eq, RE.bind_ok, varR_some, wipeN_cons, wipeN_nil, List.set_cons_succ, List.set_cons_zero, List.getElem?_cons_succ, List.getElem?_cons_zero, mulV_3, addV_int, sum_nat, md, ixVS_lst, EV.atI_nat, List.getElem?_map, g, Option.map_some, ixR_some]⟩
    have sp : Txt.split (Str.ofString "kind box tool hand set gauge work keep lend pass back sharp find stone lose new lost") (Str.ofString " ") = W := rfl
    have spl : splV (.d (.str (Str.ofString "kind box tool hand set gauge work keep lend pass back sharp find stone lose new lost"))) (.d (.str (Str.ofString " "))) (S.set l y2) = .ok (.d (.list (W.map .str))) (S.set l y2) := by
      unfold splV
      have cnd : ((Str.ofString " ").length == 0) = false ∧ (Str.ofString "kind box tool hand set gauge work keep lend pass back sharp find stone lose new lost").length ≤ 1000000 := ⟨by rw [slen]; rfl, wlen⟩
      simp only []
      rw [if_pos cnd, sp]
    have ev : m__law_names [some (.r l), some (.d (.int many)), none, none, none, none, none, none] S = .ret (.d (.list ((List.range many).map fun (k : Nat) => .str (W.getD ((f + 3 * k) % 17) Str.empty)))) (S.set l y2) := by
      unfold m__law_names
      refine (seq_step (ρ' := [some (.r l), some (.d (.int many)), some (.d (.int 0)), some (.d (.int f)), none, none, none, none]) (S' := S.set l y2) (by simp [e1, e2])).trans ?_
      refine (seq_step (ρ' := [some (.r l), some (.d (.int many)), some (.d (.int 0)), some (.d (.int f)), some (.d (.str (Str.ofString "abcdefghijklmnopqrstuvwxyz"))), none, none, none]) (S' := S.set l y2) rfl).trans ?_
      refine seq_stop ((if_yes (S' := S.set l y2) (by simp)).trans ?_)
      refine (seq_step (ρ' := [some (.r l), some (.d (.int many)), some (.d (.int 0)), some (.d (.int f)), some (.d (.str (Str.ofString "abcdefghijklmnopqrstuvwxyz"))), some (.d (.list (W.map .str))), none, none]) (S' := S.set l y2) ?_).trans (ret_of c)
      rw [sSet_eq, mM1_eq, mC_eq, RE.bind_ok]
      simp only [mC_eq, RE.bind_ok]
      rw [spl]
      rfl
    rw [v_names_of_m ev (by simp), lst_str]
set_option maxHeartbeats 400000 in
theorem names1 {l b : Nat} {x : Cell} {many : Nat} (h : S[l]? = some x) (hb : b ≤ 90000) (hm : many ≤ 8) {y1 y2 : Cell} {f : Nat} (w2 : f < 26) (d2 : IsD (b + 1 + 1) y2)
    (e1 : v__law_take [.r l, .d (.int 3)] S = .ok (.d (.int 1)) (S.set l y1)) (e2 : v__law_take [.r l, .d (.int 26)] (S.set l y1) = .ok (.d (.int f)) (S.set l y2)) :
    ∃ (ns : List Str) (y : Cell), ns.length = many ∧ ns.Nodup ∧ (∀ z ∈ ns, NameOk z) ∧ IsD (b + 10) y ∧ v__law_names [.r l, .d (.int many)] S = .ok (.d (.list (ns.map .str))) (S.set l y) := by
  have tlr : ∀ k : Nat, (strRep ⟨#[f + 97]⟩ (1 + (k : Int))).cps.toList = List.replicate (k + 1) (f + 97) := fun k => strRep_one
  have lnr : ∀ k : Nat, (strRep ⟨#[f + 97]⟩ (1 + (k : Int))).length = k + 1 := fun k => by
    have := congrArg List.length (tlr k)
    rw [List.length_replicate] at this
    exact this
  refine ⟨(List.range many).map fun (k : Nat) => strRep ⟨#[f + 97]⟩ (1 + (k : Int)), y2, by simp, ?_, ?_, d2.up (by omega), ?_⟩
  · refine nodup_range fun a b hab hb e => ?_
    have := congrArg Str.length e
    rw [lnr, lnr] at this
    omega
  · intro z hz
    obtain ⟨k, hk, rfl⟩ := List.mem_map.mp hz
    have hk := List.mem_range.mp hk
    refine ⟨by rw [lnr]; omega, by rw [lnr]; omega, fun c hc => ?_⟩
    rw [tlr] at hc
    have := (List.mem_replicate.mp hc).2
    omega
  · have c : mLc (gNm 7) (EV.iRng1 (aCons (mVar 1) aNil)) mYes (mBin mulV (mBin ixVS (mVar 4) (mVar 3)) (mBin addV (mC (.int 1)) (mVar 7))) [7]
        [some (.r l), some (.d (.int many)), some (.d (.int 1)), some (.d (.int f)), some (.d (.str (Str.ofString "abcdefghijklmnopqrstuvwxyz"))), none, none, none] (S.set l y2) =
        .ok (.d (.list ((List.range many).map fun (k : Nat) => .str (strRep ⟨#[f + 97]⟩ (1 + (k : Int)))))) (S.set l y2) :=
      mLc_map (List.range many) (fun (k : Nat) => .int k) _ (iRng1_ok (by simp) (by omega)) (by simp; omega) fun k hk => ⟨_, rfl, by
        have hk := List.mem_range.mp hk
        have ok : -1000000 ≤ 1 + (k : Int) ∧ 1 + (k : Int) ≤ 1000000 ∧ (⟨#[f + 97]⟩ : Str).length * (1 + (k : Int)).toNat ≤ sizeLine := by
          have : (⟨#[f + 97]⟩ : Str).length = 1 := rfl
          rw [this, sizeLine_eq]
          omega
        simp only [mBin_eq, mVar_eq, mC_eq, RE.bind_ok, varR_some, wipeN_cons, wipeN_nil, List.set_cons_succ, List.set_cons_zero, List.getElem?_cons_succ, List.getElem?_cons_zero, letter_ok w2, addV_int]
        rw [mulV_str, if_pos ok]⟩
    have ev : m__law_names [some (.r l), some (.d (.int many)), none, none, none, none, none, none] S = .ret (.d (.list ((List.range many).map fun (k : Nat) => .str (strRep ⟨#[f + 97]⟩ (1 + (k : Int)))))) (S.set l y2) := by
      unfold m__law_names
      refine (seq_step (ρ' := [some (.r l), some (.d (.int many)), some (.d (.int 1)), some (.d (.int f)), none, none, none, none]) (S' := S.set l y2) (by simp [e1, e2])).trans ?_
      refine (seq_step (ρ' := [some (.r l), some (.d (.int many)), some (.d (.int 1)), some (.d (.int f)), some (.d (.str (Str.ofString "abcdefghijklmnopqrstuvwxyz"))), none, none, none]) (S' := S.set l y2) rfl).trans ?_
      refine (seq_step (ρ' := [some (.r l), some (.d (.int many)), some (.d (.int 1)), some (.d (.int f)), some (.d (.str (Str.ofString "abcdefghijklmnopqrstuvwxyz"))), none, none, none]) (S' := S.set l y2) ((if_no (by simp)).trans rfl)).trans ?_
      exact seq_stop ((if_yes (by simp)).trans (ret_of c))
    rw [v_names_of_m ev (by simp), lst_str]
theorem names2 {l b : Nat} {x : Cell} {many : Nat} (h : S[l]? = some x) (hb : b ≤ 90000) (hm : many ≤ 8) {y1 y2 : Cell} {f : Nat} (w2 : f < 26) (d2 : IsD (b + 1 + 1) y2)
    (e1 : v__law_take [.r l, .d (.int 3)] S = .ok (.d (.int 2)) (S.set l y1)) (e2 : v__law_take [.r l, .d (.int 26)] (S.set l y1) = .ok (.d (.int f)) (S.set l y2)) :
    ∃ (ns : List Str) (y : Cell), ns.length = many ∧ ns.Nodup ∧ (∀ z ∈ ns, NameOk z) ∧ IsD (b + 10) y ∧ v__law_names [.r l, .d (.int many)] S = .ok (.d (.list (ns.map .str))) (S.set l y) := by
  obtain ⟨m, y3, w3, d3, e3⟩ := take_nat (S := S.set l y2) (many := 8) (at_set h) d2 (by omega) (by decide) (by decide)
  rw [List.set_set] at e3
  have e3 : v__law_take [.r l, .d (.int 8)] (S.set l y2) = .ok (.d (.int m)) (S.set l y3) := e3
  obtain ⟨cs, y4, k1, k2, k3, k4⟩ := letters_ok (S := S.set l y3) (m := m) (a2 := some (.d (.int many))) (a3 := some (.d (.int 2))) (a4 := some (.d (.int f))) (a6 := none) (a7 := none) (a8 := none) (at_set h) d3 (by omega) (by omega)
  rw [List.set_set] at k4
  let base : Str := Txt.join (Str.ofString "") (cs.map fun c => ⟨#[c + 97]⟩)
  have btl : base.cps.toList = cs.map (· + 97) := by
    exact (join_tl (cs.map fun c => ⟨#[c + 97]⟩)).trans (ones cs)
  have bln : base.length = m := by
    have := congrArg List.length btl
    rw [List.length_map, k1] at this
    exact this
  have nt : ∀ k : Nat, (base ++ (⟨#[k + 97]⟩ : Str)).cps.toList = cs.map (· + 97) ++ [k + 97] := fun k => by rw [append_tl, btl]
  have nl : ∀ k : Nat, (base ++ (⟨#[k + 97]⟩ : Str)).length = m + 1 := fun k => by
    have := congrArg List.length (nt k)
    rw [List.length_append, List.length_map, k1] at this
    exact this
  refine ⟨(List.range many).map fun (k : Nat) => base ++ (⟨#[(f + 3 * k) % 26 + 97]⟩ : Str), y4, by simp, ?_, ?_, k3.up (by omega), ?_⟩
  · refine nodup_range fun a b hab hb e => ?_
    have e2 := congrArg (fun x : Str => x.cps.toList) e
    simp only [nt] at e2
    have e3 := List.append_cancel_left e2
    have e4 : (f + 3 * a) % 26 + 97 = (f + 3 * b) % 26 + 97 := by simpa using e3
    omega
  · intro z hz
    obtain ⟨k, hk, rfl⟩ := List.mem_map.mp hz
    refine ⟨by rw [nl]; omega, by rw [nl]; omega, fun c hc => ?_⟩
    rw [nt] at hc
    rcases List.mem_append.mp hc with hc | hc
    · obtain ⟨d, hd, rfl⟩ := List.mem_map.mp hc
      have := k2 d hd
      omega
    · have : c = (f + 3 * k) % 26 + 97 := by simpa using hc
      have := Nat.mod_lt (f + 3 * k) (by decide : 0 < 26)
      omega
  · have c0 : mLc (gNm 7) (EV.iRng1 (aCons (mCall 2 v__law_take (aCons (mVar 0) (aCons (mC (.int 8)) aNil))) aNil)) mYes (mBin ixVS (mVar 4) (mCall 2 v__law_take (aCons (mVar 0) (aCons (mC (.int 26)) aNil)))) [7]
        [some (.r l), some (.d (.int many)), some (.d (.int 2)), some (.d (.int f)), some (.d (.str (Str.ofString "abcdefghijklmnopqrstuvwxyz"))), none, none, none] (S.set l y2) = .ok (.d (.list (cs.map fun c => .str ⟨#[c + 97]⟩))) (S.set l y4) := by
      unfold mLc
      rw [iRng1_ok (n := m) (S' := S.set l y3) (by simp [e3]) (by omega)]
      simp only [RI.bind_ok, List.length_map, List.length_range]
      rw [if_pos (by omega), k4]
      simp only [RA.nx_ok, allD_map]
    have jn : joinV (.d (.str (Str.ofString ""))) (.d (.list (cs.map fun c => .str ⟨#[c + 97]⟩))) (S.set l y4) = .ok (.d (.str base)) (S.set l y4) := by
      refine joinV_map cs (fun c => ⟨#[c + 97]⟩) ?_
      have : (cs.map fun c => (⟨#[c + 97]⟩ : Str).length).sum = cs.length := by
        clear k4 c0 nl nt bln btl k2 k1
        induction cs with
        | nil => rfl
        | cons a r ih =>
          rw [List.map_cons, List.sum_cons, ih, List.length_cons]
          show 1 + r.length = r.length + 1
          omega
      rw [this]
      omega
    have c : mLc (gNm 7) (EV.iRng1 (aCons (mVar 1) aNil)) mYes (mBin addV (mVar 6) (mBin ixVS (mVar 4) (mBin modV (mBin addV (mVar 3) (mBin mulV (mC (.int 3)) (mVar 7))) (mC (.int 26))))) [7]
        [some (.r l), some (.d (.int many)), some (.d (.int 2)), some (.d (.int f)), some (.d (.str (Str.ofString "abcdefghijklmnopqrstuvwxyz"))), none, some (.d (.str base)), none] (S.set l y4) =
        .ok (.d (.list ((List.range many).map fun (k : Nat) => .str (base ++ (⟨#[(f + 3 * k) % 26 + 97]⟩ : Str))))) (S.set l y4) :=
      mLc_map (List.range many) (fun (k : Nat) => .int k) _ (iRng1_ok (by simp) (by omega)) (by simp; omega) fun k hk => ⟨_, rfl, by
        have md : modV (.d (.int ((f + 3 * k : Nat) : Int))) (.d (.int 26)) (S.set l y4) = .ok (.d (.int (((f + 3 * k) % 26 : Nat) : Int))) (S.set l y4) := modV_nat (b := 26) (by decide)
        have sz : base.length + (⟨#[(f + 3 * k) % 26 + 97]⟩ : Str).length ≤ sizeLine := by
          have : (⟨#[(f + 3 * k) % 26 + 97]⟩ : Str).length = 1 := rfl
          rw [this, bln, sizeLine_eq]
          omega
        simp only [mBin_eq, mVar_eq, mC_eq, RE.bind_ok, varR_some, wipeN_cons, wipeN_nil, List.set_cons_succ, List.set_cons_zero, List.getElem?_cons_succ, List.getElem?_cons_zero, mulV_3, addV_int, sum_nat, md, letter_ok (Nat.mod_lt (f + 3 * k) (by decide : 0 < 26)), addV_str]
        rw [if_pos sz]⟩
    have jq : mM1 joinV (mC (.str (Str.ofString ""))) (mLc (gNm 7) (EV.iRng1 (aCons (mCall 2 v__law_take (aCons (mVar 0) (aCons (mC (.int 8)) aNil))) aNil)) mYes (mBin ixVS (mVar 4) (mCall 2 v__law_take (aCons (mVar 0) (aCons (mC (.int 26)) aNil)))) [7]) [some (.r l), some (.d (.int many)), some (.d (.int 2)), some (.d (.int f)), some (.d (.str (Str.ofString "abcdefghijklmnopqrstuvwxyz"))), none, none, none] (S.set l y2) = .ok (.d (.str base)) (S.set l y4) := by
      rw [mM1_eq, mC_eq, RE.bind_ok]
      simp only []
      rw [c0, RE.bind_ok, jn]
    have ev : m__law_names [some (.r l), some (.d (.int many)), none, none, none, none, none, none] S = .ret (.d (.list ((List.range many).map fun (k : Nat) => .str (base ++ (⟨#[(f + 3 * k) % 26 + 97]⟩ : Str))))) (S.set l y4) := by
      unfold m__law_names
      refine (seq_step (ρ' := [some (.r l), some (.d (.int many)), some (.d (.int 2)), some (.d (.int f)), none, none, none, none]) (S' := S.set l y2) (by simp [e1, e2])).trans ?_
      refine (seq_step (ρ' := [some (.r l), some (.d (.int many)), some (.d (.int 2)), some (.d (.int f)), some (.d (.str (Str.ofString "abcdefghijklmnopqrstuvwxyz"))), none, none, none]) (S' := S.set l y2) rfl).trans ?_
      refine (seq_step (ρ' := [some (.r l), some (.d (.int many)), some (.d (.int 2)), some (.d (.int f)), some (.d (.str (Str.ofString "abcdefghijklmnopqrstuvwxyz"))), none, none, none]) (S' := S.set l y2) ((if_no (by simp)).trans rfl)).trans ?_
      refine (seq_step (ρ' := [some (.r l), some (.d (.int many)), some (.d (.int 2)), some (.d (.int f)), some (.d (.str (Str.ofString "abcdefghijklmnopqrstuvwxyz"))), none, none, none]) (S' := S.set l y2) ((if_no (by simp)).trans rfl)).trans ?_
      refine (seq_step (ρ' := [some (.r l), some (.d (.int many)), some (.d (.int 2)), some (.d (.int f)), some (.d (.str (Str.ofString "abcdefghijklmnopqrstuvwxyz"))), none, some (.d (.str base)), none]) (S' := S.set l y4) ?_).trans (ret_of c)
      rw [sSet_eq, jq]
      rfl
    rw [v_names_of_m ev (by simp), lst_str]
theorem v__law_names_ok {l b : Nat} {x : Cell} {many : Nat} (h : S[l]? = some x) (hd : IsD b x) (hb : b ≤ 90000) (hm : many ≤ 8) :
    ∃ (ns : List Str) (y : Cell), ns.length = many ∧ ns.Nodup ∧ (∀ z ∈ ns, NameOk z) ∧ IsD (b + 10) y ∧ v__law_names [.r l, .d (.int many)] S = .ok (.d (.list (ns.map .str))) (S.set l y) := by
  obtain ⟨way, y1, w1, d1, e1⟩ := take_nat (many := 3) h hd (by omega) (by decide) (by decide)
  obtain ⟨f, y2, w2, d2, e2⟩ := take_nat (S := S.set l y1) (many := 26) (at_set h) d1 (by omega) (by decide) (by decide)
  rw [List.set_set] at e2
  by_cases h0 : way = 0
  · subst h0
    exact names0 h hb hm w2 d2 e1 e2
  · by_cases h1 : way = 1
    · subst h1
      exact names1 h hb hm w2 d2 e1 e2
    · have h2 : way = 2 := by omega
      subst h2
      exact names2 h hb hm w2 d2 e1 e2
end K36

namespace K36
open PySem PySem.Spec PyProof.Rows L2 EV
variable {S : Sto}
theorem aList3 {a b c : ME} : aList [a, b, c] = aCons a (aCons b (aCons c aNil)) := rfl
theorem v__law_draw_ok {ns : List PyData} {ks : List Int} (hn : ns = ks.map .int) {k : Nat} (hS : Clo S) : ∃ y, IsD 0 y ∧ v__law_draw [.q ns, .d (.int k)] S = .ok (.r S.length) (S ++ [y]) := by
  let c : Int := if h : k < ks.length then ks[k] else k
  let r : Int := if 10 ^ 18 ≤ c then c else 0
  refine ⟨drawC c r 0, ⟨c, r, 0, rfl, Int.le_refl _, Int.le_refl _⟩, ?_⟩
  have e1 : mIte (mBin ltV (mVar 1) (mBlt (one lenV) (aCons (mVar 0) aNil))) (mBin ixVS (mVar 0) (mVar 1)) (mVar 1) [some (.q ns), some (.d (.int k)), none] S = .ok (.d (.int c)) S := by
    subst hn
    by_cases h : k < ks.length
    · have : (k : Int) < ks.length := by omega
      simp [this, h, c]
    · have : ¬ (k : Int) < ks.length := by omega
      simp [this, h, c]
  have pw : powV (.d (.int 10)) (.d (.int 18)) S = .ok (.d (.int (10 ^ 18))) S := by
    unfold powV
    have : (0 : Int) ≤ 18 ∧ (18 : Int) ≤ 1000000 ∧ (10 : Int).natAbs < 2 ^ 64 := by decide
    simp only []
    rw [if_pos this]
    rfl
  have e2 : mIte (mBin geV (mVar 2) (mBin powV (mC (.int 10)) (mC (.int 18)))) (mVar 2) (mC (.int 0)) [some (.q ns), some (.d (.int k)), some (.d (.int c))] S = .ok (.d (.int r)) S := by
    simp only [mIte_eq, mBin_eq, mVar_eq, mC_eq, List.getElem?_cons_zero, List.getElem?_cons_succ, varR_some, RE.bind_ok, pw, geV_int, onB_b]
    by_cases h : (10 : Int) ^ 18 ≤ c
    · have hr : r = c := if_pos h
      rw [hr, decide_eq_true h, if_pos rfl]
    · have hr : r = 0 := if_neg h
      rw [hr, decide_eq_false h, if_neg Bool.false_ne_true]
  have mg : mergeC [] (dispC [Str.ofString "cell", Str.ofString "rest", Str.ofString "at"] [.d (.int c), .d (.int r), .d (.int 0)]) = drawL c r 0 := by
    have hn : ((([] : List (Key × Vl)) ++ drawL c r 0).map (·.1)).Nodup := by
      show ([Sum.inr (Str.ofString "cell"), Sum.inr (Str.ofString "rest"), Sum.inr (Str.ofString "at")] : List Key).Nodup
      simp [ne1, ne2, ne3]
    exact mergeC_new (drawL c r 0) [] hn
  have e3 : mDisp [Str.ofString "cell", Str.ofString "rest", Str.ofString "at"] [mVar 2, mIte (mBin geV (mVar 2) (mBin powV (mC (.int 10)) (mC (.int 18)))) (mVar 2) (mC (.int 0)), mC (.int 0)] [some (.q ns), some (.d (.int k)), some (.d (.int c))] S = .ok (.r S.length) (S ++ [drawC c r 0]) := by
    unfold mDisp
    rw [aList3, aCons_eq, mVar_eq]
    simp only [List.getElem?_cons_zero, List.getElem?_cons_succ, varR_some, RE.bindA_ok, aCons_eq, e2, mC_eq, aNil_eq, RA.bindA_ok, RA.bind_ok, mg]
    rfl
  have ev : m__law_draw [some (.q ns), some (.d (.int k)), none] S = .ret (.r S.length) (S ++ [drawC c r 0]) := by
    unfold m__law_draw
    refine (seq_step (ρ' := [some (.q ns), some (.d (.int k)), some (.d (.int c))]) (S' := S) ?_).trans (ret_of e3)
    rw [sSet_eq, e1]
    rfl
  have e : v__law_draw [.q ns, .d (.int k)] S = retR (m__law_draw (envAt 3 [.q ns, .d (.int k)]) S) S := rfl
  have e0 : envAt 3 [Vl.q ns, .d (.int k)] = [some (.q ns), some (.d (.int k)), none] := rfl
  rw [e, e0, ev, retR_ret]
  have hc : clV S.length (.r S.length) = false := decide_eq_false (Nat.lt_irrefl _)
  unfold EV.cutS
  rw [hc]
  rfl
end K36

namespace K36
open PySem PySem.Spec PyProof.Rows L2 EV
/-! ### the longest run is as long as the levels of all kinds tell -/
def kd' (rows : List Jb) (n : Nat) : Str := (at' rows n).1
theorem lv_up {rows : List Jb} {n j : Nat} (hn : n < rows.length) (hj : j < n) (hk : kd' rows j = kd' rows n) (ha : apart (at' rows j) (at' rows n) = true) : lv rows j + 1 ≤ lv rows n := by
  have hn := get_at hn
  rw [lv_at hn]
  have hlt := (List.getElem?_eq_some_iff.mp hn).1
  have e := get_at (rows := rows) (n := j) (by omega)
  have e2 : (rows.take n)[j]? = some (at' rows j) := by rw [List.getElem?_take_of_lt hj]; exact e
  have m1 := List.mem_of_getElem? (lvL_at e2)
  have e3 : lv rows j = lvl (lvL ((rows.take n).take j)) (at' rows j) := by rw [lv_at e, List.take_take, Nat.min_eq_left (by omega)]
  have hk : ((at' rows j).1 == (at' rows n).1) = true := beq_iff_eq.mpr hk
  have m2 : (at' rows j, lvl (lvL ((rows.take n).take j)) (at' rows j)) ∈ someOf (lvL (rows.take n)) (at' rows n) := List.mem_filter.mpr ⟨m1, by simp only [hk, ha, Bool.and_self]⟩
  have m3 : lv rows j ∈ (someOf (lvL (rows.take n)) (at' rows n)).map (·.2) := by rw [e3]; exact List.mem_map.mpr ⟨_, m2, rfl⟩
  have := topOf_ge m3
  unfold lvl
  omega
theorem lv_of {rows : List Jb} {n : Nat} (hn : n < rows.length) : lv rows n = 0 ∨ ∃ j, j < n ∧ kd' rows j = kd' rows n ∧ apart (at' rows j) (at' rows n) = true ∧ lv rows n = lv rows j + 1 := by
  have hn := get_at hn
  rw [lv_at hn]
  unfold lvl topOf
  by_cases h : (someOf (lvL (rows.take n)) (at' rows n)).map (·.2) = []
  · rw [if_pos h]; left; rfl
  · rw [if_neg h]
    right
    obtain ⟨p, hp, e⟩ := List.mem_map.mp (listMax_mem h)
    obtain ⟨h1, h2⟩ := List.mem_filter.mp hp
    obtain ⟨j, hj, e2⟩ := List.mem_iff_getElem.mp h1
    rw [lvL_len, List.length_take] at hj
    have hjn : j < n := by omega
    have hr := get_at (rows := rows) (n := j) (by omega)
    have e3 : (rows.take n)[j]? = some (at' rows j) := by rw [List.getElem?_take_of_lt hjn]; exact hr
    have e4 := lvL_at e3
    have e5 : (lvL (rows.take n))[j]? = some p := by rw [List.getElem?_eq_getElem (by rw [lvL_len, List.length_take]; omega), e2]
    rw [e5] at e4
    cases e4
    obtain ⟨k1, k2⟩ := Bool.and_eq_true_iff.mp h2
    refine ⟨j, hjn, beq_iff_eq.mp k1, k2, ?_⟩
    rw [← e, lv_at hr, List.take_take, Nat.min_eq_left (by omega)]
    omega
/-- the runs are the rising rows of numbers, each apart from those ahead -/
def IsRun (rows : List Jb) (n : Nat) (run : List Nat) : Prop := (∀ a ∈ run, a < n) ∧ run.Pairwise fun a b => a < b ∧ apart (at' rows a) (at' rows b) = true
theorem run_in {rows : List Jb} : ∀ (n : Nat) (run : List Nat), run ∈ rnP rows n → IsRun rows n run
  | 0, run, h => by
    have h : run = [] := by simpa [rnP] using h
    subst h
    exact ⟨fun a h => (by cases h), List.Pairwise.nil⟩
  | n + 1, run, h => by
    unfold rnP at h
    rcases List.mem_append.mp h with h | h
    · obtain ⟨h1, h2⟩ := run_in n run h
      exact ⟨fun a ha => Nat.lt_succ_of_lt (h1 a ha), h2⟩
    · obtain ⟨r', hr, rfl⟩ := List.mem_map.mp h
      obtain ⟨h1, h2⟩ := List.mem_filter.mp hr
      obtain ⟨h3, h4⟩ := run_in n r' h1
      refine ⟨fun a ha => ?_, ?_⟩
      · rcases List.mem_append.mp ha with ha | ha
        · exact Nat.lt_succ_of_lt (h3 a ha)
        · have : a = n := by simpa using ha
          omega
      · rw [List.pairwise_append]
        refine ⟨h4, List.pairwise_singleton _ _, fun a ha b hb => ?_⟩
        have : b = n := by simpa using hb
        subst this
        exact ⟨h3 a ha, List.all_eq_true.mp h2 a ha⟩
theorem in_run {rows : List Jb} : ∀ (n : Nat) (run : List Nat), IsRun rows n run → run ∈ rnP rows n
  | 0, run, ⟨h1, _⟩ => by
    have : run = [] := by
      cases run with
      | nil => rfl
      | cons a r => have := h1 a List.mem_cons_self; omega
    subst this
    simp [rnP]
  | n + 1, run, ⟨h1, h2⟩ => by
    unfold rnP
    by_cases hl : run.getLast? = some n
    · obtain ⟨r', rfl⟩ := List.getLast?_eq_some_iff.mp hl
      rw [List.pairwise_append] at h2
      obtain ⟨p1, _, p3⟩ := h2
      have p3 := fun a ha => p3 a ha n (by simp)
      refine List.mem_append_right _ (List.mem_map.mpr ⟨r', List.mem_filter.mpr ⟨in_run n r' ⟨fun a ha => (p3 a ha).1, p1⟩, List.all_eq_true.mpr fun a ha => (p3 a ha).2⟩, rfl⟩)
    · refine List.mem_append_left _ (in_run n run ⟨fun a ha => ?_, h2⟩)
      have hne : run ≠ [] := fun e => by rw [e] at ha; cases ha
      obtain ⟨r', b, rfl⟩ : ∃ r' b, run = r' ++ [b] := ⟨run.dropLast, run.getLast hne, (List.dropLast_concat_getLast hne).symm⟩
      have l1 := h1 b (by simp)
      have l2 : b ≠ n := fun e => hl (by rw [← e]; simp)
      rw [List.pairwise_append] at h2
      rcases List.mem_append.mp ha with ha | ha
      · have := (h2.2.2 a ha b (by simp)).1
        omega
      · have : a = b := by simpa using ha
        omega
/-- a run of one kind is no longer than its last one's level tells -/
theorem run_most {rows : List Jb} {z : Str} : ∀ (run : List Nat) (a : Nat), (∀ b ∈ a :: run, b < rows.length ∧ kd' rows b = z) → (a :: run).Pairwise (fun a b => a < b ∧ apart (at' rows a) (at' rows b) = true) →
    ∃ j ∈ a :: run, (run.length : Int) + lv rows a ≤ lv rows j
  | [], a, _, _ => ⟨a, List.mem_cons_self, by simp⟩
  | b :: run, a, h, p => by
    obtain ⟨p1, p2⟩ := List.pairwise_cons.mp p
    obtain ⟨j, hj, e⟩ := run_most run b (fun c hc => h c (List.mem_cons_of_mem _ hc)) p2
    obtain ⟨q1, q2⟩ := p1 b List.mem_cons_self
    have h1 := h a List.mem_cons_self
    have h2 := h b (List.mem_cons_of_mem _ List.mem_cons_self)
    have := lv_up h2.1 q1 (h1.2.trans h2.2.symm) q2
    exact ⟨j, List.mem_cons_of_mem _ hj, by rw [List.length_cons]; omega⟩
/-! ### what the program finds -/
def idx (rows : List Jb) (z : Str) (n : Nat) : List Nat := (List.range n).filter fun i => kd' rows i == z
def fits (rows : List Jb) (n : Nat) : Option Nat → Bool
  | none => true
  | some c => apart (at' rows n) (at' rows c)
def scan (rows : List Jb) : List Nat → Int → Option Nat → List Nat
  | [], _, _ => []
  | n :: r, w, l => if lv rows n = w ∧ fits rows n l = true then n :: scan rows r (w - 1) (some n) else scan rows r w l
theorem idx_succ (rows : List Jb) (z : Str) (m : Nat) : (idx rows z (m + 1)).reverse = if kd' rows m = z then m :: (idx rows z m).reverse else (idx rows z m).reverse := by
  unfold idx
  rw [List.range_succ, List.filter_append]
  by_cases h : kd' rows m = z
  · simp [h]
  · simp [h]
/-- on from the one met last -/
theorem scan_on {rows : List Jb} {z : Str} : ∀ (m : Nat) (w : Int) (c : Nat), m ≤ rows.length → -1 ≤ w → (w = -1 ∨ ∃ j, j < m ∧ kd' rows j = z ∧ lv rows j = w ∧ apart (at' rows j) (at' rows c) = true) →
    ((scan rows (idx rows z m).reverse w (some c)).length : Int) = w + 1
  | 0, w, c, _, _, h => by
    rcases h with h | ⟨j, hj, _⟩
    · subst h; simp [idx, scan]
    · omega
  | m + 1, w, c, hm, hw, h => by
    rw [idx_succ]
    split
    · rename_i hz
      unfold scan
      split
      · rename_i hc
        obtain ⟨c1, c2⟩ := hc
        have nn := lv_nn (rows := rows) m (by omega)
        have ih := scan_on (rows := rows) (z := z) m (w - 1) m (by omega) (by omega) (by
          rcases lv_of (rows := rows) (n := m) (by omega) with e | ⟨j, j1, j2, j3, j4⟩
          · left; omega
          · right; exact ⟨j, j1, by rw [j2, hz], by omega, j3⟩)
        rw [List.length_cons]
        omega
      · rename_i hc
        refine scan_on m w c (by omega) hw ?_
        rcases h with h | ⟨j, j1, j2, j3, j4⟩
        · exact .inl h
        · have : j ≠ m := fun e => hc ⟨by rw [← e]; exact j3, by rw [← e]; exact j4⟩
          exact .inr ⟨j, by omega, j2, j3, j4⟩
    · rename_i hz
      refine scan_on m w c (by omega) hw ?_
      rcases h with h | ⟨j, j1, j2, j3, j4⟩
      · exact .inl h
      · have : j ≠ m := fun e => hz (by rw [← e]; exact j2)
        exact .inr ⟨j, by omega, j2, j3, j4⟩
theorem scan_first {rows : List Jb} {z : Str} : ∀ (m : Nat) (w : Int), m ≤ rows.length → (∃ j, j < m ∧ kd' rows j = z ∧ lv rows j = w) → ((scan rows (idx rows z m).reverse w none).length : Int) = w + 1
  | 0, w, _, ⟨j, hj, _⟩ => by omega
  | m + 1, w, hm, ⟨j, j1, j2, j3⟩ => by
    rw [idx_succ]
    split
    · rename_i hz
      unfold scan
      split
      · rename_i hc
        obtain ⟨c1, c2⟩ := hc
        have nn := lv_nn (rows := rows) m (by omega)
        have ih := scan_on (rows := rows) (z := z) m (w - 1) m (by omega) (by omega) (by
          rcases lv_of (rows := rows) (n := m) (by omega) with e | ⟨i, i1, i2, i3, i4⟩
          · left; omega
          · right; exact ⟨i, i1, by rw [i2, hz], by omega, i3⟩)
        rw [List.length_cons]
        omega
      · rename_i hc
        have : j ≠ m := fun e => hc ⟨by rw [← e]; exact j3, rfl⟩
        exact scan_first m w (by omega) ⟨j, by omega, j2, j3⟩
    · rename_i hz
      have : j ≠ m := fun e => hz (by rw [← e]; exact j2)
      exact scan_first m w (by omega) ⟨j, by omega, j2, j3⟩
/-- those found are numbers of the kind, falling, each ahead of the one met last -/
theorem scan_sub (rows : List Jb) : ∀ (xs : List Nat) (w : Int) (l : Option Nat), (scan rows xs w l).Sublist xs
  | [], _, _ => List.Sublist.refl _
  | n :: r, w, l => by
    unfold scan
    split
    · exact (scan_sub rows r (w - 1) (some n)).cons_cons n
    · exact (scan_sub rows r w l).cons n
theorem scan_apart {rows : List Jb} {z : Str} (lh : ∀ n, n < rows.length → (at' rows n).2.1 ≤ (at' rows n).2.2) : ∀ (xs : List Nat) (w : Int) (l : Option Nat), (∀ n ∈ xs, n < rows.length ∧ kd' rows n = z) → (∀ c, l = some c → kd' rows c = z) →
    (∀ a ∈ scan rows xs w l, ∀ c, l = some c → (at' rows a).2.2 < (at' rows c).2.1) ∧ (scan rows xs w l).Pairwise fun b a => (at' rows a).2.2 < (at' rows b).2.1
  | [], _, _, _, _ => ⟨fun a h => (by cases h), List.Pairwise.nil⟩
  | n :: r, w, l, h, hl => by
    unfold scan
    have hr : ∀ m ∈ r, m < rows.length ∧ kd' rows m = z := fun m hm => h m (List.mem_cons_of_mem _ hm)
    obtain ⟨n1, n2⟩ := h n List.mem_cons_self
    split
    · rename_i hc
      obtain ⟨a1, a2⟩ := scan_apart lh r (w - 1) (some n) hr (fun c e => by cases e; exact n2)
      refine ⟨fun a ha c e => ?_, List.pairwise_cons.mpr ⟨fun a ha => a1 a ha n rfl, a2⟩⟩
      subst e
      have hc2 : apart (at' rows n) (at' rows c) = true := hc.2
      have k : kd' rows c = z := hl c rfl
      have lt : (at' rows n).2.2 < (at' rows c).2.1 := by
        unfold apart at hc2
        unfold kd' at k n2
        rw [k, n2] at hc2
        simpa using hc2
      rcases List.mem_cons.mp ha with rfl | ha
      · exact lt
      · have := a1 a ha n rfl
        have := lh n n1
        omega
    · exact scan_apart lh r w l hr hl
end K36

namespace K36
open PySem PySem.Spec PyProof.Rows L2 EV
def top' (rows : List Jb) (z : Str) : Int := listMax 0 ((idx rows z rows.length).map (lv rows))
def foundOf (rows : List Jb) (z : Str) : List Nat := scan rows (idx rows z rows.length).reverse (top' rows z) none
def kindsOf (rows : List Jb) : List Str := sortU ltZ (rows.map (·.1))
def allF (rows : List Jb) : List Nat := ((kindsOf rows).map (foundOf rows)).flatten
theorem idx_mem {rows : List Jb} {z : Str} {n i : Nat} : i ∈ idx rows z n ↔ i < n ∧ kd' rows i = z := by
  unfold idx
  rw [List.mem_filter, List.mem_range, beq_iff_eq]
theorem kinds_mem {rows : List Jb} {i : Nat} (h : i < rows.length) : kd' rows i ∈ kindsOf rows := by
  unfold kindsOf
  rw [sortU_mem]
  exact List.mem_map.mpr ⟨at' rows i, List.mem_of_getElem? (get_at h), rfl⟩
theorem kinds_has {rows : List Jb} {z : Str} (h : z ∈ kindsOf rows) : ∃ i, i < rows.length ∧ kd' rows i = z := by
  unfold kindsOf at h
  rw [sortU_mem] at h
  obtain ⟨r, hr, e⟩ := List.mem_map.mp h
  obtain ⟨i, hi, e2⟩ := List.mem_iff_getElem.mp hr
  have := get_at hi
  rw [List.getElem?_eq_getElem hi, e2] at this
  refine ⟨i, hi, ?_⟩
  unfold kd'
  rw [← Option.some.inj this]
  exact e
theorem kinds_nd (rows : List Jb) : (kindsOf rows).Nodup := up_nodup lt_Z (sortU_up lt_Z _)
theorem found_len {rows : List Jb} {z : Str} (h : z ∈ kindsOf rows) : ((foundOf rows z).length : Int) = top' rows z + 1 := by
  obtain ⟨i, hi, e⟩ := kinds_has h
  have ne : (idx rows z rows.length).map (lv rows) ≠ [] := fun e2 => by
    have m : lv rows i ∈ (idx rows z rows.length).map (lv rows) := List.mem_map.mpr ⟨i, idx_mem.mpr ⟨hi, e⟩, rfl⟩
    rw [e2] at m
    cases m
  obtain ⟨j, hj, e2⟩ := List.mem_map.mp (listMax_mem ne)
  obtain ⟨j1, j2⟩ := idx_mem.mp hj
  exact scan_first rows.length (top' rows z) (Nat.le_refl _) ⟨j, j1, j2, e2⟩
theorem sum_one {Z : List Str} {k : Str} (g : Str → Nat) (nd : Z.Nodup) (h : k ∈ Z) : (Z.map fun z => g z + (if k = z then 1 else 0)).sum = (Z.map g).sum + 1 := by
  induction Z with
  | nil => cases h
  | cons z Z ih =>
    obtain ⟨n1, n2⟩ := List.nodup_cons.mp nd
    rw [List.map_cons, List.map_cons, List.sum_cons, List.sum_cons]
    rcases List.mem_cons.mp h with e | h
    · subst e
      have : (Z.map fun z => g z + (if k = z then 1 else 0)) = Z.map g := List.map_congr_left fun z hz => by
        have : ¬ k = z := fun e => n1 (e ▸ hz)
        simp [this]
      rw [this, if_pos rfl]
      omega
    · have : ¬ k = z := fun e => n1 (e ▸ h)
      rw [ih n2 h, if_neg this]
      omega
theorem by_kinds (rows : List Jb) {Z : List Str} (nd : Z.Nodup) : ∀ L : List Nat, (∀ a ∈ L, kd' rows a ∈ Z) → L.length = (Z.map fun z => (L.filter fun a => kd' rows a == z).length).sum
  | [], _ => by
    clear nd
    induction Z with
    | nil => rfl
    | cons z Z ih =>
      rw [List.map_cons, List.sum_cons, ← ih (fun a h => by cases h)]
      rfl
  | a :: L, h => by
    have ih := by_kinds rows nd L fun b hb => h b (List.mem_cons_of_mem _ hb)
    have e : (Z.map fun z => ((a :: L).filter fun a => kd' rows a == z).length) = Z.map fun z => (L.filter fun a => kd' rows a == z).length + (if kd' rows a = z then 1 else 0) := List.map_congr_left fun z _ => by
      rw [List.filter_cons]
      by_cases e : kd' rows a = z
      · simp [e]
      · simp [e]
    rw [e, sum_one _ nd (h a List.mem_cons_self), ← ih, List.length_cons]
theorem sum_le {α : Type} (f g : α → Nat) : ∀ L : List α, (∀ a ∈ L, f a ≤ g a) → (L.map f).sum ≤ (L.map g).sum
  | [], _ => Nat.le_refl _
  | a :: L, h => by
    rw [List.map_cons, List.map_cons, List.sum_cons, List.sum_cons]
    have := h a List.mem_cons_self
    have := sum_le f g L fun b hb => h b (List.mem_cons_of_mem _ hb)
    omega
theorem allF_len (rows : List Jb) : (allF rows).length = ((kindsOf rows).map fun z => (foundOf rows z).length).sum := by
  unfold allF
  rw [List.length_flatten, List.map_map]
  rfl
theorem run_short {rows : List Jb} {run : List Nat} (h : IsRun rows rows.length run) : run.length ≤ (allF rows).length := by
  rw [allF_len, by_kinds rows (kinds_nd rows) run fun a ha => kinds_mem (h.1 a ha)]
  refine sum_le _ _ _ fun z hz => ?_
  have fl := found_len hz
  have sub : (run.filter fun a => kd' rows a == z).Sublist run := List.filter_sublist
  have pw := h.2.sublist sub
  have al : ∀ b ∈ run.filter fun a => kd' rows a == z, b < rows.length ∧ kd' rows b = z := fun b hb => by
    obtain ⟨b1, b2⟩ := List.mem_filter.mp hb
    exact ⟨h.1 b b1, beq_iff_eq.mp b2⟩
  cases e : run.filter fun a => kd' rows a == z with
  | nil => exact Nat.zero_le _
  | cons a r =>
    rw [e] at pw al
    obtain ⟨j, hj, le⟩ := run_most r a al pw
    obtain ⟨j1, j2⟩ := al j hj
    have nn := lv_nn (rows := rows) a (al a List.mem_cons_self).1
    have mx : lv rows j ≤ top' rows z := listMax_ge _ (List.mem_map.mpr ⟨j, idx_mem.mpr ⟨j1, j2⟩, rfl⟩)
    rw [List.length_cons]
    omega
theorem found_sub (rows : List Jb) (z : Str) : (foundOf rows z).Sublist (idx rows z rows.length).reverse := scan_sub rows _ _ _
theorem found_mem {rows : List Jb} {z : Str} {i : Nat} (h : i ∈ foundOf rows z) : i < rows.length ∧ kd' rows i = z :=
  idx_mem.mp (List.mem_reverse.mp ((found_sub rows z).subset h))
theorem found_down (rows : List Jb) (z : Str) : (foundOf rows z).Pairwise fun b a => a < b := by
  refine List.Pairwise.sublist (found_sub rows z) ?_
  rw [List.pairwise_reverse]
  unfold idx
  exact List.Pairwise.filter _ List.pairwise_lt_range
theorem found_ap {rows : List Jb} (J : JOk rows) (z : Str) : (foundOf rows z).Pairwise fun b a => (at' rows a).2.2 < (at' rows b).2.1 :=
  (scan_apart (fun n hn => J.lohi _ (List.mem_of_getElem? (get_at hn))) _ _ _ (fun n hn => idx_mem.mp (List.mem_reverse.mp hn)) (fun c e => by cases e)).2
theorem allF_mem {rows : List Jb} {i : Nat} : i ∈ allF rows ↔ i ∈ foundOf rows (kd' rows i) := by
  unfold allF
  rw [List.mem_flatten]
  constructor
  · rintro ⟨l, hl, hi⟩
    obtain ⟨z, hz, rfl⟩ := List.mem_map.mp hl
    rw [(found_mem hi).2]
    exact hi
  · intro h
    exact ⟨_, List.mem_map.mpr ⟨_, kinds_mem (found_mem h).1, rfl⟩, h⟩
theorem allF_nd (rows : List Jb) : (allF rows).Nodup := by
  unfold allF List.Nodup
  rw [List.pairwise_flatten]
  refine ⟨fun l hl => ?_, ?_⟩
  · obtain ⟨z, hz, rfl⟩ := List.mem_map.mp hl
    exact (found_down rows z).imp fun {a b} h e => by omega
  · rw [List.pairwise_map]
    refine (kinds_nd rows).imp fun {z1 z2} ne a ha b hb e => ?_
    subst e
    exact ne ((found_mem ha).2.symm.trans (found_mem hb).2)
/-- what is found, as a run -/
def bestRun (rows : List Jb) : List Nat := (List.range rows.length).filter fun i => decide (i ∈ allF rows)
theorem best_perm (rows : List Jb) : (bestRun rows).Perm (allF rows) := by
  refine (List.perm_ext_iff_of_nodup ?_ (allF_nd rows)).mpr fun i => ?_
  · exact List.Pairwise.filter _ List.nodup_range
  · unfold bestRun
    rw [List.mem_filter, List.mem_range, decide_eq_true_eq]
    exact ⟨fun h => h.2, fun h => ⟨(found_mem (allF_mem.mp h)).1, h⟩⟩
theorem best_run {rows : List Jb} (J : JOk rows) : IsRun rows rows.length (bestRun rows) := by
  have mem : ∀ {i}, i ∈ bestRun rows → i < rows.length ∧ i ∈ foundOf rows (kd' rows i) := fun {i} h => by
    obtain ⟨h1, h2⟩ := List.mem_filter.mp h
    exact ⟨List.mem_range.mp h1, allF_mem.mp (of_decide_eq_true h2)⟩
  refine ⟨fun a ha => (mem ha).1, ?_⟩
  have p : (bestRun rows).Pairwise fun a b => a < b := List.Pairwise.filter _ List.pairwise_lt_range
  refine p.imp_of_mem fun {a b} ha hb lt => ⟨lt, ?_⟩
  unfold apart
  by_cases e : (at' rows a).1 = (at' rows b).1
  · have fa := (mem ha).2
    have fb := (mem hb).2
    have ek : kd' rows b = kd' rows a := e.symm
    rw [ek] at fb
    have pw := (found_down rows (kd' rows a)).and (found_ap J (kd' rows a))
    obtain ⟨i, hi, ei⟩ := List.mem_iff_getElem.mp fa
    obtain ⟨j, hj, ej⟩ := List.mem_iff_getElem.mp fb
    rw [List.pairwise_iff_getElem] at pw
    rcases Nat.lt_trichotomy i j with h | h | h
    · have := (pw i j hi hj h).1
      rw [ei, ej] at this
      omega
    · subst h
      rw [ei] at ej
      omega
    · have := (pw j i hj hi h).2
      rw [ei, ej] at this
      simp [this]
  · simp [e]
/-- the law's own: the most of all runs -/
theorem most_is {rows : List Jb} (J : JOk rows) : listMax 0 ((rnP rows rows.length).map fun run => (run.length : Int)) = ((allF rows).length : Int) := by
  refine (listMax_is (d := 0) ?_ fun y hy => ?_).symm
  · exact List.mem_map.mpr ⟨bestRun rows, in_run _ _ (best_run J), by rw [(best_perm rows).length_eq]⟩
  · obtain ⟨run, hr, rfl⟩ := List.mem_map.mp hy
    have := run_short (run_in _ _ hr)
    omega
theorem runs_ne (rows : List Jb) : ∀ n, rnP rows n ≠ []
  | 0 => by simp [rnP]
  | n + 1 => by
    unfold rnP
    intro e
    exact runs_ne rows n (List.append_eq_nil_iff.mp e).1
end K36

namespace K36
open PySem PySem.Spec PyProof.Rows L2 EV
variable {S : Sto}
theorem tupleV_lst {ds : List PyData} : tupleV (.d (.list ds)) S = .ok (.d (.tuple ds)) S := by
  unfold tupleV
  simp only [seqV_lst, mkTup_eq, allD_map, tupR_some]
theorem set_of {i : Nat} {m : ME} {ρ : Nv} {x : Vl} {S' : Sto} (h : m ρ S = .ok x S') : sSet i m ρ S = .nx (ρ.set i (some x)) S' := by rw [sSet_eq, h]; rfl
/-- one draw, as an expression -/
theorem take_c {ρ : Nv} {l b : Nat} {x : Cell} (c : Nat) (h0 : ρ[0]? = some (some (.r l))) (h : S[l]? = some x) (hd : IsD b x) (hb : b ≤ 100000) (hc : 0 < c ∧ c ≤ 1000) :
    ∃ (n : Nat) (y : Cell), n < c ∧ IsD (b + 1) y ∧ (S.set l y)[l]? = some y ∧ mCall 2 v__law_take (aCons (mVar 0) (aCons (mC (.int c)) aNil)) ρ S = .ok (.d (.int n)) (S.set l y) := by
  obtain ⟨n, y, h1, h2, h3⟩ := take_nat h hd hb hc.1 hc.2
  refine ⟨n, y, h1, h2, at_set h, ?_⟩
  simp only [mCall_eq, aCons_eq, mVar_eq, mC_eq, aNil_eq, h0, varR_some, RE.bindA_ok, RA.bindA_ok, RA.bind_ok, List.length_cons, List.length_nil, Nat.zero_add, Nat.reduceAdd, if_true, h3, RE.ok'_ok]
theorem take_v {ρ : Nv} {l b c i : Nat} {x : Cell} (h0 : ρ[0]? = some (some (.r l))) (hi : ρ[i]? = some (some (.d (.int c)))) (h : S[l]? = some x) (hd : IsD b x) (hb : b ≤ 100000) (hc : 0 < c ∧ c ≤ 1000) :
    ∃ (n : Nat) (y : Cell), n < c ∧ IsD (b + 1) y ∧ (S.set l y)[l]? = some y ∧ mCall 2 v__law_take (aCons (mVar 0) (aCons (mVar i) aNil)) ρ S = .ok (.d (.int n)) (S.set l y) := by
  obtain ⟨n, y, h1, h2, h3⟩ := take_nat h hd hb hc.1 hc.2
  refine ⟨n, y, h1, h2, at_set h, ?_⟩
  simp only [mCall_eq, aCons_eq, mVar_eq, aNil_eq, h0, hi, varR_some, RE.bindA_ok, RA.bindA_ok, RA.bind_ok, List.length_cons, List.length_nil, Nat.zero_add, Nat.reduceAdd, if_true, h3, RE.ok'_ok]
theorem clo_draw {y : Cell} {b : Nat} (hS : Clo S) (hy : IsD b y) : Clo (S ++ [y]) := by
  obtain ⟨c, r, a, rfl, _, _⟩ := hy
  exact clo_app hS rfl
theorem par_of {i j : Nat} {as : MA} {ρ : Nv} {x y : Vl} {S' : Sto} (h : as ρ S = .ok [x, y] S') : sPar i j as ρ S = .nx ((ρ.set i (some x)).set j (some y)) S' := by
  unfold sPar
  rw [h]
theorem short_all : ∀ n : Fin 100, (PyData.shown (.int (n.val : Int))).length ≤ 8 := by decide +kernel
theorem short_int {i : Int} (h0 : 0 ≤ i) (h1 : i ≤ 99) : (PyData.shown (.int i)).length ≤ 8 := by
  have := short_all ⟨i.toNat, by omega⟩
  simp only [Int.toNat_of_nonneg h0] at this
  exact this
/-- a row that's told -/
def RowP (d : PyData) : Prop := ∃ (z : Str) (n v : Int), d = .tuple [.str z, .int n, .int v] ∧ NameOk z ∧ 0 ≤ n ∧ n ≤ 99 ∧ 0 ≤ v ∧ v ≤ 99
theorem weight_int {i : Int} (h0 : 0 ≤ i) (h1 : i ≤ 99) : (PyData.int i).weight ≤ 100 := by
  have : (PyData.int i).weight = if i == 0 then 0 else i.natAbs.log2 + 1 := by simp only [PyData.weight]
  rw [this]
  split
  · omega
  · have := Nat.log2_le_self i.natAbs
    omega
theorem showable_int {i : Int} (h0 : 0 ≤ i) (h1 : i ≤ 99) : (PyData.int i).showable = true := by
  have : (PyData.int i).showable = decide (i.natAbs.log2 < 1920) := by simp only [PyData.showable]
  rw [this, decide_eq_true_eq]
  have := Nat.log2_le_self i.natAbs
  omega
theorem rows_facts : ∀ ds : List PyData, (∀ d ∈ ds, RowP d) → PyData.canLayAll0 ds = true ∧ PyData.showableAll ds = true ∧ PyData.depthAll ds ≤ 1 ∧ PyData.leavesShortAll 8 ds = true ∧ PyData.weightAll ds ≤ 300 * ds.length
  | [], _ => ⟨rfl, rfl, Nat.zero_le _, rfl, Nat.zero_le _⟩
  | d :: ds, h => by
    obtain ⟨a1, a2, a3, a4, a5⟩ := rows_facts ds fun d' hd => h d' (List.mem_cons_of_mem _ hd)
    obtain ⟨z, n, v, rfl, nz, n0, n1, v0, v1⟩ := h d List.mem_cons_self
    have wn := weight_int n0 n1
    have wv := weight_int v0 v1
    have sn := showable_int n0 n1
    have sv := showable_int v0 v1
    have ln := short_int n0 n1
    have lv := short_int v0 v1
    have zl : z.cps.size ≤ 8 := nz.2.1
    have zs : (z.cps.toList.all fun c => decide (c < 16 ^ 8)) = true := List.all_eq_true.mpr fun c hc => decide_eq_true (by have := nz.2.2 c hc; omega)
    have e1 : (PyData.tuple [.str z, .int n, .int v]).canLay0 = true := by simp [PyData.canLay0, PyData.canLayAll0, nz.strOk]
    have e2 : (PyData.tuple [.str z, .int n, .int v]).showable = true := by
      have : (PyData.tuple [.str z, .int n, .int v]).showable = ((PyData.str z).showable && ((PyData.int n).showable && ((PyData.int v).showable && true))) := by simp only [PyData.showable, PyData.showableAll]
      rw [this, sn, sv]
      simp only [PyData.showable, Bool.and_self]
    have e3 : (PyData.tuple [.str z, .int n, .int v]).depth = 1 := by simp [PyData.depth, PyData.depthAll]
    have e4 : (PyData.tuple [.str z, .int n, .int v]).leavesShort 8 = true := by
      simp only [PyData.leavesShort, PyData.leavesShortAll, zs, decide_eq_true ln, decide_eq_true lv, Bool.and_self]
    have e5 : (PyData.tuple [.str z, .int n, .int v]).weight = z.cps.size + 1 + ((PyData.int n).weight + 1 + ((PyData.int v).weight + 1 + 0)) := by
      simp only [PyData.weight, PyData.weightAll]
    refine ⟨?_, ?_, ?_, ?_, ?_⟩
    · simp only [PyData.canLayAll0, e1, a1, Bool.and_self]
    · simp only [PyData.showableAll, e2, a2, Bool.and_self]
    · simp only [PyData.depthAll, e3]; omega
    · simp only [PyData.leavesShortAll, e4, a4, Bool.and_self]
    · simp only [PyData.weightAll, e5, List.length_cons]; omega
theorem reprOk_rows {ds : List PyData} (h : ∀ d ∈ ds, RowP d) (hl : ds.length ≤ 12) : reprOk (.tuple ds) = true := by
  obtain ⟨a1, a2, a3, a4, a5⟩ := rows_facts ds h
  have c : (PyData.tuple ds).canLay0 = true := by simp only [PyData.canLay0]; exact a1
  have s : (PyData.tuple ds).showable = true := by simp only [PyData.showable]; exact a2
  have d : (PyData.tuple ds).depth ≤ 40 := by
    have : (PyData.tuple ds).depth = PyData.depthAll ds + 1 := rfl
    omega
  have n : (PyData.tuple ds).hasDict = false := PyData.hasDict_of_canLay _ c
  have l : (PyData.tuple ds).shown.length ≤ 1000000 := by
    have q := PyData.shown_le 8 (Nat.le_refl _) (.tuple ds) (by simp only [PyData.leavesShort]; exact a4)
    have w : (PyData.tuple ds).weight = PyData.weightAll ds := by simp only [PyData.weight]
    omega
  unfold reprOk
  rw [c, s, n, decide_eq_true d, decide_eq_true l]
  rfl
/-! what the tools are -/
theorem putT_in {κ : Type} [DecidableEq κ] {kvs : List (κ × Int)} {k : κ} {v : Int} {P : Int → Prop} (h : ∀ p ∈ kvs, P p.2) (hv : P v) : ∀ p ∈ putT kvs k v, P p.2 := by
  intro p hp
  unfold putT at hp
  split at hp
  · obtain ⟨q, hq, rfl⟩ := List.mem_map.mp hp
    split
    · exact hv
    · exact h q hq
  · rcases List.mem_append.mp hp with hp | hp
    · exact h p hp
    · have : p = (k, v) := by simpa using hp
      rw [this]; exact hv
theorem lookT_in {κ : Type} [DecidableEq κ] {kvs : List (κ × Int)} {k : κ} {v : Int} {P : Int → Prop} (h : ∀ p ∈ kvs, P p.2) (e : lookT kvs k = some v) : P v := by
  unfold lookT at e
  cases e2 : kvs.find? fun kv => decide (kv.1 = k) with
  | none => rw [e2] at e; cases e
  | some q =>
    rw [e2] at e
    cases e
    exact h q (List.mem_of_find?_eq_some e2)
end K36

namespace K36
open PySem PySem.Spec PyProof.Rows L2 EV
variable {S : Sto}
noncomputable def bodyI : MS := sIf (mAnd (mBin (eqVS false) (mBin ixVS (mVar 1) (mVar 7)) (mVar 5)) (mOr (mBin isNV (mVar 6) (mC .none)) (mTru (mCall 2 v_are_apart (aCons (mBin ixVS (mVar 0) (mVar 7)) (aCons (mBin ixVS (mVar 0) (mVar 6)) aNil)))))) (sSeq (sExpr (mMeth "list" appV (mVar 2) (aCons (mVar 7) aNil)))
  (sSeq (sSet 6 (mVar 7))
  (sSet 5 (mBin subV (mVar 5) (mC (.int 1)))))) sNil
def lastV : Option Nat → Vl
  | none => .d .none
  | some c => .d (.int c)
def rowsV (rows : List Jb) : Vl := .d (.list (rows.map jD))
def lvsV (rows : List Jb) : Vl := .d (.list ((lvL rows).map fun p => .int p.2))
def TT (S : Sto) (acc : List Nat) : Sto := S ++ [.lst (acc.map fun (n : Nat) => .d (.int n))]
theorem ix_rows {rows : List Jb} {n : Nat} (h : n < rows.length) : ixVS (rowsV rows) (.d (.int n)) S = .ok (.d (jD (at' rows n))) S := by
  unfold rowsV
  rw [ixVS_lst, EV.atI_nat, List.getElem?_map, get_at h]
  rfl
theorem ix_lvs {rows : List Jb} {n : Nat} (h : n < rows.length) : ixVS (lvsV rows) (.d (.int n)) S = .ok (.d (.int (lv rows n))) S := by
  unfold lvsV
  rw [ixVS_lst, EV.atI_nat, List.getElem?_map, lvL_at (get_at h), lv_at (get_at h)]
  rfl
theorem cond_ok {rows : List Jb} {n : Nat} {w : Int} {l : Option Nat} {a2 a3 a4 a8 : Option Vl} (hn : n < rows.length) (hl : ∀ c, l = some c → c < rows.length) :
    mAnd (mBin (eqVS false) (mBin ixVS (mVar 1) (mVar 7)) (mVar 5)) (mOr (mBin isNV (mVar 6) (mC .none)) (mTru (mCall 2 v_are_apart (aCons (mBin ixVS (mVar 0) (mVar 7)) (aCons (mBin ixVS (mVar 0) (mVar 6)) aNil)))))
      [some (rowsV rows), some (lvsV rows), a2, a3, a4, some (.d (.int w)), some (lastV l), some (.d (.int n)), a8] S = .ok (.d (.bool (decide (lv rows n = w ∧ fits rows n l = true)))) S := by
  have b1 : ixVS (lvsV rows) (.d (.int n)) S = .ok (.d (.int (lv rows n))) S := ix_lvs hn
  rw [mAnd_eq, mBin_eq, mBin_eq]
  simp only [mVar_eq, List.getElem?_cons_zero, List.getElem?_cons_succ, varR_some, RE.bind_ok, b1, eqVS_int, onB_b]
  by_cases e : lv rows n = w
  · have e' : (lv rows n == w) = true := by simp [e]
    simp only [e', Bool.false_eq_true, if_false, if_true]
    cases l with
    | none =>
      have q : isNV (lastV none) (.d .none) S = .ok (.d (.bool true)) S := rfl
      simp only [mOr_eq, mBin_eq, mVar_eq, mC_eq, List.getElem?_cons_zero, List.getElem?_cons_succ, varR_some, RE.bind_ok, q, onB_b, if_true]
      simp [e, fits]
    | some c =>
      have hc := hl c rfl
      have q : isNV (lastV (some c)) (.d .none) S = .ok (.d (.bool false)) S := rfl
      have q2 : ixVS (rowsV rows) (lastV (some c)) S = .ok (.d (jD (at' rows c))) S := ix_rows hc
      simp only [mOr_eq, mBin_eq, mVar_eq, mC_eq, mTru_eq, mCall_eq, aCons_eq, aNil_eq, List.getElem?_cons_zero, List.getElem?_cons_succ, varR_some, RE.bind_ok, RE.bindA_ok, RA.bindA_ok, RA.bind_ok, q, q2, ix_rows hn, onB_b, Bool.false_eq_true, if_false, List.length_cons, List.length_nil, Nat.zero_add, Nat.reduceAdd, if_true, v_are_apart_ok, RE.ok'_ok, truV_b, truR_some]
      simp [e, fits]
  · have e' : (lv rows n == w) = false := by simp [e]
    simp only [e', Bool.false_eq_true, if_false]
    simp [e]
theorem inner_ok {rows : List Jb} (a3 a4 a8 : Option Vl) : ∀ (xs acc : List Nat) (w : Int) (l : Option Nat) (a7 : Option Vl), (∀ n ∈ xs, n < rows.length) → (∀ c, l = some c → c < rows.length) → acc.length + xs.length ≤ 1000 →
    ∃ (w' : Int) (l' : Option Nat) (b7 : Option Vl), forL (gNm 7) bodyI [] (xs.map fun (n : Nat) => .d (.int n)) [some (rowsV rows), some (lvsV rows), some (.r S.length), a3, a4, some (.d (.int w)), some (lastV l), a7, a8] (TT S acc) =
      .nx [some (rowsV rows), some (lvsV rows), some (.r S.length), a3, a4, some (.d (.int w')), some (lastV l'), b7, a8] (TT S (acc ++ scan rows xs w l))
  | [], acc, w, l, a7, _, _, _ => ⟨w, l, a7, by rw [List.map_nil, forL_nil]; simp [scan]⟩
  | n :: xs, acc, w, l, a7, hx, hl, hz => by
    have hn := hx n List.mem_cons_self
    have hx' : ∀ m ∈ xs, m < rows.length := fun m hm => hx m (List.mem_cons_of_mem _ hm)
    rw [List.length_cons] at hz
    rw [List.map_cons, forL_cons]
    have c := cond_ok (S := TT S acc) (w := w) (l := l) (a2 := some (.r S.length)) (a3 := a3) (a4 := a4) (a8 := a8) hn hl
    simp only [gNm_eq, List.set_cons_succ, List.set_cons_zero]
    by_cases e : lv rows n = w ∧ fits rows n l = true
    · rw [decide_eq_true e] at c
      have at0' : (TT S acc)[S.length]? = some (.lst (acc.map fun (n : Nat) => .d (.int n))) := at0
      have lt : (acc.map fun (n : Nat) => Vl.d (.int n)).length < 1000000 := by rw [List.length_map]; omega
      have ap := appV_at (y := .d (.int n)) at0' lt
      have st : (TT S acc).set S.length (.lst ((acc.map fun (n : Nat) => Vl.d (.int n)) ++ [.d (.int n)])) = TT S (acc ++ [n]) := by
        unfold TT
        rw [set0, List.map_append]
        rfl
      rw [st] at ap
      have b : bodyI [some (rowsV rows), some (lvsV rows), some (.r S.length), a3, a4, some (.d (.int w)), some (lastV l), some (.d (.int n)), a8] (TT S acc) =
          .nx [some (rowsV rows), some (lvsV rows), some (.r S.length), a3, a4, some (.d (.int (w - 1))), some (lastV (some n)), some (.d (.int n)), a8] (TT S (acc ++ [n])) := by
        unfold bodyI
        refine (if_yes c).trans ?_
        refine (seq_step (ρ' := [some (rowsV rows), some (lvsV rows), some (.r S.length), a3, a4, some (.d (.int w)), some (lastV l), some (.d (.int n)), a8]) (S' := TT S (acc ++ [n])) ?_).trans ?_
        · rw [sExpr_eq, mMeth_eq]
          simp only [mVar_eq, aCons_eq, aNil_eq, List.getElem?_cons_zero, List.getElem?_cons_succ, varR_some, RE.bind_ok, RE.bindA_ok, RA.bindA_ok, RA.bind_ok, rty_lst at0', if_true, ap, RE.toS_ok]
        refine (seq_step (set_of (x := .d (.int n)) (S' := TT S (acc ++ [n])) (by simp only [mVar_eq, List.getElem?_cons_zero, List.getElem?_cons_succ, varR_some]))).trans ?_
        refine (set_of (x := .d (.int (w - 1))) (S' := TT S (acc ++ [n])) ?_).trans rfl
        simp only [List.set_cons_succ, List.set_cons_zero, mBin_eq, mVar_eq, mC_eq, List.getElem?_cons_zero, List.getElem?_cons_succ, varR_some, RE.bind_ok, subV_int]
      rw [b]
      simp only []
      obtain ⟨w', l', b7, ih⟩ := inner_ok a3 a4 a8 xs (acc ++ [n]) (w - 1) (some n) (some (.d (.int n))) hx' (fun c e => by cases e; exact hn) (by rw [List.length_append, List.length_cons, List.length_nil]; omega)
      refine ⟨w', l', b7, ?_⟩
      have es : scan rows (n :: xs) w l = n :: scan rows xs (w - 1) (some n) := by
        rw [scan.eq_2, if_pos e]
      rw [ih, es, List.append_assoc]
      rfl
    · rw [decide_eq_false e] at c
      have b : bodyI [some (rowsV rows), some (lvsV rows), some (.r S.length), a3, a4, some (.d (.int w)), some (lastV l), some (.d (.int n)), a8] (TT S acc) =
          .nx [some (rowsV rows), some (lvsV rows), some (.r S.length), a3, a4, some (.d (.int w)), some (lastV l), some (.d (.int n)), a8] (TT S acc) := by
        unfold bodyI
        exact (if_no c).trans rfl
      rw [b]
      simp only []
      obtain ⟨w', l', b7, ih⟩ := inner_ok a3 a4 a8 xs acc w l (some (.d (.int n))) hx' hl (by omega)
      refine ⟨w', l', b7, ?_⟩
      have es : scan rows (n :: xs) w l = scan rows xs w l := by
        rw [scan.eq_2, if_neg e]
      rw [ih, es]
end K36

namespace K36
open PySem PySem.Spec PyProof.Rows L2 EV
variable {S : Sto}
noncomputable def bodyO : MS := sSeq (sSet 4 (mLc (gUn 2 (gsCons (gNm 7) (gsCons (gNm 8) gsNil))) (iEnumM (aCons (mVar 0) aNil)) (mBin (eqVS false) (mBin ixVS (mVar 8) (mC (.int 0))) (mVar 3)) (mVar 7) [7, 8]))
  (sSeq (sSet 5 (mBlt (one maxLV) (aCons (mLc (gNm 7) (iSeq (mVar 4)) mYes (mBin ixVS (mVar 1) (mVar 7)) [7]) aNil)))
  (sSeq (sSet 6 (mC .none))
  (sFor (gNm 7) (iSeq (mUn revV (mVar 4))) bodyI)))
theorem enum_rows (rows : List Jb) : enumL ((rows.map jD).map .d) = (List.range rows.length).map fun (i : Nat) => .d (.tuple [.int i, jD (at' rows i)]) := by
  refine List.ext_getElem? fun i => ?_
  rw [List.getElem?_map]
  by_cases h : i < rows.length
  · rw [List.getElem?_range h, enumL_get, List.getElem?_map, List.getElem?_map, get_at h]
    show some (mkTupU [.d (.int i), .d (jD (at' rows i))]) = _
    rw [enumU]
    rfl
  · rw [List.getElem?_eq_none (by rw [enumL_len, List.length_map, List.length_map]; omega), List.getElem?_eq_none (by rw [List.length_range]; omega)]
    rfl
def numsV (ns : List Nat) : Vl := .d (.list (ns.map fun (n : Nat) => .int n))
theorem own_ok {rows : List Jb} {z : Str} {a1 a2 a4 a5 a6 a7 a8 : Option Vl} (hl : rows.length ≤ 1000) :
    mLc (gUn 2 (gsCons (gNm 7) (gsCons (gNm 8) gsNil))) (iEnumM (aCons (mVar 0) aNil)) (mBin (eqVS false) (mBin ixVS (mVar 8) (mC (.int 0))) (mVar 3)) (mVar 7) [7, 8] [some (rowsV rows), a1, a2, some (.d (.str z)), a4, a5, a6, a7, a8] S =
      .ok (numsV (idx rows z rows.length)) S := by
  refine mLc_pure (List.range rows.length) (fun i => .d (.tuple [.int i, jD (at' rows i)])) (fun i => kd' rows i == z) (fun (i : Nat) => .int i) (pins := []) ?_ pins0 (by rw [List.length_range]; omega) fun i hi => ⟨_, rfl, ?_, fun _ => ?_⟩
  · rw [iEnum_d (x := rowsV rows) (b := true) (xs := (rows.map jD).map .d) (by simp) rfl, enum_rows]
    rfl
  · simp [jD, kd']
  · simp
theorem top_ok {rows : List Jb} {ns : List Nat} {a2 a3 a5 a6 a7 a8 : Option Vl} (hn : ∀ n ∈ ns, n < rows.length) (ne : ns ≠ []) (hl : ns.length ≤ 1000) :
    mBlt (one maxLV) (aCons (mLc (gNm 7) (iSeq (mVar 4)) mYes (mBin ixVS (mVar 1) (mVar 7)) [7]) aNil) [some (rowsV rows), some (lvsV rows), a2, a3, some (numsV ns), a5, a6, a7, a8] S = .ok (.d (.int (listMax 0 (ns.map (lv rows))))) S := by
  have c : mLc (gNm 7) (iSeq (mVar 4)) mYes (mBin ixVS (mVar 1) (mVar 7)) [7] [some (rowsV rows), some (lvsV rows), a2, a3, some (numsV ns), a5, a6, a7, a8] S = .ok (.d (.list (ns.map fun n => .int (lv rows n)))) S :=
    mLc_map ns (fun (n : Nat) => .int n) _ (by simp [numsV]) (by omega) fun n hn' => ⟨_, rfl, by
      rw [mBin_eq]
      simp only [wipeN_cons, wipeN_nil, List.set_cons_succ, List.set_cons_zero, mVar_eq, List.getElem?_cons_zero, List.getElem?_cons_succ, varR_some, RE.bind_ok, ix_lvs (hn n hn')]⟩
  rw [mBlt_eq, aCons_eq, c]
  simp only [RE.bindA_ok, aNil_eq, RA.bindA_ok, RA.bind_ok, one_eq]
  exact maxLV_ints ns (lv rows) ne
theorem revV_lst {ds : List PyData} : revV (.d (.list ds)) S = .ok (.d (.list ds.reverse)) S := by
  unfold revV
  simp only [seqV_lst, allD_map]
theorem bodyO_ok {rows : List Jb} {z : Str} {acc : List Nat} {a4 a5 a6 a7 a8 : Option Vl} (hl : rows.length ≤ 500) (hz : z ∈ kindsOf rows) (ha : acc.length ≤ 500) :
    ∃ b4 b5 b6 b7 b8, bodyO [some (rowsV rows), some (lvsV rows), some (.r S.length), some (.d (.str z)), a4, a5, a6, a7, a8] (TT S acc) = .nx [some (rowsV rows), some (lvsV rows), some (.r S.length), some (.d (.str z)), b4, b5, b6, b7, b8] (TT S (acc ++ foundOf rows z)) := by
  obtain ⟨i, hi, e⟩ := kinds_has hz
  have ne : idx rows z rows.length ≠ [] := fun e2 => by
    have m : i ∈ idx rows z rows.length := idx_mem.mpr ⟨hi, e⟩
    rw [e2] at m
    cases m
  have il : (idx rows z rows.length).length ≤ rows.length := by
    have := List.length_filter_le (fun i => kd' rows i == z) (List.range rows.length)
    rw [List.length_range] at this
    exact this
  have im : ∀ n ∈ idx rows z rows.length, n < rows.length := fun n h => (idx_mem.mp h).1
  obtain ⟨w', l', b7, q⟩ := inner_ok (S := S) (rows := rows) (some (.d (.str z))) (some (numsV (idx rows z rows.length))) a8 (idx rows z rows.length).reverse acc (top' rows z) none a7 (fun n h => im n (List.mem_reverse.mp h)) (fun c e => by cases e) (by rw [List.length_reverse]; omega)
  refine ⟨some (numsV (idx rows z rows.length)), some (.d (.int w')), some (lastV l'), b7, a8, ?_⟩
  unfold bodyO
  refine (seq_step (set_of (own_ok (S := TT S acc) (rows := rows) (z := z) (by omega)))).trans ?_
  refine (seq_step (set_of (top_ok (S := TT S acc) im ne (by omega)))).trans ?_
  refine (seq_step (set_of (x := .d .none) (S' := TT S acc) rfl)).trans ?_
  rw [sFor_eq]
  have it : iSeq (mUn revV (mVar 4)) [some (rowsV rows), some (lvsV rows), some (.r S.length), some (.d (.str z)), some (numsV (idx rows z rows.length)), some (.d (.int (top' rows z))), some (.d .none), a7, a8] (TT S acc) =
      .ok ((idx rows z rows.length).reverse.map fun (n : Nat) => .d (.int n)) [] (TT S acc) := by
    rw [iSeq_eq, mUn_eq, mVar_eq]
    simp only [List.getElem?_cons_zero, List.getElem?_cons_succ, varR_some, RE.bind_ok, numsV, revV_lst, toI_ok, seqI_lst]
    rw [List.map_reverse, List.map_map, List.map_reverse]
    rfl
  simp only [List.set_cons_succ, List.set_cons_zero]
  refine (congrArg (fun r => RI.toS r _ _) it).trans ?_
  rw [RI.toS_ok]
  exact q
theorem outer_ok {rows : List Jb} (hl : rows.length ≤ 500) : ∀ (Z : List Str) (acc : List Nat) (a3 a4 a5 a6 a7 a8 : Option Vl), (∀ z ∈ Z, z ∈ kindsOf rows) → acc.length + ((Z.map (foundOf rows)).flatten).length ≤ 500 →
    ∃ b3 b4 b5 b6 b7 b8, forL (gNm 3) bodyO [] (Z.map fun z => .d (.str z)) [some (rowsV rows), some (lvsV rows), some (.r S.length), a3, a4, a5, a6, a7, a8] (TT S acc) =
      .nx [some (rowsV rows), some (lvsV rows), some (.r S.length), b3, b4, b5, b6, b7, b8] (TT S (acc ++ (Z.map (foundOf rows)).flatten))
  | [], acc, a3, a4, a5, a6, a7, a8, _, _ => ⟨a3, a4, a5, a6, a7, a8, by rw [List.map_nil, forL_nil]; simp⟩
  | z :: Z, acc, a3, a4, a5, a6, a7, a8, hz, hn => by
    rw [List.map_cons, List.flatten_cons, List.length_append] at hn
    rw [List.map_cons, forL_cons]
    simp only [gNm_eq, List.set_cons_succ, List.set_cons_zero]
    obtain ⟨b4, b5, b6, b7, b8, q⟩ := bodyO_ok (S := S) (a4 := a4) (a5 := a5) (a6 := a6) (a7 := a7) (a8 := a8) hl (hz z List.mem_cons_self) (acc := acc) (by omega)
    rw [q]
    simp only []
    obtain ⟨c3, c4, c5, c6, c7, c8, ih⟩ := outer_ok hl Z (acc ++ foundOf rows z) (some (.d (.str z))) b4 b5 b6 b7 b8 (fun y hy => hz y (List.mem_cons_of_mem _ hy)) (by rw [List.length_append]; omega)
    refine ⟨c3, c4, c5, c6, c7, c8, ?_⟩
    rw [ih, List.map_cons, List.flatten_cons, List.append_assoc]
theorem allF_le (rows : List Jb) : (allF rows).length ≤ rows.length := by
  rw [← (best_perm rows).length_eq]
  have := List.length_filter_le (fun i => decide (i ∈ allF rows)) (List.range rows.length)
  rw [List.length_range] at this
  exact this
theorem srt_ints (ns : List Int) : srtD false (ns.map .int) = some ((sortD ltI ns).map .int) := by
  cases ns with
  | nil => rfl
  | cons a r =>
    unfold srtD
    have : strsD ((a :: r).map PyData.int) = none := rfl
    rw [this, intsD_map]
    rfl
theorem best_sorted (rows : List Jb) : sortD ltI ((allF rows).map fun (n : Nat) => (n : Int)) = (bestRun rows).map fun (n : Nat) => (n : Int) := by
  refine (sortD_is lt_I ?_ ((best_perm rows).map _)).symm
  rw [List.pairwise_map]
  have p : (bestRun rows).Pairwise fun a b => a < b := List.Pairwise.filter _ List.pairwise_lt_range
  exact p.imp fun {a b} h => by unfold ltI; rw [decide_eq_false_iff_not]; omega
theorem v_run_of_ok {rows : List Jb} (hl : rows.length ≤ 500) (hS : Clo S) : v_run_of [rowsV rows] S = .ok (.d (.tuple ((bestRun rows).map fun (n : Nat) => .int n))) S := by
  have hl2 := allF_le rows
  obtain ⟨b3, b4, b5, b6, b7, b8, q⟩ := outer_ok (S := S) hl (kindsOf rows) [] none none none none none none (fun z h => h) (by show 0 + (allF rows).length ≤ 500; omega)
  have q2 : TT S ([] ++ ((kindsOf rows).map (foundOf rows)).flatten) = TT S (allF rows) := rfl
  rw [q2] at q
  have cm : mLc (gNm 8) (iSeq (mVar 0)) mYes (mBin ixVS (mVar 8) (mC (.int 0))) [8] [some (rowsV rows), some (lvsV rows), some (.r S.length), none, none, none, none, none, none] (TT S []) = .ok (.d (.list (rows.map fun r => .str r.1))) (TT S []) :=
    mLc_map rows jD _ (by simp [rowsV]) (by omega) fun r hr => ⟨_, rfl, by simp [jD]⟩
  have ks : sortSetV (.d (.list (rows.map fun r => .str r.1))) (TT S []) = .ok (.d (.list ((kindsOf rows).map .str))) (TT S []) := by
    unfold sortSetV someD
    simp only [seqV_lst, allD_map, List.length_map]
    rw [if_pos (by omega)]
    have : srtD true (rows.map fun r => PyData.str r.1) = some ((kindsOf rows).map .str) := by
      unfold srtD
      rw [strs_map]
      rfl
    rw [this]
  have ev : m_run_of [some (rowsV rows), none, none, none, none, none, none, none, none] S = .ret (.d (.tuple ((bestRun rows).map fun (n : Nat) => .int n))) (TT S (allF rows)) := by
    unfold m_run_of
    refine (seq_step (set_of (x := lvsV rows) (S' := S) ?_)).trans ?_
    · have lv := v_levels_of_ok (S := S) (rows := rows) (by omega) hS
      rw [mCall_eq]
      simp only [mVar_eq, aCons_eq, aNil_eq, List.getElem?_cons_zero, List.getElem?_cons_succ, varR_some, RE.bind_ok, RE.bindA_ok, RA.bindA_ok, RA.bind_ok, List.length_cons, List.length_nil, Nat.zero_add, Nat.reduceAdd, if_true, rowsV, lv, RE.ok'_ok, lvsV]
    refine (seq_step (set_of (x := .r S.length) (S' := TT S []) rfl)).trans ?_
    refine (seq_step (ρ' := [some (rowsV rows), some (lvsV rows), some (.r S.length), b3, b4, b5, b6, b7, b8]) (S' := TT S (allF rows)) ?_).trans ?_
    · rw [sFor_eq]
      have it : iSeq (mUn sortSetV (mLc (gNm 8) (iSeq (mVar 0)) mYes (mBin ixVS (mVar 8) (mC (.int 0))) [8])) [some (rowsV rows), some (lvsV rows), some (.r S.length), none, none, none, none, none, none] (TT S []) = .ok ((kindsOf rows).map fun z => .d (.str z)) [] (TT S []) := by
        rw [iSeq_eq, mUn_eq, cm, RE.bind_ok, ks, toI_ok, seqI_lst, List.map_map]
        rfl
      refine (congrArg (fun r => RI.toS r _ _) it).trans ?_
      rw [RI.toS_ok]
      exact q
    refine ret_of ?_
    have at0' : (TT S (allF rows))[S.length]? = some (.lst ((allF rows).map fun (n : Nat) => .d (.int n))) := at0
    have sv : sortedV (.r S.length) (TT S (allF rows)) = .ok (.d (.list ((bestRun rows).map fun (n : Nat) => .int n))) (TT S (allF rows)) := by
      have e1 : seqV (.r S.length) (TT S (allF rows)) = some (true, (((allF rows).map fun (n : Nat) => (n : Int)).map PyData.int).map Vl.d) := by
        simp only [seqV, at0', List.map_map]
        rfl
      unfold sortedV someD
      rw [e1]
      simp only [allD_map]
      rw [srt_ints, best_sorted, List.map_map]
      rfl
    simp only [mBlt_eq, aCons_eq, aNil_eq, mVar_eq, List.getElem?_cons_zero, List.getElem?_cons_succ, varR_some, RE.bindA_ok, RA.bindA_ok, RA.bind_ok, one_eq, sv]
    exact tupleV_lst
  have e : v_run_of [rowsV rows] S = retR (m_run_of (envAt 9 [rowsV rows]) S) S := rfl
  have e0 : envAt 9 [rowsV rows] = [some (rowsV rows), none, none, none, none, none, none, none, none] := rfl
  rw [e, e0, ev, retR_ret]
  unfold TT
  rw [cutS_d hS]
end K36

namespace K36
open PySem PySem.Spec PyProof.Rows L2 EV
/-! ### lists of one kind, told without their names and their least size -/
abbrev Pr := Int × Int
def mkJ (z : Str) (s : Int) (p : Pr) : Jb := (z, s + p.1, s + p.2)
def lvlP (prev : List (Pr × Int)) (r : Pr) : Int := 1 + topOf ((prev.filter fun q => decide (q.1.2 < r.1)).map (·.2))
def lvP (ps : List Pr) : List (Pr × Int) := ps.foldl (fun acc r => acc ++ [(r, lvlP acc r)]) []
def upP (z : Str) (s : Int) (q : Pr × Int) : Jb × Int := (mkJ z s q.1, q.2)
theorem lvl_up {z : Str} {s : Int} (acc : List (Pr × Int)) (r : Pr) : lvl (acc.map (upP z s)) (mkJ z s r) = lvlP acc r := by
  unfold lvl lvlP someOf
  have e : (acc.map (upP z s)).filter (fun p => (p.1.1 == (mkJ z s r).1) && apart p.1 (mkJ z s r)) = (acc.filter fun q => decide (q.1.2 < r.1)).map (upP z s) := by
    rw [List.filter_map]
    refine congrArg _ (List.filter_congr fun q _ => ?_)
    simp [upP, mkJ, apart]
  rw [e, List.map_map]
  rfl
theorem lv_fold {z : Str} {s : Int} : ∀ (ps : List Pr) (acc : List (Pr × Int)), (ps.map (mkJ z s)).foldl (fun acc r => acc ++ [(r, lvl acc r)]) (acc.map (upP z s)) = (ps.foldl (fun acc r => acc ++ [(r, lvlP acc r)]) acc).map (upP z s)
  | [], acc => rfl
  | p :: ps, acc => by
    rw [List.map_cons, List.foldl_cons, List.foldl_cons, ← lv_fold ps, lvl_up, List.map_append]
    rfl
theorem lvL_up (z : Str) (s : Int) (ps : List Pr) : lvL (ps.map (mkJ z s)) = (lvP ps).map (upP z s) := lv_fold ps []
abbrev StP := List (Int × Int) × List (Int × Int)
def stepP (st : StP) (q : Pr × Int) : StP :=
  (putT st.1 q.2 (mn q.1.2 ((lookT st.1 q.2).getD q.1.2)), st.2 ++ [(q.2, mn q.1.2 ((lookT st.1 q.2).getD q.1.2))])
def tlP (qs : List (Pr × Int)) : StP := qs.foldl stepP ([], [])
def upT (z : Str) (s : Int) (kv : Int × Int) : List Key × Int := (kJ z kv.1, s + kv.2)
def upO (z : Str) (s : Int) (o : Int × Int) : PyData := .tuple [.str z, .int o.1, .int (s + o.2)]
theorem kJ_iff {z : Str} {a b : Int} : kJ z a = kJ z b ↔ a = b := by simp [kJ]
theorem put_up (z : Str) (s : Int) (T : List (Int × Int)) (n v : Int) : putT (T.map (upT z s)) (kJ z n) (s + v) = (putT T n v).map (upT z s) := by
  unfold putT
  have e : ((T.map (upT z s)).any fun kv => decide (kv.1 = kJ z n)) = T.any fun kv => decide (kv.1 = n) := by
    rw [List.any_map]
    refine congrArg (fun f => T.any f) (funext fun kv => ?_)
    simp [upT, kJ_iff]
  rw [e]
  split
  · rw [List.map_map, List.map_map]
    refine List.map_congr_left fun kv _ => ?_
    by_cases h : kv.1 = n
    · simp [upT, h]
    · simp [upT, h, kJ_iff]
  · simp [upT]
theorem look_up (z : Str) (s : Int) (n : Int) : ∀ T : List (Int × Int), lookT (T.map (upT z s)) (kJ z n) = (lookT T n).map (s + ·)
  | [] => rfl
  | kv :: T => by
    have ih := look_up z s n T
    unfold lookT at ih ⊢
    rw [List.map_cons, List.find?_cons, List.find?_cons]
    by_cases h : kv.1 = n
    · simp [upT, h]
    · have h' : ¬ (upT z s kv).1 = kJ z n := fun e => h (kJ_iff.mp e)
      simp only [h, h', decide_false]
      exact ih
theorem mn_up (s a b : Int) : mn (s + a) (s + b) = s + mn a b := by
  unfold mn
  by_cases h : b < a
  · rw [if_pos h, if_pos (by omega)]
  · rw [if_neg h, if_neg (by omega)]
theorem tl_fold {z : Str} {s : Int} : ∀ (qs : List (Pr × Int)) (st : StP), (qs.map (upP z s)).foldl stepT (st.1.map (upT z s), st.2.map (upO z s)) = ((qs.foldl stepP st).1.map (upT z s), (qs.foldl stepP st).2.map (upO z s))
  | [], st => rfl
  | q :: qs, st => by
    rw [List.map_cons, List.foldl_cons, List.foldl_cons, ← tl_fold qs]
    have g : (lookT (st.1.map (upT z s)) (kJ z q.2)).getD (s + q.1.2) = s + (lookT st.1 q.2).getD q.1.2 := by
      rw [look_up]
      cases lookT st.1 q.2 <;> rfl
    have v : mn (s + q.1.2) ((lookT (st.1.map (upT z s)) (kJ z q.2)).getD (s + q.1.2)) = s + mn q.1.2 ((lookT st.1 q.2).getD q.1.2) := by rw [g, mn_up]
    have e : stepT (st.1.map (upT z s), st.2.map (upO z s)) (upP z s q) = ((stepP st q).1.map (upT z s), (stepP st q).2.map (upO z s)) := by
      unfold stepT stepP
      show (putT (st.1.map (upT z s)) (kJ z q.2) (mn (s + q.1.2) ((lookT (st.1.map (upT z s)) (kJ z q.2)).getD (s + q.1.2))), st.2.map (upO z s) ++ [PyData.tuple [.str z, .int q.2, .int (mn (s + q.1.2) ((lookT (st.1.map (upT z s)) (kJ z q.2)).getD (s + q.1.2)))]]) = _
      rw [v, put_up]
      simp [upO]
    rw [e]
theorem tl_up (z : Str) (s : Int) (qs : List (Pr × Int)) : (tl (qs.map (upP z s))).2 = (tlP qs).2.map (upO z s) := by
  have := tl_fold (z := z) (s := s) qs ([], [])
  exact congrArg Prod.snd this
/-- of one kind: as many as the highest level tells -/
theorem allF_one {rows : List Jb} {z : Str} (hk : ∀ r ∈ rows, r.1 = z) (ne : rows ≠ []) : ((allF rows).length : Int) = listMax 0 ((lvL rows).map (·.2)) + 1 := by
  have kz : kindsOf rows = [z] := by
    refine (sortU_is lt_Z (List.pairwise_singleton _ _) fun x => ?_).symm
    rw [List.mem_singleton, List.mem_map]
    constructor
    · rintro rfl
      cases rows with
      | nil => exact absurd rfl ne
      | cons r rs => exact ⟨r, List.mem_cons_self, hk r List.mem_cons_self⟩
    · rintro ⟨r, hr, rfl⟩
      exact hk r hr
  have fl := found_len (rows := rows) (z := z) (by rw [kz]; simp)
  have e1 : allF rows = foundOf rows z := by
    unfold allF
    rw [kz]
    simp
  have e2 : (idx rows z rows.length).map (lv rows) = (lvL rows).map (·.2) := by
    have : idx rows z rows.length = List.range rows.length := by
      unfold idx
      refine List.filter_eq_self.mpr fun i hi => ?_
      have := hk (at' rows i) (List.mem_of_getElem? (get_at (List.mem_range.mp hi)))
      exact beq_iff_eq.mpr this
    rw [this]
    refine List.ext_getElem? fun i => ?_
    rw [List.getElem?_map, List.getElem?_map]
    by_cases h : i < rows.length
    · rw [List.getElem?_range h, lvL_at (get_at h)]
      show some (lv rows i) = some _
      rw [lv_at (get_at h)]
    · rw [List.getElem?_eq_none (by rw [List.length_range]; omega), List.getElem?_eq_none (by rw [lvL_len]; omega)]
      rfl
  rw [e1, fl]
  unfold top'
  rw [e2]
/-! ### the known lists -/
structure Cs where
  sz : List Pr
  od : List Nat
  du : List (Int × Int)
def Cs.rows (c : Cs) : List Pr := c.od.map fun i => c.sz.getD i (0, 0)
def Cs.ok (c : Cs) : Bool :=
  decide ((tlP (lvP c.rows)).2 = c.du) && decide (((sortU ltI (c.du.map (·.1))).length : Int) = listMax 0 ((lvP c.rows).map (·.2)) + 1) && decide (c.od ≠ []) && decide (c.od.length ≤ 12) &&
  c.od.all (fun i => decide (i < c.sz.length)) && decide (c.sz.length ≤ 4) && c.sz.all (fun p => decide (0 ≤ p.1 ∧ p.1 ≤ p.2 ∧ p.2 ≤ 9)) && c.du.all (fun o => decide (0 ≤ o.1 ∧ o.1 ≤ 9 ∧ 0 ≤ o.2 ∧ o.2 ≤ 9))
def case0 : Cs := ⟨[(0, 0)], [0], [(0, 0)]⟩
def case1 : Cs := ⟨[(0, 0)], List.replicate 12 0, List.replicate 12 (0, 0)⟩
def cases2 : List Cs := [⟨[(0, 0), (1, 1), (2, 2)], [0, 1, 2], [(0, 0), (1, 1), (2, 2)]⟩,
  ⟨[(0, 0), (1, 1), (2, 2)], [2, 1, 0], [(0, 2), (0, 1), (0, 0)]⟩,
  ⟨[(0, 0), (1, 1)], [0, 1, 0, 1, 0], [(0, 0), (1, 1), (0, 0), (1, 1), (0, 0)]⟩,
  ⟨[(0, 0), (1, 1)], [1, 0, 1], [(0, 1), (0, 0), (1, 1)]⟩,
  ⟨[(0, 5), (3, 9)], [0, 1, 0], [(0, 5), (0, 5), (0, 5)]⟩,
  ⟨[(0, 5), (6, 9)], [0, 1, 0], [(0, 5), (1, 9), (0, 5)]⟩,
  ⟨[(0, 9), (2, 4), (5, 5)], [0, 1, 2], [(0, 9), (0, 4), (1, 5)]⟩,
  ⟨[(0, 9), (2, 4), (5, 5)], [1, 2, 0], [(0, 4), (1, 5), (0, 4)]⟩,
  ⟨[(8, 8), (0, 1), (4, 9), (2, 3)], [0, 1, 2, 3], [(0, 8), (0, 1), (1, 9), (1, 3)]⟩,
  ⟨[(0, 1), (2, 3), (1, 2)], [0, 1, 2, 0, 1], [(0, 1), (1, 3), (0, 1), (0, 1), (1, 3)]⟩]
theorem cases_ok : (case0 :: case1 :: cases2).all Cs.ok = true := by decide +kernel
end K36

namespace K36
open PySem PySem.Spec PyProof.Rows L2 EV
variable {S : Sto}
def prD (s : Int) (p : Pr) : PyData := .tuple [.int (s + p.1), .int (s + p.2)]
def szD (s : Int) (c : Cs) : PyData := .list (c.sz.map (prD s))
def odD (c : Cs) : PyData := .tuple (c.od.map fun (n : Nat) => .int n)
def doD (s : Int) (o : Int × Int) : PyData := .tuple [.int o.1, .int (s + o.2)]
def duD (s : Int) (c : Cs) : List PyData := c.du.map (doD s)
def itm (n : Nat) (s : Int) (c : Cs) (i : Nat) : Vl := .t [.d (szD s c), .d (odD c), .r (n + i)]
def itms (n : Nat) (s : Int) (c0 c1 : Cs) (rest : List Cs) : List Vl := itm n s c0 0 :: .d (.tuple [szD s c1, odD c1, .list (duD s c1)]) :: rest.zipIdx.map fun p => itm n s p.1 (p.2 + 2)
def Gst (n : Nat) (s : Int) (c0 c1 : Cs) (rest : List Cs) : List Cell := .lst ((duD s c0).map .d) :: .lst (itms n s c0 c1 rest) :: rest.map fun c => .lst ((duD s c).map .d)
theorem g_at {G : List Cell} (k : Nat) : (S ++ G)[S.length + k]? = G[k]? := by
  rw [List.getElem?_append_right (Nat.le_add_right _ _)]
  simp
theorem g_set {G : List Cell} {c : Cell} (k : Nat) : (S ++ G).set (S.length + k) c = S ++ G.set k c := by
  rw [List.set_append_right _ _ (Nat.le_add_right _ _)]
  simp
theorem itms_snoc (n : Nat) (s : Int) (c0 c1 : Cs) (rest : List Cs) (c : Cs) : itms n s c0 c1 (rest ++ [c]) = itms n s c0 c1 rest ++ [itm n s c (rest.length + 2)] := by
  unfold itms
  rw [List.zipIdx_append, List.map_append]
  simp
theorem itms_len (n : Nat) (s : Int) (c0 c1 : Cs) (rest : List Cs) : (itms n s c0 c1 rest).length = rest.length + 2 := by
  unfold itms
  simp
theorem app_st {s : Int} {c0 c1 c : Cs} {rest : List Cs} {SZ OD : ME} {DU : MA} (h1 : ∀ T, SZ [some (.d (.int s)), some (.r (S.length + 1))] T = .ok (.d (szD s c)) T) (h2 : ∀ T, OD [some (.d (.int s)), some (.r (S.length + 1))] T = .ok (.d (odD c)) T)
    (h3 : ∀ T, DU [some (.d (.int s)), some (.r (S.length + 1))] T = .ok ((duD s c).map .d) T) (hr : rest.length ≤ 100) (hd : c.du.length ≤ 100) :
    sExpr (mMeth "list" appV (mVar 1) (aCons (mTup (aCons SZ (aCons OD (aCons (mLstM DU) aNil)))) aNil)) [some (.d (.int s)), some (.r (S.length + 1))] (S ++ Gst S.length s c0 c1 rest) =
      .nx [some (.d (.int s)), some (.r (S.length + 1))] (S ++ Gst S.length s c0 c1 (rest ++ [c])) := by
  have ln : (S ++ Gst S.length s c0 c1 rest).length = S.length + (rest.length + 2) := by
    rw [List.length_append]
    unfold Gst
    simp
  let T2 : Sto := S ++ Gst S.length s c0 c1 rest ++ [.lst ((duD s c).map .d)]
  have e2 : T2 = S ++ (Gst S.length s c0 c1 rest ++ [.lst ((duD s c).map .d)]) := List.append_assoc _ _ _
  have t1 : mLstM DU [some (.d (.int s)), some (.r (S.length + 1))] (S ++ Gst S.length s c0 c1 rest) = .ok (.r (S.length + (rest.length + 2))) T2 := by
    have dl : ((duD s c).map Vl.d).length ≤ 1000 := by unfold duD; rw [List.length_map, List.length_map]; omega
    rw [mLstM_eq, h3, RA.bind_ok, if_pos dl, ln]
  have t2 : mTup (aCons SZ (aCons OD (aCons (mLstM DU) aNil))) [some (.d (.int s)), some (.r (S.length + 1))] (S ++ Gst S.length s c0 c1 rest) = .ok (itm S.length s c (rest.length + 2)) T2 := by
    rw [mTup_eq, aCons_eq, h1, RE.bindA_ok, aCons_eq, h2, RE.bindA_ok, aCons_eq, t1, RE.bindA_ok, aNil_eq]
    rfl
  have a1 : T2[S.length + 1]? = some (.lst (itms S.length s c0 c1 rest)) := by rw [e2, g_at]; rfl
  have ty := rty_lst a1
  have ap := appV_at (y := itm S.length s c (rest.length + 2)) a1 (by rw [itms_len]; omega)
  have st : T2.set (S.length + 1) (.lst (itms S.length s c0 c1 rest ++ [itm S.length s c (rest.length + 2)])) = S ++ Gst S.length s c0 c1 (rest ++ [c]) := by
    rw [e2, g_set, ← itms_snoc]
    unfold Gst
    rw [List.map_append]
    rfl
  rw [st] at ap
  have tb : rty (.r (S.length + 1)) (S ++ Gst S.length s c0 c1 rest) = "list" := by
    have a0 : (S ++ Gst S.length s c0 c1 rest)[S.length + 1]? = some (.lst (itms S.length s c0 c1 rest)) := by rw [g_at]; rfl
    exact rty_lst a0
  rw [sExpr_eq, mMeth_eq]
  simp only [mVar_eq, List.getElem?_cons_zero, List.getElem?_cons_succ, varR_some, RE.bind_ok, tb, if_true]
  rw [aCons_eq, t2]
  simp only [RE.bindA_ok, aNil_eq, RA.bindA_ok, RA.bind_ok, ap, RE.toS_ok]
theorem ext_st {s : Int} {c0 c1 c c' : Cs} {rest : List Cs} {DU : MA} {more : List (Int × Int)} (h3 : ∀ T, DU [some (.d (.int s)), some (.r (S.length + 1))] T = .ok ((more.map (doD s)).map .d) T) (hr : rest.length ≤ 100) (hd : c.du.length + more.length ≤ 100)
    (e : c' = ⟨c.sz, c.od, c.du ++ more⟩) :
    sExpr (mMeth "list" extV (mBin ixVS (mBin ixVS (mVar 1) (mUn negV (mC (.int 1)))) (mC (.int 2))) (aCons (mLst DU) aNil)) [some (.d (.int s)), some (.r (S.length + 1))] (S ++ Gst S.length s c0 c1 (rest ++ [c])) =
      .nx [some (.d (.int s)), some (.r (S.length + 1))] (S ++ Gst S.length s c0 c1 (rest ++ [c'])) := by
  subst e
  have a0 : (S ++ Gst S.length s c0 c1 (rest ++ [c]))[S.length + 1]? = some (.lst (itms S.length s c0 c1 (rest ++ [c]))) := by rw [g_at]; rfl
  have i1 : ixVS (.r (S.length + 1)) (.d (.int (-1))) (S ++ Gst S.length s c0 c1 (rest ++ [c])) = .ok (itm S.length s c (rest.length + 2)) (S ++ Gst S.length s c0 c1 (rest ++ [c])) := by
    unfold ixVS ixV
    simp only [seqV, a0]
    have : atI (itms S.length s c0 c1 (rest ++ [c])) (-1) = some (itm S.length s c (rest.length + 2)) := by
      unfold atI ixN
      have n3 : (-1 + ((itms S.length s c0 c1 (rest ++ [c])).length : Int)).toNat = rest.length + 2 := by
        rw [itms_len, List.length_append, List.length_cons, List.length_nil]
        omega
      rw [if_neg (by decide), if_pos (by rw [itms_len]; omega)]
      show (itms S.length s c0 c1 (rest ++ [c]))[(-1 + ((itms S.length s c0 c1 (rest ++ [c])).length : Int)).toNat]? = _
      rw [n3, itms_snoc, List.getElem?_append_right (by rw [itms_len]; exact Nat.le_refl _), itms_len]
      simp
    rw [this]
  have i2 : ixVS (itm S.length s c (rest.length + 2)) (.d (.int 2)) (S ++ Gst S.length s c0 c1 (rest ++ [c])) = .ok (.r (S.length + (rest.length + 2))) (S ++ Gst S.length s c0 c1 (rest ++ [c])) := rfl
  have gl : (Gst S.length s c0 c1 rest).length = rest.length + 2 := by unfold Gst; simp
  have a1 : (S ++ Gst S.length s c0 c1 (rest ++ [c]))[S.length + (rest.length + 2)]? = some (.lst ((duD s c).map .d)) := by
    rw [g_at]
    unfold Gst
    rw [List.map_append]
    show ((rest.map fun c => Cell.lst ((duD s c).map .d)) ++ [Cell.lst ((duD s c).map .d)])[rest.length]? = _
    rw [List.getElem?_append_right (by rw [List.length_map]; exact Nat.le_refl _), List.length_map]
    simp
  have ml : mLst DU [some (.d (.int s)), some (.r (S.length + 1))] (S ++ Gst S.length s c0 c1 (rest ++ [c])) = .ok (.d (.list (more.map (doD s)))) (S ++ Gst S.length s c0 c1 (rest ++ [c])) := by
    rw [mLst_eq, h3, RA.bind_ok]
    simp only [allD_map, List.length_map]
    rw [if_pos (by omega)]
  have st : (S ++ Gst S.length s c0 c1 (rest ++ [c])).set (S.length + (rest.length + 2)) (.lst ((duD s c).map .d ++ (more.map (doD s)).map .d)) = S ++ Gst S.length s c0 c1 (rest ++ [⟨c.sz, c.od, c.du ++ more⟩]) := by
    rw [g_set]
    have ei : itms S.length s c0 c1 (rest ++ [⟨c.sz, c.od, c.du ++ more⟩]) = itms S.length s c0 c1 (rest ++ [c]) := by
      rw [itms_snoc, itms_snoc]
      rfl
    unfold Gst
    rw [ei, List.map_append, List.map_append]
    show S ++ (_ :: _ :: ((rest.map fun c => Cell.lst ((duD s c).map .d)) ++ [Cell.lst ((duD s c).map .d)]).set rest.length _) = _
    rw [List.set_append_right _ _ (by rw [List.length_map]; exact Nat.le_refl _), List.length_map]
    simp [duD]
  have ex : extV (.r (S.length + (rest.length + 2))) [.d (.list (more.map (doD s)))] (S ++ Gst S.length s c0 c1 (rest ++ [c])) = .ok (.d .none) (S ++ Gst S.length s c0 c1 (rest ++ [⟨c.sz, c.od, c.du ++ more⟩])) := by
    unfold extV
    simp only [a1, seqV_lst]
    have : ((duD s c).map Vl.d).length + ((more.map (doD s)).map Vl.d).length < 1000000 := by unfold duD; simp only [List.length_map]; omega
    rw [if_pos this, st]
  have ty := rty_lst a1
  rw [sExpr_eq, mMeth_eq]
  simp only [mBin_eq, mUn_eq, mVar_eq, mC_eq, List.getElem?_cons_zero, List.getElem?_cons_succ, varR_some, RE.bind_ok, negV_int, i1, i2, ty, if_true]
  rw [aCons_eq, ml]
  simp only [RE.bindA_ok, aNil_eq, RA.bindA_ok, RA.bind_ok, ex, RE.toS_ok]
end K36

namespace K36
open PySem PySem.Spec PyProof.Rows L2 EV
variable {S : Sto}
theorem tup2 {ρ : Nv} {T : Sto} {a b : ME} {x y : PyData} (h1 : a ρ T = .ok (.d x) T) (h2 : b ρ T = .ok (.d y) T) : mTup (aCons a (aCons b aNil)) ρ T = .ok (.d (.tuple [x, y])) T := by
  rw [mTup_eq, aCons_eq, h1, RE.bindA_ok, aCons_eq, h2, RE.bindA_ok, aNil_eq]
  rfl
theorem ac {ρ : Nv} {T : Sto} {a : ME} {r : MA} {x : PyData} {ds : List PyData} (h1 : a ρ T = .ok (.d x) T) (h2 : r ρ T = .ok (ds.map .d) T) : aCons a r ρ T = .ok ((x :: ds).map .d) T := by
  rw [aCons_eq, h1, RE.bindA_ok, h2]
  rfl
theorem an {ρ : Nv} {T : Sto} : aNil ρ T = .ok (([] : List PyData).map .d) T := rfl
theorem ml {ρ : Nv} {T : Sto} {r : MA} {ds : List PyData} (h : r ρ T = .ok (ds.map .d) T) (hl : ds.length ≤ 1000) : mLst r ρ T = .ok (.d (.list ds)) T := by
  rw [mLst_eq, h, RA.bind_ok]
  simp only [allD_map, List.length_map]
  rw [if_pos hl]
theorem mt {ρ : Nv} {T : Sto} {r : MA} {ds : List PyData} (h : r ρ T = .ok (ds.map .d) T) (hl : ds.length ≤ 1000) : mTup r ρ T = .ok (.d (.tuple ds)) T := by
  rw [mTup_eq, h, RA.bind_ok, List.length_map, if_pos hl, mkTup_eq]
  simp only [allD_map, tupR_some]
theorem v0 {n : Nat} {s : Int} {T : Sto} : mVar 0 [some (.d (.int s)), some (.r n)] T = .ok (.d (.int (s + 0))) T := by rw [Int.add_zero]; rfl
theorem vp {n : Nat} {s k : Int} {T : Sto} : mBin addV (mVar 0) (mC (.int k)) [some (.d (.int s)), some (.r n)] T = .ok (.d (.int (s + k))) T := rfl
theorem vc {n : Nat} {s k : Int} {T : Sto} : mC (.int k) [some (.d (.int s)), some (.r n)] T = .ok (.d (.int k)) T := rfl
def kc0 : Cs := ⟨[(0, 0), (1, 1), (2, 2)], [0, 1, 2], [(0, 0), (1, 1), (2, 2)]⟩
def kc1 : Cs := ⟨[(0, 0), (1, 1), (2, 2)], [2, 1, 0], [(0, 2), (0, 1), (0, 0)]⟩
def kc2 : Cs := ⟨[(0, 0), (1, 1)], [0, 1, 0, 1, 0], [(0, 0), (1, 1), (0, 0), (1, 1), (0, 0)]⟩
def kc3 : Cs := ⟨[(0, 0), (1, 1)], [1, 0, 1], [(0, 1), (0, 0), (1, 1)]⟩
def kc4 : Cs := ⟨[(0, 5), (3, 9)], [0, 1, 0], [(0, 5), (0, 5), (0, 5)]⟩
def kc5 : Cs := ⟨[(0, 5), (6, 9)], [0, 1, 0], [(0, 5), (1, 9), (0, 5)]⟩
def kc6 : Cs := ⟨[(0, 9), (2, 4), (5, 5)], [0, 1, 2], [(0, 9), (0, 4), (1, 5)]⟩
def kc7 : Cs := ⟨[(0, 9), (2, 4), (5, 5)], [1, 2, 0], [(0, 4), (1, 5), (0, 4)]⟩
def kc8 : Cs := ⟨[(8, 8), (0, 1), (4, 9), (2, 3)], [0, 1, 2, 3], [(0, 8), (0, 1)]⟩
def kc9 : Cs := ⟨[(8, 8), (0, 1), (4, 9), (2, 3)], [0, 1, 2, 3], [(0, 8), (0, 1), (1, 9), (1, 3)]⟩
def kc10 : Cs := ⟨[(0, 1), (2, 3), (1, 2)], [0, 1, 2, 0, 1], [(0, 1), (1, 3), (0, 1)]⟩
def kc11 : Cs := ⟨[(0, 1), (2, 3), (1, 2)], [0, 1, 2, 0, 1], [(0, 1), (1, 3), (0, 1), (0, 1), (1, 3)]⟩
set_option maxHeartbeats 4000000 in
theorem v__law_cases_ok (s : Int) : v__law_cases [.d (.int s)] S = .ok (.r (S.length + 1)) (S ++ Gst S.length s case0 case1 cases2) := by
  have ev : m__law_cases [some (.d (.int s)), none] S = .ret (.r (S.length + 1)) (S ++ Gst S.length s case0 case1 cases2) := by
    unfold m__law_cases
    refine (seq_step (set_of (x := .r (S.length + 1)) (S' := S ++ Gst S.length s case0 case1 []) ?_)).trans ?_
    · have z1 : ∀ T : Sto, mLst (aCons (mTup (aCons (mVar 0) (aCons (mVar 0) aNil))) aNil) [some (.d (.int s)), none] T = .ok (.d (szD s case0)) T := fun T => by
        have : szD s case0 = .list [.tuple [.int s, .int s]] := by simp [szD, case0, prD]
        rw [this]; rfl
      have z2 : ∀ T : Sto, mTup (aCons (mC (.int 0)) aNil) [some (.d (.int s)), none] T = .ok (.d (.tuple [.int 0])) T := fun T => rfl
      have z3 : ∀ T : Sto, mLstM (aCons (mTup (aCons (mC (.int 0)) (aCons (mVar 0) aNil))) aNil) [some (.d (.int s)), none] T = .ok (.r T.length) (T ++ [.lst ((duD s case0).map .d)]) := fun T => by
        have : duD s case0 = [.tuple [.int 0, .int s]] := by simp [duD, case0, doD]
        rw [this]; rfl
      have z4 : ∀ T : Sto, mTup (aCons (mLst (aCons (mTup (aCons (mVar 0) (aCons (mVar 0) aNil))) aNil)) (aCons (mTup (aCons (mC (.int 0)) aNil)) (aCons (mLstM (aCons (mTup (aCons (mC (.int 0)) (aCons (mVar 0) aNil))) aNil)) aNil))) [some (.d (.int s)), none] T = .ok (itm T.length s case0 0) (T ++ [.lst ((duD s case0).map .d)]) := fun T => by
        rw [mTup_eq, aCons_eq, z1, RE.bindA_ok, aCons_eq, z2, RE.bindA_ok, aCons_eq, z3, RE.bindA_ok, aNil_eq]
        rfl
      have z5 : ∀ T : Sto, mBin mulV (mTup (aCons (mC (.int 0)) aNil)) (mC (.int 12)) [some (.d (.int s)), none] T = .ok (.d (odD case1)) T := fun T => by
        rw [mBin_eq, z2, RE.bind_ok, mC_eq, RE.bind_ok]
        rfl
      have z6 : ∀ T : Sto, mBin mulV (mLst (aCons (mTup (aCons (mC (.int 0)) (aCons (mVar 0) aNil))) aNil)) (mC (.int 12)) [some (.d (.int s)), none] T = .ok (.d (.list (duD s case1))) T := fun T => by
        have e : duD s case1 = List.replicate 12 (.tuple [.int 0, .int s]) := by
          simp [duD, case1, doD]
        rw [e]
        have l1 : mLst (aCons (mTup (aCons (mC (.int 0)) (aCons (mVar 0) aNil))) aNil) [some (.d (.int s)), none] T = .ok (.d (.list [.tuple [.int 0, .int s]])) T := rfl
        rw [mBin_eq, l1, RE.bind_ok, mC_eq, RE.bind_ok]
        unfold mulV
        simp only []
        have l2 : -1000000 ≤ (12 : Int) ∧ (12 : Int) ≤ 1000000 ∧ [PyData.tuple [.int 0, .int s]].length * (12 : Int).toNat ≤ sizeLine := ⟨by decide, by decide, by rw [sizeLine_eq]; exact Nat.le_of_ble_eq_true rfl⟩
        rw [if_pos l2]
        rfl
      have z7 : ∀ T : Sto, mTup (aCons (mLst (aCons (mTup (aCons (mVar 0) (aCons (mVar 0) aNil))) aNil)) (aCons (mBin mulV (mTup (aCons (mC (.int 0)) aNil)) (mC (.int 12))) (aCons (mBin mulV (mLst (aCons (mTup (aCons (mC (.int 0)) (aCons (mVar 0) aNil))) aNil)) (mC (.int 12))) aNil))) [some (.d (.int s)), none] T = .ok (.d (.tuple [szD s case1, odD case1, .list (duD s case1)])) T := fun T => by
        rw [mTup_eq, aCons_eq, z1, RE.bindA_ok, aCons_eq, z5, RE.bindA_ok, aCons_eq, z6, RE.bindA_ok, aNil_eq]
        rfl
      rw [mLstM_eq, aCons_eq, z4, RE.bindA_ok, aCons_eq, z7, RE.bindA_ok, aNil_eq]
      simp only [RA.bindA_ok, RA.bind_ok, List.length_cons, List.length_nil, List.length_append, Nat.zero_add, Nat.reduceAdd, Nat.reduceLeDiff, if_true, List.append_assoc]
      rfl
    refine (seq_step (app_st (S := S) (c0 := case0) (c1 := case1) (rest := ([] : List Cs)) (c := kc0) (fun T => (ml (ac (tup2 v0 v0) (ac (tup2 vp vp) (ac (tup2 vp vp) an))) (Nat.le_of_ble_eq_true rfl))) (fun T => (mt (ac vc (ac vc (ac vc an))) (Nat.le_of_ble_eq_true rfl))) (fun T => (ac (tup2 vc v0) (ac (tup2 vc vp) (ac (tup2 vc vp) an)))) (by decide) (by decide))).trans ?_
    refine (seq_step (app_st (S := S) (c0 := case0) (c1 := case1) (rest := ([] ++ [kc0])) (c := kc1) (fun T => (ml (ac (tup2 v0 v0) (ac (tup2 vp vp) (ac (tup2 vp vp) an))) (Nat.le_of_ble_eq_true rfl))) (fun T => (mt (ac vc (ac vc (ac vc an))) (Nat.le_of_ble_eq_true rfl))) (fun T => (ac (tup2 vc vp) (ac (tup2 vc vp) (ac (tup2 vc v0) an)))) (by decide) (by decide))).trans ?_
    refine (seq_step (app_st (S := S) (c0 := case0) (c1 := case1) (rest := (([] ++ [kc0]) ++ [kc1])) (c := kc2) (fun T => (ml (ac (tup2 v0 v0) (ac (tup2 vp vp) an)) (Nat.le_of_ble_eq_true rfl))) (fun T => (mt (ac vc (ac vc (ac vc (ac vc (ac vc an))))) (Nat.le_of_ble_eq_true rfl))) (fun T => (ac (tup2 vc v0) (ac (tup2 vc vp) (ac (tup2 vc v0) (ac (tup2 vc vp) (ac (tup2 vc v0) an)))))) (by decide) (by decide))).trans ?_
    refine (seq_step (app_st (S := S) (c0 := case0) (c1 := case1) (rest := ((([] ++ [kc0]) ++ [kc1]) ++ [kc2])) (c := kc3) (fun T => (ml (ac (tup2 v0 v0) (ac (tup2 vp vp) an)) (Nat.le_of_ble_eq_true rfl))) (fun T => (mt (ac vc (ac vc (ac vc an))) (Nat.le_of_ble_eq_true rfl))) (fun T => (ac (tup2 vc vp) (ac (tup2 vc v0) (ac (tup2 vc vp) an)))) (by decide) (by decide))).trans ?_
    refine (seq_step (app_st (S := S) (c0 := case0) (c1 := case1) (rest := (((([] ++ [kc0]) ++ [kc1]) ++ [kc2]) ++ [kc3])) (c := kc4) (fun T => (ml (ac (tup2 v0 vp) (ac (tup2 vp vp) an)) (Nat.le_of_ble_eq_true rfl))) (fun T => (mt (ac vc (ac vc (ac vc an))) (Nat.le_of_ble_eq_true rfl))) (fun T => (ac (tup2 vc vp) (ac (tup2 vc vp) (ac (tup2 vc vp) an)))) (by decide) (by decide))).trans ?_
    refine (seq_step (app_st (S := S) (c0 := case0) (c1 := case1) (rest := ((((([] ++ [kc0]) ++ [kc1]) ++ [kc2]) ++ [kc3]) ++ [kc4])) (c := kc5) (fun T => (ml (ac (tup2 v0 vp) (ac (tup2 vp vp) an)) (Nat.le_of_ble_eq_true rfl))) (fun T => (mt (ac vc (ac vc (ac vc an))) (Nat.le_of_ble_eq_true rfl))) (fun T => (ac (tup2 vc vp) (ac (tup2 vc vp) (ac (tup2 vc vp) an)))) (by decide) (by decide))).trans ?_
    refine (seq_step (app_st (S := S) (c0 := case0) (c1 := case1) (rest := (((((([] ++ [kc0]) ++ [kc1]) ++ [kc2]) ++ [kc3]) ++ [kc4]) ++ [kc5])) (c := kc6) (fun T => (ml (ac (tup2 v0 vp) (ac (tup2 vp vp) (ac (tup2 vp vp) an))) (Nat.le_of_ble_eq_true rfl))) (fun T => (mt (ac vc (ac vc (ac vc an))) (Nat.le_of_ble_eq_true rfl))) (fun T => (ac (tup2 vc vp) (ac (tup2 vc vp) (ac (tup2 vc vp) an)))) (by decide) (by decide))).trans ?_
    refine (seq_step (app_st (S := S) (c0 := case0) (c1 := case1) (rest := ((((((([] ++ [kc0]) ++ [kc1]) ++ [kc2]) ++ [kc3]) ++ [kc4]) ++ [kc5]) ++ [kc6])) (c := kc7) (fun T => (ml (ac (tup2 v0 vp) (ac (tup2 vp vp) (ac (tup2 vp vp) an))) (Nat.le_of_ble_eq_true rfl))) (fun T => (mt (ac vc (ac vc (ac vc an))) (Nat.le_of_ble_eq_true rfl))) (fun T => (ac (tup2 vc vp) (ac (tup2 vc vp) (ac (tup2 vc vp) an)))) (by decide) (by decide))).trans ?_
    refine (seq_step (app_st (S := S) (c0 := case0) (c1 := case1) (rest := (((((((([] ++ [kc0]) ++ [kc1]) ++ [kc2]) ++ [kc3]) ++ [kc4]) ++ [kc5]) ++ [kc6]) ++ [kc7])) (c := kc8) (fun T => (ml (ac (tup2 vp vp) (ac (tup2 v0 vp) (ac (tup2 vp vp) (ac (tup2 vp vp) an)))) (Nat.le_of_ble_eq_true rfl))) (fun T => (mt (ac vc (ac vc (ac vc (ac vc an)))) (Nat.le_of_ble_eq_true rfl))) (fun T => (ac (tup2 vc vp) (ac (tup2 vc vp) an))) (by decide) (by decide))).trans ?_
    refine (seq_step (ext_st (S := S) (c0 := case0) (c1 := case1) (rest := (((((((([] ++ [kc0]) ++ [kc1]) ++ [kc2]) ++ [kc3]) ++ [kc4]) ++ [kc5]) ++ [kc6]) ++ [kc7])) (c := kc8) (c' := kc9) (more := [(1, 9), (1, 3)]) (fun T => (ac (tup2 vc vp) (ac (tup2 vc vp) an))) (by decide) (by decide) rfl)).trans ?_
    refine (seq_step (app_st (S := S) (c0 := case0) (c1 := case1) (rest := ((((((((([] ++ [kc0]) ++ [kc1]) ++ [kc2]) ++ [kc3]) ++ [kc4]) ++ [kc5]) ++ [kc6]) ++ [kc7]) ++ [kc9])) (c := kc10) (fun T => (ml (ac (tup2 v0 vp) (ac (tup2 vp vp) (ac (tup2 vp vp) an))) (Nat.le_of_ble_eq_true rfl))) (fun T => (mt (ac vc (ac vc (ac vc (ac vc (ac vc an))))) (Nat.le_of_ble_eq_true rfl))) (fun T => (ac (tup2 vc vp) (ac (tup2 vc vp) (ac (tup2 vc vp) an)))) (by decide) (by decide))).trans ?_
    refine (seq_step (ext_st (S := S) (c0 := case0) (c1 := case1) (rest := ((((((((([] ++ [kc0]) ++ [kc1]) ++ [kc2]) ++ [kc3]) ++ [kc4]) ++ [kc5]) ++ [kc6]) ++ [kc7]) ++ [kc9])) (c := kc10) (c' := kc11) (more := [(0, 1), (1, 3)]) (fun T => (ac (tup2 vc vp) (ac (tup2 vc vp) an))) (by decide) (by decide) rfl)).trans ?_
    exact ret_of rfl
  have e : v__law_cases [.d (.int s)] S = retR (m__law_cases (envAt 2 [.d (.int s)]) S) S := rfl
  have e0 : envAt 2 [Vl.d (.int s)] = [some (.d (.int s)), none] := rfl
  have nc : clV S.length (.r (S.length + 1)) = false := decide_eq_false (by omega)
  rw [e, e0, ev, retR_ret]
  unfold EV.cutS
  rw [nc]
  rfl
end K36

namespace K36
open PySem PySem.Spec PyProof.Rows L2 EV
variable {S : Sto}
def wsOf (z : Str) (s : Int) (nms : List Str) (sz : List Pr) : List Wk := (nms.zip sz).map fun p => (p.1, z, s + p.2.1, s + p.2.2)
theorem zip_nm (s : Int) : ∀ (nms : List Str) (sz : List Pr), zipL ((nms.map PyData.str).map .d) ((sz.map (prD s)).map .d) = (nms.zip sz).map fun p => .d (.tuple [.str p.1, prD s p.2])
  | [], _ => rfl
  | _ :: _, [] => rfl
  | a :: nms, b :: sz => by
    have ih := zip_nm s nms sz
    unfold zipL at ih ⊢
    rw [List.map_cons, List.map_cons, List.map_cons, List.map_cons, List.zip_cons_cons, List.map_cons, ih, List.zip_cons_cons, List.map_cons]
    rfl
theorem v__law_plain_ok {l b : Nat} {x : Cell} {least s : Int} {sz : List Pr} (h : S[l]? = some x) (hd : IsD b x) (hb : b ≤ 70000) (hz : sz.length ≤ 4) :
    ∃ (z : Str) (nms : List Str) (y : Cell), NameOk z ∧ nms.length = sz.length ∧ nms.Nodup ∧ (∀ n ∈ nms, NameOk n) ∧ IsD (b + 20) y ∧
      v__law_plain [.r l, .d (.int least), .d (.list (sz.map (prD s)))] S = .ok (.d (.tuple [stD [(z, least)] (wsOf z s nms sz), .str z, .list (nms.map .str)])) (S.set l y) := by
  obtain ⟨ks, y1, k1, k2, k3, d1, e1⟩ := v__law_names_ok h hd (by omega) (many := 1) (by omega)
  obtain ⟨z, rfl⟩ : ∃ z, ks = [z] := by
    cases ks with
    | nil => cases k1
    | cons z r =>
      cases r with
      | nil => exact ⟨z, rfl⟩
      | cons _ _ => simp at k1
  have g1 : (S.set l y1)[l]? = some y1 := at_set h
  obtain ⟨nms, y2, n1, n2, n3, d2, e2⟩ := v__law_names_ok (S := S.set l y1) g1 d1 (by omega) (many := sz.length) (by omega)
  rw [List.set_set] at e2
  have e1 : v__law_names [.r l, .d (.int 1)] S = .ok (.d (.list [.str z])) (S.set l y1) := e1
  refine ⟨z, nms, y2, k3 z (by simp), n1, n2, n3, d2.up (by omega), ?_⟩
  have szl : sizeLine = 16777216 := sizeLine_eq
  have zl : (nms.zip sz).length ≤ 4 := by rw [List.length_zip]; omega
  have cm : mLc (gUn 2 (gsCons (gNm 6) (gsCons (gNm 7) gsNil))) (iZipM (aCons (mVar 4) (aCons (mVar 2) aNil))) mYes (mBin addV (mTup (aCons (mVar 6) (aCons (mVar 3) aNil))) (mVar 7)) [6, 7]
      [some (.r l), some (.d (.int least)), some (.d (.list (sz.map (prD s)))), some (.d (.str z)), some (.d (.list (nms.map .str))), none, none, none] (S.set l y2) = .ok (.d (.list ((wsOf z s nms sz).map wD))) (S.set l y2) := by
    have := mLc_pure (ρ := [some (.r l), some (.d (.int least)), some (.d (.list (sz.map (prD s)))), some (.d (.str z)), some (.d (.list (nms.map .str))), none, none, none]) (S := S.set l y2) (g := gUn 2 (gsCons (gNm 6) (gsCons (gNm 7) gsNil))) (mi := iZipM (aCons (mVar 4) (aCons (mVar 2) aNil))) (t := mYes) (e := mBin addV (mTup (aCons (mVar 6) (aCons (mVar 3) aNil))) (mVar 7)) (pins := []) (vs := [6, 7])
      (nms.zip sz) (fun p => .d (.tuple [.str p.1, prD s p.2])) (fun _ => true) (fun p => wD (p.1, z, s + p.2.1, s + p.2.2))
      (by rw [iZip_d (x := .d (.list (nms.map .str))) (y := .d (.list (sz.map (prD s)))) (b := true) (xs := (nms.map .str).map .d) (ys := (sz.map (prD s)).map .d) (by simp) (by simp) (by simp), zip_nm]; rfl) pins0 (by omega) fun p hp => ⟨_, rfl, rfl, fun _ => by
        simp [prD, wD, szl]⟩
    rw [List.filter_eq_self.mpr fun _ _ => rfl] at this
    rw [this]
    unfold wsOf
    rw [List.map_map]
    rfl
  have ev : m__law_plain [some (.r l), some (.d (.int least)), some (.d (.list (sz.map (prD s)))), none, none, none, none, none] S = .ret (.d (.tuple [stD [(z, least)] (wsOf z s nms sz), .str z, .list (nms.map .str)])) (S.set l y2) := by
    unfold m__law_plain
    refine (seq_step (set_of (x := .d (.str z)) (S' := S.set l y1) ?_)).trans ?_
    · simp only [mBin_eq, mCall_eq, aCons_eq, aNil_eq, mVar_eq, mC_eq, List.getElem?_cons_zero, List.getElem?_cons_succ, varR_some, RE.bind_ok, RE.bindA_ok, RA.bindA_ok, RA.bind_ok, List.length_cons, List.length_nil, Nat.zero_add, Nat.reduceAdd, if_true, e1, RE.ok'_ok]
      rfl
    refine (seq_step (set_of (x := .d (.list (nms.map .str))) (S' := S.set l y2) ?_)).trans ?_
    · simp only [List.set_cons_succ, List.set_cons_zero, mCall_eq, mBlt_eq, aCons_eq, aNil_eq, mVar_eq, List.getElem?_cons_zero, List.getElem?_cons_succ, varR_some, RE.bind_ok, RE.bindA_ok, RA.bindA_ok, RA.bind_ok, one_eq, lenV_lst, List.length_map, List.length_cons, List.length_nil, Nat.zero_add, Nat.reduceAdd, if_true, e2, RE.ok'_ok]
    refine (seq_step (set_of (x := .d (.tuple ((wsOf z s nms sz).map wD))) (S' := S.set l y2) ?_)).trans ?_
    · rw [mBlt_eq, aCons_eq]
      refine (congrArg (fun r => RA.bind (RE.bindA r _) _) cm).trans ?_
      simp only [RE.bindA_ok, aNil_eq, RA.bindA_ok, RA.bind_ok, one_eq]
      exact tupleV_lst
    exact ret_of rfl
  have e : v__law_plain [.r l, .d (.int least), .d (.list (sz.map (prD s)))] S = retR (m__law_plain (envAt 8 [.r l, .d (.int least), .d (.list (sz.map (prD s)))]) S) S := rfl
  have e0 : envAt 8 [Vl.r l, .d (.int least), .d (.list (sz.map (prD s)))] = [some (.r l), some (.d (.int least)), some (.d (.list (sz.map (prD s)))), none, none, none, none, none] := rfl
  rw [e, e0, ev, retR_ret, cutS_len List.length_set]
/-! what a case gives -/
theorem ws_nm {z : Str} {s : Int} {nms : List Str} {sz : List Pr} (hl : nms.length = sz.length) : (wsOf z s nms sz).map (·.1) = nms := by
  unfold wsOf
  rw [List.map_map]
  have : (nms.zip sz).map ((fun w : Wk => w.1) ∘ fun p => (p.1, z, s + p.2.1, s + p.2.2)) = (nms.zip sz).map Prod.fst := rfl
  rw [this, List.map_fst_zip (by omega)]
theorem ws_len {z : Str} {s : Int} {nms : List Str} {sz : List Pr} (hl : nms.length = sz.length) : (wsOf z s nms sz).length = sz.length := by
  have := congrArg List.length (ws_nm (z := z) (s := s) hl)
  rw [List.length_map] at this
  omega
theorem ws_get {z : Str} {s : Int} {nms : List Str} {sz : List Pr} (hl : nms.length = sz.length) {i : Nat} (hi : i < sz.length) :
    ∃ nm, nms[i]? = some nm ∧ (wsOf z s nms sz)[i]? = some (nm, z, s + (sz.getD i (0, 0)).1, s + (sz.getD i (0, 0)).2) := by
  have h1 : nms[i]? = some nms[i] := List.getElem?_eq_getElem (by omega)
  have h2 : sz[i]? = some sz[i] := List.getElem?_eq_getElem hi
  refine ⟨nms[i], h1, ?_⟩
  unfold wsOf
  have e : (nms.zip sz)[i]? = some (nms[i], sz[i]) := List.getElem?_zip_eq_some.mpr ⟨h1, h2⟩
  rw [List.getElem?_map, e, List.getD_eq_getElem?_getD, h2]
  rfl
theorem case_valid {c : Cs} (hc : c.ok = true) {z : Str} {least s : Int} {nms : List Str} (hz : NameOk z) (hl : nms.length = c.sz.length) (nd : nms.Nodup) (no : ∀ n ∈ nms, NameOk n) (h0 : 0 ≤ least) (h1 : least ≤ s) (h2 : s ≤ 90) :
    Valid [(z, least)] (wsOf z s nms c.sz) := by
  unfold Cs.ok at hc
  simp only [Bool.and_eq_true, decide_eq_true_eq, List.all_eq_true] at hc
  obtain ⟨⟨⟨⟨⟨⟨⟨c1, c2⟩, c3⟩, c4⟩, c5⟩, c6⟩, c7⟩, c8⟩ := hc
  refine ⟨by simp, by simp, by rw [ws_len hl]; omega, by simp, by rw [ws_nm hl]; exact nd, ?_, ?_⟩
  · intro p hp
    have : p = (z, least) := by simpa using hp
    subst this
    exact ⟨hz, h0, by show least ≤ 99; omega⟩
  · intro w hw
    obtain ⟨p, hp, rfl⟩ := List.mem_map.mp hw
    have m1 := (List.of_mem_zip hp).1
    have m2 := c7 p.2 (List.of_mem_zip hp).2
    exact ⟨no _ m1, by simp, by show 0 ≤ s + p.2.1; omega, by show s + p.2.1 ≤ s + p.2.2; omega, by show s + p.2.2 ≤ 99; omega⟩
def smOf (z : Str) (s : Int) (nms : List Str) (c : Cs) : List Wk := c.od.map fun i => (nms.getD i Str.empty, z, s + (c.sz.getD i (0, 0)).1, s + (c.sz.getD i (0, 0)).2)
theorem case_asked {c : Cs} (hc : c.ok = true) {z : Str} {least s : Int} {nms : List Str} (hl : nms.length = c.sz.length) (h0 : 0 ≤ least) (h1 : least ≤ s) :
    Asked [(z, least)] (wsOf z s nms c.sz) (smOf z s nms c) ∧ (smOf z s nms c).map (jobOf [(z, least)]) = c.rows.map (mkJ z s) := by
  unfold Cs.ok at hc
  simp only [Bool.and_eq_true, decide_eq_true_eq, List.all_eq_true] at hc
  obtain ⟨⟨⟨⟨⟨⟨⟨c1, c2⟩, c3⟩, c4⟩, c5⟩, c6⟩, c7⟩, c8⟩ := hc
  have so : sizeOf' [(z, least)] z = least := by simp [sizeOf']
  have szk : ∀ i ∈ c.od, 0 ≤ (c.sz.getD i (0, 0)).1 ∧ (c.sz.getD i (0, 0)).1 ≤ (c.sz.getD i (0, 0)).2 := fun i hi => by
    have lt := c5 i hi
    have e : c.sz[i]? = some c.sz[i] := List.getElem?_eq_getElem lt
    rw [List.getD_eq_getElem?_getD, e]
    have := c7 c.sz[i] (List.getElem_mem lt)
    exact ⟨this.1, this.2.1⟩
  refine ⟨⟨by unfold smOf; rw [List.length_map]; exact c4, fun w hw => ?_, fun w hw => ?_⟩, ?_⟩
  · obtain ⟨i, hi, rfl⟩ := List.mem_map.mp hw
    obtain ⟨nm, g1, g2⟩ := ws_get (z := z) (s := s) hl (c5 i hi)
    rw [List.getD_eq_getElem?_getD, g1]
    exact List.mem_of_getElem? g2
  · obtain ⟨i, hi, rfl⟩ := List.mem_map.mp hw
    have := szk i hi
    show sizeOf' [(z, least)] z ≤ s + _
    rw [so]
    omega
  · unfold smOf Cs.rows
    rw [List.map_map, List.map_map]
    refine List.map_congr_left fun i hi => ?_
    have := szk i hi
    show (z, (if sizeOf' [(z, least)] z > s + (c.sz.getD i (0, 0)).1 then sizeOf' [(z, least)] z else s + (c.sz.getD i (0, 0)).1), s + (c.sz.getD i (0, 0)).2) = (z, s + (c.sz.getD i (0, 0)).1, s + (c.sz.getD i (0, 0)).2)
    rw [so, if_neg (by omega)]
theorem case_plan {c : Cs} (hc : c.ok = true) (z : Str) (s : Int) : (tl (lvL (c.rows.map (mkJ z s)))).2 = c.du.map (upO z s) := by
  unfold Cs.ok at hc
  simp only [Bool.and_eq_true, decide_eq_true_eq, List.all_eq_true] at hc
  obtain ⟨⟨⟨⟨⟨⟨⟨c1, c2⟩, c3⟩, c4⟩, c5⟩, c6⟩, c7⟩, c8⟩ := hc
  rw [lvL_up, tl_up, c1]
theorem case_few {c : Cs} (hc : c.ok = true) (z : Str) (s : Int) : (allF (c.rows.map (mkJ z s))).length = (sortU ltI (c.du.map (·.1))).length := by
  unfold Cs.ok at hc
  simp only [Bool.and_eq_true, decide_eq_true_eq, List.all_eq_true] at hc
  obtain ⟨⟨⟨⟨⟨⟨⟨c1, c2⟩, c3⟩, c4⟩, c5⟩, c6⟩, c7⟩, c8⟩ := hc
  have := allF_one (rows := c.rows.map (mkJ z s)) (z := z) (fun r hr => by obtain ⟨p, _, rfl⟩ := List.mem_map.mp hr; rfl) (fun e => c3 (by
    have := congrArg List.length e
    unfold Cs.rows at this
    simpa using this))
  rw [lvL_up, List.map_map] at this
  have e : (lvP c.rows).map ((fun q : Jb × Int => q.2) ∘ upP z s) = (lvP c.rows).map (·.2) := rfl
  rw [e] at this
  omega
theorem case_repr {c : Cs} (hc : c.ok = true) {z : Str} {s : Int} (hz : NameOk z) (h0 : 0 ≤ s) (h2 : s ≤ 90) : reprOk (.tuple (c.du.map (upO z s))) = true := by
  have h4 : c.du.length ≤ 12 := by
    have := congrArg List.length (case_plan hc z s)
    have f := (fold_len (lvL (c.rows.map (mkJ z s))) ([], [])).2
    unfold tl at this
    rw [f, lvL_len, List.length_map, List.length_map] at this
    unfold Cs.ok at hc
    simp only [Bool.and_eq_true, decide_eq_true_eq, List.all_eq_true] at hc
    obtain ⟨⟨⟨⟨⟨⟨⟨c1, c2⟩, c3⟩, c4⟩, c5⟩, c6⟩, c7⟩, c8⟩ := hc
    have e : c.rows.length = c.od.length := by unfold Cs.rows; rw [List.length_map]
    simp only [List.length_nil] at this
    omega
  unfold Cs.ok at hc
  simp only [Bool.and_eq_true, decide_eq_true_eq, List.all_eq_true] at hc
  obtain ⟨⟨⟨⟨⟨⟨⟨c1, c2⟩, c3⟩, c4⟩, c5⟩, c6⟩, c7⟩, c8⟩ := hc
  refine reprOk_rows (fun d hd => ?_) (by rw [List.length_map]; exact h4)
  obtain ⟨o, ho, rfl⟩ := List.mem_map.mp hd
  have := c8 o ho
  exact ⟨z, o.1, s + o.2, rfl, hz, this.1, by omega, by omega, by omega⟩
end K36

namespace EV
open PySem PySem.Spec PyProof.Rows L2
/-- a loop by its turns, over what must stay -/
theorem forL_ixP {ρ : Nv} {S : Sto} {g : MG} {body : MS} {P : List (Nat × Cell)} (xs : List Vl) (I : Nat → Nv → Sto → Prop) (h0 : I 0 ρ S) (hp : ∀ i ρ S, I i ρ S → pinsOk P S)
    (hs : ∀ i x ρ S, xs[i]? = some x → I i ρ S → ∃ ρ1, g x ρ S = some ρ1 ∧ ∃ ρ2 S2, (body ρ1 S = .nx ρ2 S2 ∨ body ρ1 S = .ct ρ2 S2) ∧ I (i + 1) ρ2 S2) :
    ∃ ρ' S', forL g body P xs ρ S = .nx ρ' S' ∧ I xs.length ρ' S' := by
  obtain ⟨ρ', S', h1, i, h2, h3, h4⟩ := forL_inv (g := g) (body := body) (pins := P) (fun r ρ S => ∃ i, r = xs.drop i ∧ i ≤ xs.length ∧ I i ρ S) (fun ρ S ⟨i, _, _, h⟩ => hp i ρ S h) (fun x r ρ S ⟨i, e, hi, h⟩ => by
    have hx : xs[i]? = some x := by
      have := List.getElem?_drop (xs := xs) (i := i) (j := 0)
      rw [← e] at this
      simpa using this.symm
    have hr : r = xs.drop (i + 1) := by
      have := List.drop_drop (i := 1) (j := i) (l := xs)
      rw [← e] at this
      simpa [Nat.add_comm] using this
    obtain ⟨ρ1, h1, ρ2, S2, h2, h3⟩ := hs i x ρ S hx h
    have hlt := (List.getElem?_eq_some_iff.mp hx).1
    exact ⟨hp i ρ S h, ρ1, h1, ρ2, S2, h2, i + 1, hr, hlt, h3⟩) xs ρ S ⟨0, rfl, Nat.zero_le _, h0⟩
  refine ⟨ρ', S', h1, ?_⟩
  have : xs.length ≤ i := by
    have := congrArg List.length h2
    rw [List.length_drop, List.length_nil] at this
    omega
  have : i = xs.length := by omega
  rw [← this]
  exact h4
end EV
namespace K36
open PySem PySem.Spec PyProof.Rows L2 EV
variable {S : Sto}
theorem v_fewest_ok {ks : List Kd} {ws sm : List Wk} (V : Valid ks ws) (A : Asked ks ws sm) (hS : Clo S) :
    v_fewest [.d (stD ks ws), .d (.tuple (sm.map fun w => .str w.1))] S = .ok (.d (.int ((allF (sm.map (jobOf ks))).length : Nat))) S := by
  have := A.len
  have q := v_run_of_ok (rows := sm.map (jobOf ks)) (S := S) (by rw [List.length_map]; omega) hS
  have q' : v_run_of [.d (.list ((sm.map (jobOf ks)).map jD))] S = .ok (.d (.tuple ((bestRun (sm.map (jobOf ks))).map fun (n : Nat) => .int n))) S := q
  have ev : m_fewest [some (.d (stD ks ws)), some (.d (.tuple (sm.map fun w => .str w.1)))] S = .ret (.d (.int ((allF (sm.map (jobOf ks))).length : Nat))) S := by
    unfold m_fewest
    refine ret_of ?_
    simp only [mBlt_eq, mCall_eq, aCons_eq, aNil_eq, mVar_eq, List.getElem?_cons_zero, List.getElem?_cons_succ, varR_some, RE.bind_ok, RE.bindA_ok, RA.bindA_ok, RA.bind_ok, List.length_cons, List.length_nil, Nat.zero_add, Nat.reduceAdd, if_true, v_need_works_ok V A hS, q', RE.ok'_ok, one_eq, lenV_tup, List.length_map, (best_perm (sm.map (jobOf ks))).length_eq]
  have e : v_fewest [.d (stD ks ws), .d (.tuple (sm.map fun w => .str w.1))] S = retR (m_fewest (envAt 2 [.d (stD ks ws), .d (.tuple (sm.map fun w => .str w.1))]) S) S := rfl
  have e0 : envAt 2 [Vl.d (stD ks ws), .d (.tuple (sm.map fun w => .str w.1))] = [some (.d (stD ks ws)), some (.d (.tuple (sm.map fun w => .str w.1)))] := rfl
  rw [e, e0, ev, retR_ret, cutS_same]
theorem repr_ok {d : PyData} (h : reprOk d = true) : reprV (.d d) S = .ok (.d (.str d.shown)) S := by
  unfold reprV
  rw [view_d]
  simp only []
  rw [if_pos h]
theorem reprOk_int {i : Int} (h0 : 0 ≤ i) (h1 : i ≤ 99) : reprOk (.int i) = true := by
  have sh := short_int h0 h1
  unfold reprOk
  have c : (PyData.int i).canLay0 = true := rfl
  have d : (PyData.int i).depth ≤ 40 := Nat.zero_le _
  have n : (PyData.int i).hasDict = false := by simp only [PyData.hasDict]
  have l : (PyData.int i).shown.length ≤ 1000000 := by omega
  rw [c, showable_int h0 h1, n, decide_eq_true d, decide_eq_true l]
  rfl
def IsDue (s : Int) (c : Cs) (dv : Vl) (T : Sto) : Prop := dv = .d (.list (duD s c)) ∨ ∃ j, dv = .r j ∧ T[j]? = some (.lst ((duD s c).map .d))
theorem due_items {s : Int} {c : Cs} {dv : Vl} {T : Sto} (h : IsDue s c dv T) : seqI dv T = .ok ((duD s c).map .d) (pinV dv T) T := by
  rcases h with rfl | ⟨j, rfl, e⟩
  · rfl
  · unfold seqI
    simp only [seqV, e]
noncomputable def bodyC : MS := (sSeq (sAsg (gUn 3 (gsCons (gNm 7) (gsCons (gNm 8) (gsCons (gNm 9) gsNil)))) (mCall 3 v__law_plain (aCons (mVar 2) (aCons (mCall 2 v__law_take (aCons (mVar 2) (aCons (mBin addV (mVar 3) (mC (.int 1))) aNil))) (aCons (mVar 4) aNil)))))
  (sSeq (sSet 10 (mBlt (one tupleV) (aCons (mLc (gNm 11) (iSeq (mVar 5)) mYes (mBin ixVS (mVar 9) (mVar 11)) [11]) aNil)))
  (sSeq (sIf (mBin (eqVS true) (mBlt (one reprV) (aCons (mCall 2 v_plan_for (aCons (mVar 7) (aCons (mVar 10) aNil))) aNil)) (mBlt (one reprV) (aCons (mBlt (one tupleV) (aCons (mLc (gNm 12) (iSeq (mVar 6)) mYes (mBin addV (mTup (aCons (mVar 8) aNil)) (mVar 12)) [12]) aNil)) aNil))) (sRet (mC (.bool false))) sNil)
  (sIf (mBin (eqVS true) (mBlt (one reprV) (aCons (mCall 2 v_fewest (aCons (mVar 7) (aCons (mVar 10) aNil))) aNil)) (mBlt (one reprV) (aCons (mUn lenSetV (mLc (gNm 12) (iSeq (mVar 6)) mYes (mBin ixVS (mVar 12) (mC (.int 0))) [12])) aNil))) (sRet (mC (.bool false))) sNil))))
theorem srtU_ints (ns : List Int) : srtD true (ns.map .int) = some ((sortU ltI ns).map .int) := by
  cases ns with
  | nil => rfl
  | cons a r =>
    unfold srtD
    have : strsD ((a :: r).map PyData.int) = none := rfl
    rw [this, intsD_map]
    rfl
set_option maxHeartbeats 1000000 in
theorem bodyC_ok {l b : Nat} {x : Cell} {c : Cs} {s : Nat} {dv : Vl} {v0 v1 a7 a8 a9 a10 a11 a12 : Option Vl} (hc : c.ok = true) (h : S[l]? = some x) (hd : IsD b x) (hb : b ≤ 60000) (hs : s ≤ 90) (hS : Clo S) (hdu : ∀ y, IsDue s c dv (S.set l y)) (hl12 : c.du.length ≤ 12) :
    ∃ (y : Cell) (b7 b8 b9 b10 b11 b12 : Option Vl), IsD (b + 30) y ∧ bodyC [v0, v1, some (.r l), some (.d (.int s)), some (.d (szD s c)), some (.d (odD c)), some dv, a7, a8, a9, a10, a11, a12] S =
      .nx [v0, v1, some (.r l), some (.d (.int s)), some (.d (szD s c)), some (.d (odD c)), some dv, b7, b8, b9, b10, b11, b12] (S.set l y) := by
  have hok := hc
  unfold Cs.ok at hok
  simp only [Bool.and_eq_true, decide_eq_true_eq, List.all_eq_true] at hok
  obtain ⟨⟨⟨⟨⟨⟨⟨c1, c2⟩, c3⟩, c4⟩, c5⟩, c6⟩, c7⟩, c8⟩ := hok
  obtain ⟨least, y1, w1, d1, e1⟩ := take_nat h hd (by omega) (many := s + 1) (by omega) (by omega)
  have e1 : v__law_take [.r l, .d (.int ((s : Int) + 1))] S = .ok (.d (.int least)) (S.set l y1) := e1
  have g1 : (S.set l y1)[l]? = some y1 := at_set h
  obtain ⟨z, nms, y2, p1, p2, p3, p4, d2, e2⟩ := v__law_plain_ok (S := S.set l y1) (least := least) (s := s) (sz := c.sz) g1 d1 (by omega) c6
  rw [List.set_set] at e2
  have e2 : v__law_plain [.r l, .d (.int least), .d (szD s c)] (S.set l y1) = .ok (.d (.tuple [stD [(z, (least : Int))] (wsOf z s nms c.sz), .str z, .list (nms.map .str)])) (S.set l y2) := e2
  have V := case_valid hc (least := least) (s := s) p1 p2 p3 p4 (by omega) (by omega) (by omega)
  obtain ⟨A, J⟩ := case_asked hc (z := z) (least := least) (s := s) p2 (by omega) (by omega)
  obtain ⟨cc, rr, aa, hy2, _, _⟩ := id d2
  have c5' : Clo (S.set l y2) := clo_set hS (by rw [hy2]; rfl)
  have pl := v_plan_for_ok V A c5'
  rw [J, case_plan hc] at pl
  have fw := v_fewest_ok V A c5'
  rw [J, case_few hc] at fw
  have du := due_items (hdu y2)
  have wk : (smOf z s nms c).map (fun w => PyData.str w.1) = c.od.map fun i => PyData.str (nms.getD i Str.empty) := by
    unfold smOf
    rw [List.map_map]
    rfl
  rw [wk] at pl fw
  let ST : PyData := stD [(z, (least : Int))] (wsOf z s nms c.sz)
  let WK : PyData := .tuple (c.od.map fun i => PyData.str (nms.getD i Str.empty))
  have szl : sizeLine = 16777216 := sizeLine_eq
  have cw : mLc (gNm 11) (iSeq (mVar 5)) mYes (mBin ixVS (mVar 9) (mVar 11)) [11] [v0, v1, some (.r l), some (.d (.int s)), some (.d (szD s c)), some (.d (odD c)), some dv, some (.d ST), some (.d (.str z)), some (.d (.list (nms.map .str))), a10, a11, a12] (S.set l y2) = .ok (.d (.list (c.od.map fun i => PyData.str (nms.getD i Str.empty)))) (S.set l y2) :=
    mLc_map c.od (fun (n : Nat) => .int n) _ (by simp [odD]) (by omega) fun i hi => ⟨_, rfl, by
      have lt : i < nms.length := by rw [p2]; exact c5 i hi
      have e : nms[i]? = some nms[i] := List.getElem?_eq_getElem lt
      simp only [mBin_eq, mVar_eq, wipeN_cons, wipeN_nil, List.set_cons_succ, List.set_cons_zero, List.getElem?_cons_zero, List.getElem?_cons_succ, varR_some, RE.bind_ok, ixVS_lst, EV.atI_nat, List.getElem?_map, e, Option.map_some, ixR_some, List.getD_eq_getElem?_getD, Option.getD_some]⟩
  have cd : mLc (gNm 12) (iSeq (mVar 6)) mYes (mBin addV (mTup (aCons (mVar 8) aNil)) (mVar 12)) [12] [v0, v1, some (.r l), some (.d (.int s)), some (.d (szD s c)), some (.d (odD c)), some dv, some (.d ST), some (.d (.str z)), some (.d (.list (nms.map .str))), some (.d WK), a11, a12] (S.set l y2) = .ok (.d (.list (c.du.map (upO z s)))) (S.set l y2) := by
    have q := mLc_pure (ρ := [v0, v1, some (.r l), some (.d (.int s)), some (.d (szD s c)), some (.d (odD c)), some dv, some (.d ST), some (.d (.str z)), some (.d (.list (nms.map .str))), some (.d WK), a11, a12]) (S := S.set l y2) (g := gNm 12) (mi := iSeq (mVar 6)) (t := mYes) (e := mBin addV (mTup (aCons (mVar 8) aNil)) (mVar 12)) (pins := pinV dv (S.set l y2)) (vs := [12])
      c.du (fun o => .d (doD s o)) (fun _ => true) (upO z s) (by
        rw [iSeq_eq, mVar_eq]
        simp only [List.getElem?_cons_zero, List.getElem?_cons_succ, varR_some, toI_ok, du, duD, List.map_map]
        rfl) (pinsOk_of _ _) (by omega) fun o ho => ⟨_, rfl, rfl, fun _ => by
        simp [doD, upO, szl]⟩
    rw [List.filter_eq_self.mpr fun _ _ => rfl] at q
    exact q
  have cl : mLc (gNm 12) (iSeq (mVar 6)) mYes (mBin ixVS (mVar 12) (mC (.int 0))) [12] [v0, v1, some (.r l), some (.d (.int s)), some (.d (szD s c)), some (.d (odD c)), some dv, some (.d ST), some (.d (.str z)), some (.d (.list (nms.map .str))), some (.d WK), a11, a12] (S.set l y2) = .ok (.d (.list ((c.du.map (·.1)).map .int))) (S.set l y2) := by
    have q := mLc_pure (ρ := [v0, v1, some (.r l), some (.d (.int s)), some (.d (szD s c)), some (.d (odD c)), some dv, some (.d ST), some (.d (.str z)), some (.d (.list (nms.map .str))), some (.d WK), a11, a12]) (S := S.set l y2) (g := gNm 12) (mi := iSeq (mVar 6)) (t := mYes) (e := mBin ixVS (mVar 12) (mC (.int 0))) (pins := pinV dv (S.set l y2)) (vs := [12])
      c.du (fun o => .d (doD s o)) (fun _ => true) (fun o => .int o.1) (by
        rw [iSeq_eq, mVar_eq]
        simp only [List.getElem?_cons_zero, List.getElem?_cons_succ, varR_some, toI_ok, du, duD, List.map_map]
        rfl) (pinsOk_of _ _) (by omega) fun o ho => ⟨_, rfl, rfl, fun _ => by
        simp [doD]⟩
    rw [List.filter_eq_self.mpr fun _ _ => rfl] at q
    rw [List.map_map]
    exact q
  have rp : reprOk (.tuple (c.du.map (upO z s))) = true := case_repr hc p1 (by omega) (by omega)
  have sl : (sortU ltI (c.du.map (·.1))).length ≤ 12 := Nat.le_trans (sortU_len _) (by rw [List.length_map]; exact hl12)
  have ri : reprOk (.int ((sortU ltI (c.du.map (·.1))).length : Nat)) = true := reprOk_int (by omega) (by omega)
  have ls : lenSetV (.d (.list ((c.du.map (·.1)).map .int))) (S.set l y2) = .ok (.d (.int ((sortU ltI (c.du.map (·.1))).length : Nat))) (S.set l y2) := by
    unfold lenSetV someD
    simp only [seqV_lst, allD_map]
    rw [if_pos (by rw [List.length_map, List.length_map]; omega), srtU_ints]
    simp only [List.length_map]
  refine ⟨y2, some (.d ST), some (.d (.str z)), some (.d (.list (nms.map .str))), some (.d WK), a11, a12, d2.up (by omega), ?_⟩
  unfold bodyC
  refine (seq_step (ρ' := [v0, v1, some (.r l), some (.d (.int s)), some (.d (szD s c)), some (.d (odD c)), some dv, some (.d ST), some (.d (.str z)), some (.d (.list (nms.map .str))), a10, a11, a12]) (S' := S.set l y2) ?_).trans ?_
  · have pc : mCall 3 v__law_plain (aCons (mVar 2) (aCons (mCall 2 v__law_take (aCons (mVar 2) (aCons (mBin addV (mVar 3) (mC (.int 1))) aNil))) (aCons (mVar 4) aNil))) [v0, v1, some (.r l), some (.d (.int s)), some (.d (szD s c)), some (.d (odD c)), some dv, a7, a8, a9, a10, a11, a12] S = .ok (.d (.tuple [ST, .str z, .list (nms.map .str)])) (S.set l y2) := by
      simp only [mCall_eq, mBin_eq, mC_eq, aCons_eq, aNil_eq, mVar_eq, List.getElem?_cons_zero, List.getElem?_cons_succ, varR_some, RE.bind_ok, RE.bindA_ok, RA.bindA_ok, RA.bind_ok, addV_int, List.length_cons, List.length_nil, Nat.zero_add, Nat.reduceAdd, if_true, e1, e2, RE.ok'_ok, ST]
    rw [sAsg_eq, pc, RE.toS_ok]
    rfl
  refine (seq_step (set_of (x := .d WK) (S' := S.set l y2) ?_)).trans ?_
  · rw [mBlt_eq, aCons_eq, cw]
    simp only [RE.bindA_ok, aNil_eq, RA.bindA_ok, RA.bind_ok, one_eq]
    exact tupleV_lst
  simp only [List.set_cons_succ, List.set_cons_zero]
  refine (seq_step ((if_no (S' := S.set l y2) ?_).trans rfl)).trans ?_
  · have t1 : ∀ T : Sto, tupleV (.d (.list (c.du.map (upO z s)))) T = .ok (.d (.tuple (c.du.map (upO z s)))) T := fun T => tupleV_lst
    have pl' : v_plan_for [.d ST, .d WK] (S.set l y2) = .ok (.d (.tuple (c.du.map (upO z s)))) (S.set l y2) := pl
    rw [mBin_eq, mBlt_eq, aCons_eq, mCall_eq]
    simp only [mVar_eq, aCons_eq, aNil_eq, List.getElem?_cons_zero, List.getElem?_cons_succ, varR_some, RE.bind_ok, RE.bindA_ok, RA.bindA_ok, RA.bind_ok, List.length_cons, List.length_nil, Nat.zero_add, Nat.reduceAdd, if_true, pl', RE.ok'_ok, one_eq, repr_ok rp]
    rw [mBlt_eq, aCons_eq, mBlt_eq, aCons_eq, cd]
    simp only [aNil_eq, RE.bind_ok, RE.bindA_ok, RA.bindA_ok, RA.bind_ok, one_eq, t1, repr_ok rp, eqVS_str, beq_self_eq_true, Bool.not_true, if_true]
  refine (if_no (S' := S.set l y2) ?_).trans rfl
  have fw' : v_fewest [.d ST, .d WK] (S.set l y2) = .ok (.d (.int ((sortU ltI (c.du.map (·.1))).length : Nat))) (S.set l y2) := fw
  rw [mBin_eq, mBlt_eq, aCons_eq, mCall_eq]
  simp only [mVar_eq, aCons_eq, aNil_eq, List.getElem?_cons_zero, List.getElem?_cons_succ, varR_some, RE.bind_ok, RE.bindA_ok, RA.bindA_ok, RA.bind_ok, List.length_cons, List.length_nil, Nat.zero_add, Nat.reduceAdd, if_true, fw', RE.ok'_ok, one_eq, repr_ok ri]
  rw [mBlt_eq, aCons_eq, mUn_eq, cl, RE.bind_ok, ls]
  simp only [aNil_eq, RE.bind_ok, RE.bindA_ok, RA.bindA_ok, RA.bind_ok, one_eq, repr_ok ri, eqVS_str, beq_self_eq_true, Bool.not_true, if_true]
end K36

namespace K36
open PySem PySem.Spec PyProof.Rows L2 EV
variable {S : Sto}
/-! ### none ahead lets another one be: one level -/
def Flat (rows : List Jb) : Prop := rows.Pairwise fun a b => a.1 = b.1 → ¬ a.2.2 < b.2.1
theorem flat_fold : ∀ (rows done : List Jb), Flat (done ++ rows) → rows.foldl (fun acc r => acc ++ [(r, lvl acc r)]) (done.map fun r => (r, (0 : Int))) = (done ++ rows).map fun r => (r, (0 : Int))
  | [], done, _ => by simp
  | r :: rows, done, h => by
    have e : lvl (done.map fun r => (r, (0 : Int))) r = 0 := by
      unfold lvl
      have : someOf (done.map fun r => (r, (0 : Int))) r = [] := by
        unfold someOf
        rw [List.filter_eq_nil_iff]
        intro p hp
        obtain ⟨a, ha, rfl⟩ := List.mem_map.mp hp
        have q := (List.pairwise_append.mp h).2.2 a ha r List.mem_cons_self
        simp only [Bool.and_eq_true, beq_iff_eq, not_and]
        intro e
        have := q e
        simp [apart, e, this]
      rw [this]
      rfl
    have h' : Flat ((done ++ [r]) ++ rows) := by rw [List.append_assoc]; exact h
    rw [List.foldl_cons, e]
    have ih := flat_fold rows (done ++ [r]) h'
    rw [List.map_append] at ih
    rw [List.append_assoc] at ih
    exact ih
theorem flat_lv {rows : List Jb} (h : Flat rows) : lvL rows = rows.map fun r => (r, (0 : Int)) := flat_fold rows [] h
theorem flat_few {rows : List Jb} (h : Flat rows) : (allF rows).length = (kindsOf rows).length := by
  rw [allF_len]
  have one : ∀ z ∈ kindsOf rows, (foundOf rows z).length = 1 := fun z hz => by
    have fl := found_len hz
    obtain ⟨i, hi, e⟩ := kinds_has hz
    have ne : (idx rows z rows.length).map (lv rows) ≠ [] := fun e2 => by
      have m : lv rows i ∈ (idx rows z rows.length).map (lv rows) := List.mem_map.mpr ⟨i, idx_mem.mpr ⟨hi, e⟩, rfl⟩
      rw [e2] at m
      cases m
    obtain ⟨j, hj, e2⟩ := List.mem_map.mp (listMax_mem ne)
    have hj := (idx_mem.mp hj).1
    have z0 : lv rows j = 0 := by
      unfold lv
      rw [flat_lv h, List.getD_eq_getElem?_getD, List.getElem?_map, get_at hj]
      rfl
    have : top' rows z = 0 := by
      unfold top'
      rw [← e2]
      exact z0
    omega
  have : (kindsOf rows).map (fun z => (foundOf rows z).length) = (kindsOf rows).map fun _ => 1 := List.map_congr_left one
  rw [this]
  induction kindsOf rows with
  | nil => rfl
  | cons a r ih => rw [List.map_cons, List.sum_cons, ih, List.length_cons]; omega
theorem reprOk_of {d : PyData} (c : d.canLay0 = true) (s : d.showable = true) (dp : d.depth ≤ 40) (lf : d.leavesShort 8 = true) (w : d.weight ≤ 10000) : reprOk d = true := by
  have n : d.hasDict = false := PyData.hasDict_of_canLay _ c
  have l : d.shown.length ≤ 1000000 := by
    have q := PyData.shown_le 8 (Nat.le_refl _) d lf
    omega
  unfold reprOk
  rw [c, s, n, decide_eq_true dp, decide_eq_true l]
  rfl
section
variable {one other a b c : Str} {s : Nat}
def jA (one : Str) (s : Nat) : Jb := (one, s, s)
def jB (other : Str) (s : Nat) : Jb := (other, (s : Int) + 3, (s : Int) + 4)
def jC (one : Str) (s : Nat) : Jb := (one, s, (s : Int) + 2)
def ks2 (one other : Str) (s : Nat) : List Kd := [(one, s), (other, (s : Int) + 3)]
def wA (one a : Str) (s : Nat) : Wk := (a, one, 0, s)
def wB (other b : Str) (s : Nat) : Wk := (b, other, s, (s : Int) + 4)
def wC (one c : Str) (s : Nat) : Wk := (c, one, 0, (s : Int) + 2)
def ws2 (one other a b c : Str) (s : Nat) : List Wk := [wA one a s, wB other b s, wC one c s]
theorem two_valid (ho : NameOk one) (ht : NameOk other) (hne : one ≠ other) (ha : NameOk a) (hb : NameOk b) (hc : NameOk c) (nd : [a, b, c].Nodup) (hs : s ≤ 90) : Valid (ks2 one other s) (ws2 one other a b c s) := by
  refine ⟨by simp [ks2], by simp [ks2], by simp [ws2], by simp [ks2, hne], by simpa [ws2, wA, wB, wC] using nd, ?_, ?_⟩
  · intro p hp
    simp only [ks2, List.mem_cons, List.not_mem_nil, or_false] at hp
    rcases hp with rfl | rfl
    · exact ⟨ho, by show (0 : Int) ≤ s; omega, by show (s : Int) ≤ 99; omega⟩
    · exact ⟨ht, by show (0 : Int) ≤ (s : Int) + 3; omega, by show (s : Int) + 3 ≤ 99; omega⟩
  · intro w hw
    simp only [ws2, List.mem_cons, List.not_mem_nil, or_false] at hw
    rcases hw with rfl | rfl | rfl
    · exact ⟨ha, by simp [wA, ks2], by show (0 : Int) ≤ 0; omega, by show (0 : Int) ≤ s; omega, by show (s : Int) ≤ 99; omega⟩
    · exact ⟨hb, by simp [wB, ks2], by show (0 : Int) ≤ s; omega, by show (s : Int) ≤ (s : Int) + 4; omega, by show (s : Int) + 4 ≤ 99; omega⟩
    · exact ⟨hc, by simp [wC, ks2], by show (0 : Int) ≤ 0; omega, by show (0 : Int) ≤ (s : Int) + 2; omega, by show (s : Int) + 2 ≤ 99; omega⟩
theorem so1 : sizeOf' (ks2 one other s) one = s := by simp [sizeOf', ks2]
theorem so2 (hne : one ≠ other) : sizeOf' (ks2 one other s) other = (s : Int) + 3 := by simp [sizeOf', ks2, hne]
theorem jobA : jobOf (ks2 one other s) (wA one a s) = jA one s := by
  show (one, (if sizeOf' (ks2 one other s) one > 0 then sizeOf' (ks2 one other s) one else 0), (s : Int)) = (one, (s : Int), (s : Int))
  rw [so1]
  have : (if (s : Int) > 0 then (s : Int) else 0) = s := by split <;> omega
  rw [this]
theorem jobB (hne : one ≠ other) : jobOf (ks2 one other s) (wB other b s) = jB other s := by
  show (other, (if sizeOf' (ks2 one other s) other > (s : Int) then sizeOf' (ks2 one other s) other else (s : Int)), (s : Int) + 4) = (other, (s : Int) + 3, (s : Int) + 4)
  rw [so2 hne]
  have : (if (s : Int) + 3 > (s : Int) then (s : Int) + 3 else (s : Int)) = (s : Int) + 3 := by split <;> omega
  rw [this]
theorem jobC : jobOf (ks2 one other s) (wC one c s) = jC one s := by
  show (one, (if sizeOf' (ks2 one other s) one > 0 then sizeOf' (ks2 one other s) one else 0), (s : Int) + 2) = (one, (s : Int), (s : Int) + 2)
  rw [so1]
  have : (if (s : Int) > 0 then (s : Int) else 0) = s := by split <;> omega
  rw [this]
theorem two_asked (hne : one ≠ other) (sm : List Wk) (hl : sm.length ≤ 12) (hm : ∀ w ∈ sm, w ∈ ws2 one other a b c s) : Asked (ks2 one other s) (ws2 one other a b c s) sm := by
  refine ⟨hl, hm, fun w hw => ?_⟩
  have := hm w hw
  simp only [ws2, List.mem_cons, List.not_mem_nil, or_false] at this
  rcases this with rfl | rfl | rfl
  · show sizeOf' (ks2 one other s) one ≤ (s : Int)
    rw [so1]; exact Int.le_refl _
  · show sizeOf' (ks2 one other s) other ≤ (s : Int) + 4
    rw [so2 hne]; omega
  · show sizeOf' (ks2 one other s) one ≤ (s : Int) + 2
    rw [so1]; omega
def rows5 (one other : Str) (s : Nat) : List Jb := [jA one s, jB other s, jC one s, jB other s, jA one s]
theorem flat5 (hne : one ≠ other) : Flat (rows5 one other s) := by
  have hne' : ¬ other = one := fun e => hne e.symm
  simp only [Flat, rows5, List.pairwise_cons, List.mem_cons, List.not_mem_nil, or_false, List.Pairwise.nil, and_true, forall_eq_or_imp, forall_eq, jA, jB, jC, hne, hne', false_implies, true_implies, true_and]
  refine ⟨⟨?_, ?_⟩, ?_, ?_⟩ <;> first | omega | exact ⟨by omega, by omega⟩ | exact ⟨by omega, fun _ => trivial⟩
theorem kinds5 (hne : one ≠ other) : (kindsOf (rows5 one other s)).length = 2 := by
  have p : (kindsOf (rows5 one other s)).Perm [one, other] := (List.perm_ext_iff_of_nodup (kinds_nd _) (by simp [hne])).mpr fun x => by
    unfold kindsOf
    rw [sortU_mem]
    simp only [rows5, jA, jB, jC, List.map_cons, List.map_nil, List.mem_cons, List.not_mem_nil, or_false]
    constructor
    · rintro (h | h | h | h | h) <;> simp [h]
    · rintro (h | h) <;> simp [h]
  exact p.length_eq
theorem plan5 (hne : one ≠ other) : (tl (lvL (rows5 one other s))).2 = [.tuple [.str one, .int 0, .int s], .tuple [.str other, .int 0, .int ((s : Int) + 4)], .tuple [.str one, .int 0, .int s], .tuple [.str other, .int 0, .int ((s : Int) + 4)], .tuple [.str one, .int 0, .int s]] := by
  rw [flat_lv (flat5 hne)]
  have hne' : ¬ other = one := fun e => hne e.symm
  have m1 : mn (s : Int) s = s := by simp [mn]
  have m2 : mn ((s : Int) + 4) ((s : Int) + 4) = (s : Int) + 4 := by simp [mn]
  have m3 : mn ((s : Int) + 2) s = s := by unfold mn; split <;> omega
  simp [rows5, jA, jB, jC, tl, stepT, putT, lookT, kJ, hne, hne', m1, m2, m3]
theorem plan1 : (tl (lvL [jC one s])).2 = [.tuple [.str one, .int 0, .int ((s : Int) + 2)]] := by
  have f : Flat [jC one s] := List.pairwise_singleton _ _
  rw [flat_lv f]
  have m2 : mn ((s : Int) + 2) ((s : Int) + 2) = (s : Int) + 2 := by simp [mn]
  simp [jC, tl, stepT, putT, lookT, kJ, m2]
end
end K36

namespace K36
open PySem PySem.Spec PyProof.Rows L2 EV
variable {S : Sto}
theorem shown2 : (PyData.int 2).shown = Str.ofString "2" := by decide +kernel
set_option maxHeartbeats 1000000 in
theorem v__law_two_right_ok {l b0 : Nat} {x : Cell} {s : Nat} (h : S[l]? = some x) (hd : IsD b0 x) (hb0 : b0 ≤ 70000) (hs : s ≤ 90) (hS : Clo S) : ∃ (y : Cell), IsD (b0 + 20) y ∧ v__law_two_right [.r l, .d (.int s)] S = .ok (.d (.bool true)) (S.set l y) := by
  obtain ⟨n1, y1, k1, k2, k3, d1, e1⟩ := v__law_names_ok h hd (by omega) (many := 2) (by omega)
  obtain ⟨one, other, rfl⟩ : ∃ p q, n1 = [p, q] := by
    match n1, k1 with
    | [p, q], _ => exact ⟨p, q, rfl⟩
  have g1 : (S.set l y1)[l]? = some y1 := at_set h
  obtain ⟨n2, y2, l1, l2, l3, d2, e2⟩ := v__law_names_ok (S := S.set l y1) g1 d1 (by omega) (many := 3) (by omega)
  rw [List.set_set] at e2
  obtain ⟨a, b, c, rfl⟩ : ∃ p q r, n2 = [p, q, r] := by
    match n2, l1 with
    | [p, q, r], _ => exact ⟨p, q, r, rfl⟩
  have hne : one ≠ other := fun e => by simp [e] at k2
  have ho := k3 one (by simp)
  have ht := k3 other (by simp)
  have V := two_valid ho ht hne (l3 a (by simp)) (l3 b (by simp)) (l3 c (by simp)) l2 hs
  obtain ⟨cc, rr, aa, hy2, _, _⟩ := id d2
  have cl : Clo (S.set l y2) := clo_set hS (by rw [hy2]; rfl)
  have A5 := two_asked (a := a) (b := b) (c := c) (s := s) hne [wA one a s, wB other b s, wC one c s, wB other b s, wA one a s] (by simp) (fun w hw => by
    simp only [List.mem_cons, List.not_mem_nil, or_false] at hw
    simp only [ws2, List.mem_cons, List.not_mem_nil, or_false]
    rcases hw with h | h | h | h | h <;> simp [h])
  have A1 := two_asked (a := a) (b := b) (c := c) (s := s) hne [wC one c s] (by simp) (fun w hw => by
    have : w = wC one c s := by simpa using hw
    simp [ws2, this])
  have A0 := two_asked (one := one) (other := other) (a := a) (b := b) (c := c) (s := s) hne [] (by simp) (fun w hw => by cases hw)
  have r5 : [wA one a s, wB other b s, wC one c s, wB other b s, wA one a s].map (jobOf (ks2 one other s)) = rows5 one other s := by
    simp only [List.map_cons, List.map_nil, jobA, jobB hne, jobC, rows5]
  have r1 : [wC one c s].map (jobOf (ks2 one other s)) = [jC one s] := by
    simp only [List.map_cons, List.map_nil, jobC]
  have p5 := v_plan_for_ok V A5 cl
  rw [r5, plan5 hne] at p5
  have f5 := v_fewest_ok V A5 cl
  rw [r5, flat_few (flat5 hne), kinds5 hne] at f5
  have p1 := v_plan_for_ok V A1 cl
  rw [r1, plan1] at p1
  have p0 := v_plan_for_ok V A0 cl
  have f0 := v_fewest_ok V A0 cl
  let ST : PyData := stD (ks2 one other s) (ws2 one other a b c s)
  have P5 : v_plan_for [.d ST, .d (.tuple [.str a, .str b, .str c, .str b, .str a])] (S.set l y2) = .ok (.d (.tuple [.tuple [.str one, .int 0, .int s], .tuple [.str other, .int 0, .int ((s : Int) + 4)], .tuple [.str one, .int 0, .int s], .tuple [.str other, .int 0, .int ((s : Int) + 4)], .tuple [.str one, .int 0, .int s]])) (S.set l y2) := p5
  have F5 : v_fewest [.d ST, .d (.tuple [.str a, .str b, .str c, .str b, .str a])] (S.set l y2) = .ok (.d (.int 2)) (S.set l y2) := f5
  have P1 : v_plan_for [.d ST, .d (.tuple [.str c])] (S.set l y2) = .ok (.d (.tuple [.tuple [.str one, .int 0, .int ((s : Int) + 2)]])) (S.set l y2) := p1
  have P0 : v_plan_for [.d ST, .d (.tuple [])] (S.set l y2) = .ok (.d (.tuple [])) (S.set l y2) := p0
  have F0 : v_fewest [.d ST, .d (.tuple [])] (S.set l y2) = .ok (.d (.int 0)) (S.set l y2) := f0
  have rk5 : reprOk (.tuple [.tuple [.str one, .int 0, .int s], .tuple [.str other, .int 0, .int ((s : Int) + 4)], .tuple [.str one, .int 0, .int s], .tuple [.str other, .int 0, .int ((s : Int) + 4)], .tuple [.str one, .int 0, .int s]]) = true := by
    refine reprOk_rows (fun d hd => ?_) (by simp)
    simp only [List.mem_cons, List.not_mem_nil, or_false] at hd
    rcases hd with rfl | rfl | rfl | rfl | rfl
    · exact ⟨one, 0, s, rfl, ho, by omega, by omega, by omega, by omega⟩
    · exact ⟨other, 0, _, rfl, ht, by omega, by omega, by omega, by omega⟩
    · exact ⟨one, 0, s, rfl, ho, by omega, by omega, by omega, by omega⟩
    · exact ⟨other, 0, _, rfl, ht, by omega, by omega, by omega, by omega⟩
    · exact ⟨one, 0, s, rfl, ho, by omega, by omega, by omega, by omega⟩
  have rk2 : reprOk (.int 2) = true := reprOk_int (by omega) (by omega)
  have rkL : reprOk (.list [.tuple [], .int 0, .tuple [.tuple [.str one, .int 0, .int ((s : Int) + 2)]]]) = true := by
    obtain ⟨q1, q2, q3, q4, q5⟩ := rows_facts [.tuple [.str one, .int 0, .int ((s : Int) + 2)]] (fun d hd => by
      have : d = .tuple [.str one, .int 0, .int ((s : Int) + 2)] := by simpa using hd
      exact ⟨one, 0, _, this, ho, by omega, by omega, by omega, by omega⟩)
    have s0 := showable_int (i := 0) (by omega) (by omega)
    have l0 := short_int (i := 0) (by omega) (by omega)
    refine reprOk_of ?_ ?_ ?_ ?_ ?_
    · have : (PyData.list [.tuple [], .int 0, .tuple [.tuple [.str one, .int 0, .int ((s : Int) + 2)]]]).canLay0 = (true && (true && (PyData.canLayAll0 [.tuple [.str one, .int 0, .int ((s : Int) + 2)]] && true))) := rfl
      rw [this, q1]
      rfl
    · show (PyData.showableAll [.tuple [], .int 0, .tuple [.tuple [.str one, .int 0, .int ((s : Int) + 2)]]]) = true
      have : PyData.showableAll [.tuple [], .int 0, .tuple [.tuple [.str one, .int 0, .int ((s : Int) + 2)]]] = (true && ((PyData.int 0).showable && (PyData.showableAll [.tuple [.str one, .int 0, .int ((s : Int) + 2)]] && true))) := by
        simp only [PyData.showableAll, PyData.showable]
      rw [this, s0, q2]
      rfl
    · have : (PyData.list [.tuple [], .int 0, .tuple [.tuple [.str one, .int 0, .int ((s : Int) + 2)]]]).depth = 3 := by simp [PyData.depth, PyData.depthAll]
      omega
    · have : (PyData.list [.tuple [], .int 0, .tuple [.tuple [.str one, .int 0, .int ((s : Int) + 2)]]]).leavesShort 8 = (true && (decide ((PyData.shown (.int 0)).length ≤ 8) && (PyData.leavesShortAll 8 [.tuple [.str one, .int 0, .int ((s : Int) + 2)]] && true))) := by
        simp only [PyData.leavesShort, PyData.leavesShortAll]
      rw [this, q4, decide_eq_true l0]
      rfl
    · have : (PyData.list [.tuple [], .int 0, .tuple [.tuple [.str one, .int 0, .int ((s : Int) + 2)]]]).weight = 0 + 1 + ((PyData.int 0).weight + 1 + (PyData.weightAll [.tuple [.str one, .int 0, .int ((s : Int) + 2)]] + 1 + 0)) := by
        simp only [PyData.weight, PyData.weightAll]
      have w0 := weight_int (i := 0) (by omega) (by omega)
      simp only [List.length_cons, List.length_nil] at q5
      omega
  refine ⟨y2, d2.up (by omega), ?_⟩
  let J3 : PyData := .tuple [.tuple [.str a, .str one, .int 0, .int s], .tuple [.str b, .str other, .int s, .int ((s : Int) + 4)], .tuple [.str c, .str one, .int 0, .int ((s : Int) + 2)]]
  let D5 : PyData := .tuple [.tuple [.str one, .int 0, .int s], .tuple [.str other, .int 0, .int ((s : Int) + 4)], .tuple [.str one, .int 0, .int s], .tuple [.str other, .int 0, .int ((s : Int) + 4)], .tuple [.str one, .int 0, .int s]]
  have ev : m__law_two_right [some (.r l), some (.d (.int s)), none, none, none, none, none, none, none, none] S = .ret (.d (.bool true)) (S.set l y2) := by
    unfold m__law_two_right
    refine (seq_step (ρ' := [some (.r l), some (.d (.int s)), some (.d (.str one)), some (.d (.str other)), none, none, none, none, none, none]) (S' := S.set l y1) ?_).trans ?_
    · have q : mCall 2 v__law_names (aCons (mVar 0) (aCons (mC (.int 2)) aNil)) [some (.r l), some (.d (.int s)), none, none, none, none, none, none, none, none] S = .ok (.d (.list [.str one, .str other])) (S.set l y1) := by
        have e1 : v__law_names [.r l, .d (.int 2)] S = .ok (.d (.list [.str one, .str other])) (S.set l y1) := e1
        simp only [mCall_eq, aCons_eq, aNil_eq, mVar_eq, mC_eq, List.getElem?_cons_zero, List.getElem?_cons_succ, varR_some, RE.bindA_ok, RA.bindA_ok, RA.bind_ok, List.length_cons, List.length_nil, Nat.zero_add, Nat.reduceAdd, if_true, e1, RE.ok'_ok]
      rw [sAsg_eq, q, RE.toS_ok]
      rfl
    refine (seq_step (ρ' := [some (.r l), some (.d (.int s)), some (.d (.str one)), some (.d (.str other)), some (.d (.str a)), some (.d (.str b)), some (.d (.str c)), none, none, none]) (S' := S.set l y2) ?_).trans ?_
    · have q : mCall 2 v__law_names (aCons (mVar 0) (aCons (mC (.int 3)) aNil)) [some (.r l), some (.d (.int s)), some (.d (.str one)), some (.d (.str other)), none, none, none, none, none, none] (S.set l y1) = .ok (.d (.list [.str a, .str b, .str c])) (S.set l y2) := by
        have e2 : v__law_names [.r l, .d (.int 3)] (S.set l y1) = .ok (.d (.list [.str a, .str b, .str c])) (S.set l y2) := e2
        simp only [mCall_eq, aCons_eq, aNil_eq, mVar_eq, mC_eq, List.getElem?_cons_zero, List.getElem?_cons_succ, varR_some, RE.bindA_ok, RA.bindA_ok, RA.bind_ok, List.length_cons, List.length_nil, Nat.zero_add, Nat.reduceAdd, if_true, e2, RE.ok'_ok]
      rw [sAsg_eq, q, RE.toS_ok]
      rfl
    refine (seq_step (set_of (x := .d J3) (S' := S.set l y2) rfl)).trans ?_
    refine (seq_step (set_of (x := .d ST) (S' := S.set l y2) rfl)).trans ?_
    refine (seq_step (set_of (x := .d D5) (S' := S.set l y2) rfl)).trans ?_
    simp only [List.set_cons_succ, List.set_cons_zero]
    refine (seq_step ((if_no (S' := S.set l y2) ?_).trans rfl)).trans ?_
    · have t5 : mTup (aCons (mVar 4) (aCons (mVar 5) (aCons (mVar 6) (aCons (mVar 5) (aCons (mVar 4) aNil))))) [some (.r l), some (.d (.int s)), some (.d (.str one)), some (.d (.str other)), some (.d (.str a)), some (.d (.str b)), some (.d (.str c)), some (.d J3), some (.d ST), some (.d D5)] (S.set l y2) = .ok (.d (.tuple [.str a, .str b, .str c, .str b, .str a])) (S.set l y2) := rfl
      have c1 : mBin (eqVS true) (mBlt (EV.one reprV) (aCons (mCall 2 v_plan_for (aCons (mVar 8) (aCons (mTup (aCons (mVar 4) (aCons (mVar 5) (aCons (mVar 6) (aCons (mVar 5) (aCons (mVar 4) aNil)))))) aNil))) aNil)) (mBlt (EV.one reprV) (aCons (mVar 9) aNil)) [some (.r l), some (.d (.int s)), some (.d (.str one)), some (.d (.str other)), some (.d (.str a)), some (.d (.str b)), some (.d (.str c)), some (.d J3), some (.d ST), some (.d D5)] (S.set l y2) = .ok (.d (.bool false)) (S.set l y2) := by
        have rk5' : reprOk D5 = true := rk5
        have P5' : v_plan_for [.d ST, .d (.tuple [.str a, .str b, .str c, .str b, .str a])] (S.set l y2) = .ok (.d D5) (S.set l y2) := P5
        rw [mBin_eq, mBlt_eq, aCons_eq, mCall_eq, aCons_eq, mVar_eq]
        simp only [List.getElem?_cons_zero, List.getElem?_cons_succ, varR_some, RE.bindA_ok]
        rw [aCons_eq, t5]
        simp only [aNil_eq, mVar_eq, mBlt_eq, aCons_eq, List.getElem?_cons_zero, List.getElem?_cons_succ, varR_some, RE.bind_ok, RE.bindA_ok, RA.bindA_ok, RA.bind_ok, List.length_cons, List.length_nil, Nat.zero_add, Nat.reduceAdd, if_true, P5', RE.ok'_ok, one_eq, repr_ok rk5', eqVS_str, beq_self_eq_true, Bool.not_true]
      have c2 : mBin (eqVS true) (mBlt (EV.one reprV) (aCons (mCall 2 v_fewest (aCons (mVar 8) (aCons (mTup (aCons (mVar 4) (aCons (mVar 5) (aCons (mVar 6) (aCons (mVar 5) (aCons (mVar 4) aNil)))))) aNil))) aNil)) (mC (.str "2")) [some (.r l), some (.d (.int s)), some (.d (.str one)), some (.d (.str other)), some (.d (.str a)), some (.d (.str b)), some (.d (.str c)), some (.d J3), some (.d ST), some (.d D5)] (S.set l y2) = .ok (.d (.bool false)) (S.set l y2) := by
        rw [mBin_eq, mBlt_eq, aCons_eq, mCall_eq, aCons_eq, mVar_eq]
        simp only [List.getElem?_cons_zero, List.getElem?_cons_succ, varR_some, RE.bindA_ok]
        rw [aCons_eq, t5]
        simp only [aNil_eq, mC_eq, RE.bind_ok, RE.bindA_ok, RA.bindA_ok, RA.bind_ok, List.length_cons, List.length_nil, Nat.zero_add, Nat.reduceAdd, if_true, F5, RE.ok'_ok, one_eq, repr_ok rk2, eqVS_str, shown2, beq_self_eq_true, Bool.not_true]
      rw [mOr_eq, c1, RE.bind_ok, onB_b, if_neg Bool.false_ne_true, c2]
    refine ret_of ?_
    have t0 : ∀ (ρ : Nv) (T : Sto), mTup aNil ρ T = .ok (.d (.tuple [])) T := fun ρ T => rfl
    have l1 : mLst (aCons (mCall 2 v_plan_for (aCons (mVar 8) (aCons (mTup aNil) aNil))) (aCons (mCall 2 v_fewest (aCons (mVar 8) (aCons (mTup aNil) aNil))) (aCons (mCall 2 v_plan_for (aCons (mVar 8) (aCons (mTup (aCons (mVar 6) aNil)) aNil))) aNil))) [some (.r l), some (.d (.int s)), some (.d (.str one)), some (.d (.str other)), some (.d (.str a)), some (.d (.str b)), some (.d (.str c)), some (.d J3), some (.d ST), some (.d D5)] (S.set l y2) = .ok (.d (.list [.tuple [], .int 0, .tuple [.tuple [.str one, .int 0, .int ((s : Int) + 2)]]])) (S.set l y2) := by
      have t1 : mTup (aCons (mVar 6) aNil) [some (.r l), some (.d (.int s)), some (.d (.str one)), some (.d (.str other)), some (.d (.str a)), some (.d (.str b)), some (.d (.str c)), some (.d J3), some (.d ST), some (.d D5)] (S.set l y2) = .ok (.d (.tuple [.str c])) (S.set l y2) := rfl
      have q1 : mCall 2 v_plan_for (aCons (mVar 8) (aCons (mTup aNil) aNil)) [some (.r l), some (.d (.int s)), some (.d (.str one)), some (.d (.str other)), some (.d (.str a)), some (.d (.str b)), some (.d (.str c)), some (.d J3), some (.d ST), some (.d D5)] (S.set l y2) = .ok (.d (.tuple [])) (S.set l y2) := by
        simp only [mCall_eq, aCons_eq, aNil_eq, mVar_eq, t0, List.getElem?_cons_zero, List.getElem?_cons_succ, varR_some, RE.bindA_ok, RA.bindA_ok, RA.bind_ok, List.length_cons, List.length_nil, Nat.zero_add, Nat.reduceAdd, if_true, P0, RE.ok'_ok]
      have q2 : mCall 2 v_fewest (aCons (mVar 8) (aCons (mTup aNil) aNil)) [some (.r l), some (.d (.int s)), some (.d (.str one)), some (.d (.str other)), some (.d (.str a)), some (.d (.str b)), some (.d (.str c)), some (.d J3), some (.d ST), some (.d D5)] (S.set l y2) = .ok (.d (.int 0)) (S.set l y2) := by
        simp only [mCall_eq, aCons_eq, aNil_eq, mVar_eq, t0, List.getElem?_cons_zero, List.getElem?_cons_succ, varR_some, RE.bindA_ok, RA.bindA_ok, RA.bind_ok, List.length_cons, List.length_nil, Nat.zero_add, Nat.reduceAdd, if_true, F0, RE.ok'_ok]
      have q3 : mCall 2 v_plan_for (aCons (mVar 8) (aCons (mTup (aCons (mVar 6) aNil)) aNil)) [some (.r l), some (.d (.int s)), some (.d (.str one)), some (.d (.str other)), some (.d (.str a)), some (.d (.str b)), some (.d (.str c)), some (.d J3), some (.d ST), some (.d D5)] (S.set l y2) = .ok (.d (.tuple [.tuple [.str one, .int 0, .int ((s : Int) + 2)]])) (S.set l y2) := by
        rw [mCall_eq, aCons_eq, mVar_eq]
        simp only [List.getElem?_cons_zero, List.getElem?_cons_succ, varR_some, RE.bindA_ok]
        rw [aCons_eq, t1]
        simp only [aNil_eq, RE.bindA_ok, RA.bindA_ok, RA.bind_ok, List.length_cons, List.length_nil, Nat.zero_add, Nat.reduceAdd, if_true, P1, RE.ok'_ok]
      rw [mLst_eq, aCons_eq, q1, RE.bindA_ok, aCons_eq, q2, RE.bindA_ok, aCons_eq, q3, RE.bindA_ok, aNil_eq]
      rfl
    have l2 : mLst (aCons (mTup aNil) (aCons (mC (.int 0)) (aCons (mTup (aCons (mTup (aCons (mVar 2) (aCons (mC (.int 0)) (aCons (mBin addV (mVar 1) (mC (.int 2))) aNil)))) aNil)) aNil))) [some (.r l), some (.d (.int s)), some (.d (.str one)), some (.d (.str other)), some (.d (.str a)), some (.d (.str b)), some (.d (.str c)), some (.d J3), some (.d ST), some (.d D5)] (S.set l y2) = .ok (.d (.list [.tuple [], .int 0, .tuple [.tuple [.str one, .int 0, .int ((s : Int) + 2)]]])) (S.set l y2) := rfl
    rw [mBin_eq, mBlt_eq, aCons_eq, l1, RE.bindA_ok, aNil_eq, RA.bindA_ok, RA.bind_ok, one_eq, repr_ok rkL, RE.bind_ok, mBlt_eq, aCons_eq, l2, RE.bindA_ok, aNil_eq, RA.bindA_ok, RA.bind_ok, one_eq, repr_ok rkL, RE.bind_ok, eqVS_str, beq_self_eq_true]
    rfl
  have e : v__law_two_right [.r l, .d (.int s)] S = retR (m__law_two_right (envAt 10 [.r l, .d (.int s)]) S) S := rfl
  have e0 : envAt 10 [Vl.r l, .d (.int s)] = [some (.r l), some (.d (.int s)), none, none, none, none, none, none, none, none] := rfl
  rw [e, e0, ev, retR_ret, cutS_len List.length_set]
end K36

namespace K36
open PySem PySem.Spec PyProof.Rows L2 EV
variable {S : Sto}
theorem cases_du : (case0 :: case1 :: cases2).all (fun c => decide (c.du.length ≤ 12)) = true := by decide +kernel
theorem clA_all {n : Nat} : ∀ xs : List Vl, clA n xs = xs.all (clV n)
  | [] => rfl
  | x :: xs => by
    show (clV n x && clA n xs) = _
    rw [clA_all xs, List.all_cons]
theorem clA_d {n : Nat} (ds : List PyData) : clA n (ds.map .d) = true := by
  rw [clA_all, List.all_eq_true]
  intro x hx
  obtain ⟨d, _, rfl⟩ := List.mem_map.mp hx
  rfl
theorem itms_in {n : Nat} {s : Int} {c0 c1 : Cs} {rest : List Cs} {x : Vl} (h : x ∈ itms n s c0 c1 rest) : x = itm n s c0 0 ∨ x = .d (.tuple [szD s c1, odD c1, .list (duD s c1)]) ∨ ∃ c j, rest[j]? = some c ∧ x = itm n s c (j + 2) := by
  unfold itms at h
  rcases List.mem_cons.mp h with h | h
  · exact .inl h
  · rcases List.mem_cons.mp h with h | h
    · exact .inr (.inl h)
    · obtain ⟨⟨c, j⟩, hp, rfl⟩ := List.mem_map.mp h
      have := List.mem_zipIdx_iff_getElem?.mp hp
      exact .inr (.inr ⟨c, j, this, rfl⟩)
theorem clo_cases {s : Int} {c0 c1 : Cs} {rest : List Cs} (hS : Clo S) : Clo (S ++ Gst S.length s c0 c1 rest) := by
  refine clo_app hS ?_
  have gl : (Gst S.length s c0 c1 rest).length = rest.length + 2 := by unfold Gst; simp
  rw [gl, List.all_eq_true]
  intro c hc
  have it : ∀ (c : Cs) (i : Nat), i < rest.length + 2 → clV (S.length + (rest.length + 2)) (itm S.length s c i) = true := fun c i hi => by
    show (true && (true && (decide (S.length + i < S.length + (rest.length + 2)) && true))) = true
    rw [decide_eq_true (by omega)]
    rfl
  unfold Gst at hc
  rcases List.mem_cons.mp hc with rfl | hc
  · exact clA_d _
  · rcases List.mem_cons.mp hc with rfl | hc
    · show clA _ _ = true
      rw [clA_all, List.all_eq_true]
      intro x hx
      rcases itms_in hx with rfl | rfl | ⟨c, j, h1, rfl⟩
      · exact it _ _ (by omega)
      · rfl
      · exact it _ _ (by have := (List.getElem?_eq_some_iff.mp h1).1; omega)
    · obtain ⟨c, _, rfl⟩ := List.mem_map.mp hc
      exact clA_d _
noncomputable def bodyL : MS := (sSeq (sSet 2 (mCall 2 v__law_draw (aCons (mVar 0) (aCons (mVar 1) aNil))))
  (sSeq (sSet 3 (mCall 2 v__law_take (aCons (mVar 2) (aCons (mC (.int 91)) aNil))))
  (sSeq (sFor (gUn 3 (gsCons (gNm 4) (gsCons (gNm 5) (gsCons (gNm 6) gsNil)))) (iSeq (mCall 1 v__law_cases (aCons (mVar 3) aNil))) bodyC)
  (sIf (mNot (mTru (mCall 2 v__law_two_right (aCons (mVar 2) (aCons (mVar 3) aNil))))) (sRet (mC (.bool false))) sNil))))
theorem all_of {c : Cs} (h : c ∈ case0 :: case1 :: cases2) : c.ok = true ∧ c.du.length ≤ 12 := ⟨List.all_eq_true.mp cases_ok c h, of_decide_eq_true (List.all_eq_true.mp cases_du c h)⟩
set_option maxHeartbeats 800000 in
theorem bodyL_ok {ns : List PyData} {ks : List Int} (hn : ns = ks.map .int) {k : Nat} (hS : Clo S) {a2 a3 a4 a5 a6 a7 a8 a9 a10 a11 a12 : Option Vl} :
    ∃ (b2 b3 b4 b5 b6 b7 b8 b9 b10 b11 b12 : Option Vl) (S' : Sto), Clo S' ∧ bodyL [some (.q ns), some (.d (.int k)), a2, a3, a4, a5, a6, a7, a8, a9, a10, a11, a12] S = .nx [some (.q ns), some (.d (.int k)), b2, b3, b4, b5, b6, b7, b8, b9, b10, b11, b12] S' := by
  obtain ⟨y0, d0, e0⟩ := v__law_draw_ok hn (k := k) hS
  let l := S.length
  let T := S ++ [y0]
  have hT : Clo T := clo_draw hS d0
  have g0 : T[l]? = some y0 := at0
  obtain ⟨s, y1, w1, d1, e1⟩ := take_nat g0 d0 (by omega) (many := 91) (by omega) (by omega)
  have e1 : v__law_take [.r l, .d (.int 91)] T = .ok (.d (.int s)) (T.set l y1) := e1
  have cD : ∀ {b : Nat} {y : Cell}, IsD b y → Clo (T.set l y) := fun hy => by
    obtain ⟨c, r, a, rfl, _, _⟩ := hy
    exact clo_set hT rfl
  let S1 : Sto := T.set l y1
  have hS1 : Clo S1 := cD d1
  have len1 : S1.length = S.length + 1 := by simp only [S1, T, List.length_set, List.length_append, List.length_cons, List.length_nil]
  let S2 : Sto := S1 ++ Gst S1.length s case0 case1 cases2
  have hS2 : Clo S2 := clo_cases hS1
  have ec := v__law_cases_ok (S := S1) s
  have gl : S2[l]? = some y1 := by
    show (S1 ++ _)[l]? = _
    rw [List.getElem?_append_left (by omega)]
    exact at_set g0
  have gL : S2[S1.length + 1]? = some (.lst (itms S1.length s case0 case1 cases2)) := by
    show (S1 ++ _)[S1.length + 1]? = _
    rw [g_at]
    rfl
  have cell : ∀ (y : Cell) (j : Nat) (c : Cs), (Gst S1.length s case0 case1 cases2)[j]? = some (.lst ((duD s c).map .d)) → (S2.set l y)[S1.length + j]? = some (.lst ((duD s c).map .d)) := fun y j c h => by
    rw [List.getElem?_set_ne (by omega)]
    show (S1 ++ _)[S1.length + j]? = _
    rw [g_at]
    exact h
  obtain ⟨ρ', S', h1, y, b4, b5, b6, b7, b8, b9, b10, b11, b12, h2, h3, h4⟩ := forL_ixP (ρ := [some (.q ns), some (.d (.int k)), some (.r l), some (.d (.int s)), a4, a5, a6, a7, a8, a9, a10, a11, a12]) (S := S2) (g := gUn 3 (gsCons (gNm 4) (gsCons (gNm 5) (gsCons (gNm 6) gsNil)))) (body := bodyC) (P := pinV (.r (S1.length + 1)) S2)
    (itms S1.length s case0 case1 cases2)
    (fun i ρ S' => ∃ (y : Cell) (b4 b5 b6 b7 b8 b9 b10 b11 b12 : Option Vl), S' = S2.set l y ∧ IsD (1 + 30 * min i 100) y ∧ ρ = [some (.q ns), some (.d (.int k)), some (.r l), some (.d (.int s)), b4, b5, b6, b7, b8, b9, b10, b11, b12])
    ⟨y1, _, _, _, _, _, _, _, _, _, (set_self gl).symm, d1, rfl⟩
    (fun i ρ S' ⟨y, _, _, _, _, _, _, _, _, _, e1, _, _⟩ => by
      subst e1
      intro p hp
      unfold pinV at hp
      simp only [gL] at hp
      have : p = (S1.length + 1, .lst (itms S1.length s case0 case1 cases2)) := by simpa using hp
      subst this
      show (S2.set l y)[S1.length + 1]? = _
      rw [List.getElem?_set_ne (by omega)]
      exact gL)
    (fun i x ρ S' hx ⟨y, b4, b5, b6, b7, b8, b9, b10, b11, b12, q1, q2, q3⟩ => by
      subst q1 q3
      have hi := (List.getElem?_eq_some_iff.mp hx).1
      rw [itms_len] at hi
      have hi : i < 12 := hi
      have gy : (S2.set l y)[l]? = some y := at_set gl
      have cy : Clo (S2.set l y) := by
        obtain ⟨c, r, a, rfl, _, _⟩ := q2
        exact clo_set hS2 rfl
      have go : ∀ (c : Cs) (dv : Vl), c ∈ case0 :: case1 :: cases2 → (∀ y', IsDue s c dv ((S2.set l y).set l y')) → ∃ ρ2 S2', bodyC [some (.q ns), some (.d (.int k)), some (.r l), some (.d (.int s)), some (.d (szD s c)), some (.d (odD c)), some dv, b7, b8, b9, b10, b11, b12] (S2.set l y) = .nx ρ2 S2' ∧
          ∃ (y : Cell) (b4 b5 b6 b7 b8 b9 b10 b11 b12 : Option Vl), S2' = S2.set l y ∧ IsD (1 + 30 * min (i + 1) 100) y ∧ ρ2 = [some (.q ns), some (.d (.int k)), some (.r l), some (.d (.int s)), b4, b5, b6, b7, b8, b9, b10, b11, b12] := fun c dv hc hd => by
        obtain ⟨c1, c2⟩ := all_of hc
        obtain ⟨y', c7, c8, c9, c10, c11, c12, r1, r2⟩ := bodyC_ok (v0 := some (.q ns)) (v1 := some (.d (.int k))) (a7 := b7) (a8 := b8) (a9 := b9) (a10 := b10) (a11 := b11) (a12 := b12) c1 gy q2 (by omega) (by omega) cy hd c2
        rw [List.set_set] at r2
        exact ⟨_, _, r2, y', _, _, _, _, _, _, _, _, _, rfl, r1.up (by omega), rfl⟩
      have dn : ∀ (c : Cs) (j : Nat), (Gst S1.length s case0 case1 cases2)[j]? = some (.lst ((duD s c).map .d)) → ∀ y', IsDue s c (.r (S1.length + j)) ((S2.set l y).set l y') := fun c j h y' => by
        rw [List.set_set]
        exact .inr ⟨_, rfl, cell y' j c h⟩
      rcases itms_in (List.mem_of_getElem? hx) with rfl | rfl | ⟨c, j, hj, rfl⟩
      · obtain ⟨ρ2, S2', r1, r2⟩ := go case0 (.r (S1.length + 0)) (by simp) (dn case0 0 rfl)
        exact ⟨_, rfl, ρ2, S2', .inl r1, r2⟩
      · obtain ⟨ρ2, S2', r1, r2⟩ := go case1 (.d (.list (duD s case1))) (by simp) (fun y' => .inl rfl)
        exact ⟨_, rfl, ρ2, S2', .inl r1, r2⟩
      · obtain ⟨ρ2, S2', r1, r2⟩ := go c (.r (S1.length + (j + 2))) (List.mem_cons_of_mem _ (List.mem_cons_of_mem _ (List.mem_of_getElem? hj))) (dn c (j + 2) (by
          unfold Gst
          show (cases2.map fun c => Cell.lst ((duD s c).map .d))[j]? = _
          rw [List.getElem?_map, hj]
          rfl))
        exact ⟨_, rfl, ρ2, S2', .inl r1, r2⟩)
  subst h2 h4
  have gy : (S2.set l y)[l]? = some y := at_set gl
  have cy : Clo (S2.set l y) := by
    obtain ⟨c, r, a, rfl, _, _⟩ := h3
    exact clo_set hS2 rfl
  obtain ⟨y9, d9, e9⟩ := v__law_two_right_ok gy h3 (by omega) (s := s) (by omega) cy
  rw [List.set_set] at e9
  have c9 : Clo (S2.set l y9) := by
    obtain ⟨c, r, a, rfl, _, _⟩ := d9
    exact clo_set hS2 rfl
  refine ⟨some (.r l), some (.d (.int s)), b4, b5, b6, b7, b8, b9, b10, b11, b12, S2.set l y9, c9, ?_⟩
  unfold bodyL
  refine (seq_step (set_of (x := .r l) (S' := T) ?_)).trans ?_
  · simp only [mCall_eq, aCons_eq, mVar_eq, aNil_eq, List.getElem?_cons_zero, List.getElem?_cons_succ, varR_some, RE.bindA_ok, RA.bindA_ok, RA.bind_ok, List.length_cons, List.length_nil, Nat.zero_add, Nat.reduceAdd, if_true, e0, RE.ok'_ok]
    rfl
  refine (seq_step (set_of (x := .d (.int s)) (S' := S1) ?_)).trans ?_
  · simp only [List.set_cons_succ, List.set_cons_zero, mCall_eq, aCons_eq, mVar_eq, mC_eq, aNil_eq, List.getElem?_cons_zero, List.getElem?_cons_succ, varR_some, RE.bindA_ok, RA.bindA_ok, RA.bind_ok, List.length_cons, List.length_nil, Nat.zero_add, Nat.reduceAdd, if_true, e1, RE.ok'_ok]
    rfl
  refine (seq_step (ρ' := [some (.q ns), some (.d (.int k)), some (.r l), some (.d (.int s)), b4, b5, b6, b7, b8, b9, b10, b11, b12]) (S' := S2.set l y) ?_).trans ?_
  · simp only [List.set_cons_succ, List.set_cons_zero]
    have it : iSeq (mCall 1 v__law_cases (aCons (mVar 3) aNil)) [some (.q ns), some (.d (.int k)), some (.r l), some (.d (.int s)), a4, a5, a6, a7, a8, a9, a10, a11, a12] S1 = .ok (itms S1.length s case0 case1 cases2) (pinV (.r (S1.length + 1)) S2) S2 := by
      rw [iSeq_eq]
      simp only [mCall_eq, aCons_eq, mVar_eq, aNil_eq, List.getElem?_cons_zero, List.getElem?_cons_succ, varR_some, RE.bindA_ok, RA.bindA_ok, RA.bind_ok, List.length_cons, List.length_nil, Nat.zero_add, Nat.reduceAdd, if_true, ec, RE.ok'_ok, toI_ok]
      unfold seqI
      have : seqV (.r (S1.length + 1)) (S1 ++ Gst S1.length s case0 case1 cases2) = some (true, itms S1.length s case0 case1 cases2) := by
        have gL' : (S1 ++ Gst S1.length s case0 case1 cases2)[S1.length + 1]? = some (.lst (itms S1.length s case0 case1 cases2)) := gL
        simp only [seqV, gL']
      simp only [this]
      rfl
    rw [sFor_eq]
    refine (congrArg (fun r => RI.toS r _ _) it).trans ?_
    rw [RI.toS_ok]
    exact h1
  refine (if_no (S' := S2.set l y9) ?_).trans rfl
  have q : mCall 2 v__law_two_right (aCons (mVar 2) (aCons (mVar 3) aNil)) [some (.q ns), some (.d (.int k)), some (.r l), some (.d (.int s)), b4, b5, b6, b7, b8, b9, b10, b11, b12] (S2.set l y) = .ok (.d (.bool true)) (S2.set l y9) := by
    simp only [mCall_eq, aCons_eq, mVar_eq, aNil_eq, List.getElem?_cons_zero, List.getElem?_cons_succ, varR_some, RE.bindA_ok, RA.bindA_ok, RA.bind_ok, List.length_cons, List.length_nil, Nat.zero_add, Nat.reduceAdd, if_true, e9, RE.ok'_ok]
  rw [mNot_eq, mTru_eq, q]
  rfl
theorem law_true (ns : List Int) (h : ns.length ≤ 63) : ∃ S', v_law [.q (ns.map .int)] [] = .ok (.d (.bool true)) S' := by
  let n : Nat := max 1 (min 8 ns.length)
  have it : EV.iRng1 (aCons (mBlt (two max2V) (aCons (mC (.int 1)) (aCons (mBlt (two min2V) (aCons (mC (.int 8)) (aCons (mBlt (one lenV) (aCons (mVar 0) aNil)) aNil))) aNil))) aNil) [some (.q (ns.map .int)), none, none, none, none, none, none, none, none, none, none, none, none] [] = .ok (((List.range n).map fun (i : Nat) => PyData.int i).map .d) [] [] := by
    refine iRng1_ok ?_ (by omega)
    have mi : ∀ (a b : Int) (S : Sto), min2V (.d (.int a)) (.d (.int b)) S = .ok (.d (.int (if b < a then b else a))) S := fun a b S => min2_int
    simp only [mBlt_eq, aCons_eq, mVar_eq, mC_eq, aNil_eq, List.getElem?_cons_zero, varR_some, RE.bindA_ok, RA.bindA_ok, RA.bind_ok, one_eq, lenV_q, two_eq', mi, maxInt2, List.length_map]
    have : (if (if (ns.length : Int) < 8 then (ns.length : Int) else 8) > 1 then (if (ns.length : Int) < 8 then (ns.length : Int) else 8) else 1) = (n : Int) := by
      show _ = ((max 1 (min 8 ns.length) : Nat) : Int)
      omega
    rw [this]
  obtain ⟨ρ', S', h1, a1, a2, a3, a4, a5, a6, a7, a8, a9, a10, a11, a12, h2, h3⟩ := forL_ix (ρ := [some (.q (ns.map .int)), none, none, none, none, none, none, none, none, none, none, none, none]) (S := []) (g := gNm 1) (body := bodyL) (((List.range n).map fun (i : Nat) => PyData.int i).map .d)
    (fun _ ρ S => ∃ a1 a2 a3 a4 a5 a6 a7 a8 a9 a10 a11 a12, ρ = [some (.q (ns.map .int)), a1, a2, a3, a4, a5, a6, a7, a8, a9, a10, a11, a12] ∧ Clo S) ⟨_, _, _, _, _, _, _, _, _, _, _, _, rfl, rfl⟩
    (fun i x ρ S hx ⟨a1, a2, a3, a4, a5, a6, a7, a8, a9, a10, a11, a12, e, hS⟩ => by
      subst e
      rw [List.map_map, List.getElem?_map, Option.map_eq_some_iff] at hx
      obtain ⟨k, hk, rfl⟩ := hx
      obtain ⟨b2, b3, b4, b5, b6, b7, b8, b9, b10, b11, b12, S', hS', e⟩ := bodyL_ok (ns := ns.map .int) (ks := ns) rfl (k := k) hS (a2 := a2) (a3 := a3) (a4 := a4) (a5 := a5) (a6 := a6) (a7 := a7) (a8 := a8) (a9 := a9) (a10 := a10) (a11 := a11) (a12 := a12)
      exact ⟨_, rfl, _, S', .inl e, _, _, _, _, _, _, _, _, _, _, _, _, rfl, hS'⟩)
  subst h2
  refine ⟨EV.cutS 0 (.d (.bool true)) S', ?_⟩
  have ev : m_law [some (.q (ns.map .int)), none, none, none, none, none, none, none, none, none, none, none, none] [] = .ret (.d (.bool true)) S' := by
    unfold m_law
    refine (seq_step (ρ' := [some (.q (ns.map .int)), a1, a2, a3, a4, a5, a6, a7, a8, a9, a10, a11, a12]) (S' := S') ?_).trans rfl
    rw [sFor_eq, it, RI.toS_ok]
    exact h1
  have e : v_law [.q (ns.map .int)] [] = retR (m_law (envAt 13 [.q (ns.map .int)]) []) [] := rfl
  have e0 : envAt 13 [Vl.q (ns.map .int)] = [some (.q (ns.map .int)), none, none, none, none, none, none, none, none, none, none, none, none] := rfl
  rw [e, e0, ev, retR_ret]
  rfl
end K36

namespace K36
open PySem PySem.Spec PyProof.Rows L2 EV
theorem all_mk {l : PySem.W.OpenLaw} {w : World} {K : PySem.W.Frag} {h : Heap} {mg : Str → Option Value} {fa : Addr} (X : K.In h) (G : h.Ns mainGlobals mg) (hfa : mg "law" = some (.ref fa))
    {f0 : Addr} {od0 an0 : Option Addr} {sl0 : Array (Option Value)} {oc0 kV0 dc0 pm0 cd0 ct0 : Value}
    (a0 : PySem.W.nsIn K mainGlobals "_law_cases" = some (some (.ref f0))) (l0 : K.lookup f0 = some ⟨oc0, od0, .func (PySem.W.fnOf "_law_cases" "_law_cases" (defArgs s__law_cases) (defBody s__law_cases) (defScope s__law_cases) .none kV0 dc0 pm0 an0 cd0 ct0), sl0⟩) (c0 : PySem.W.codeIn K cd0 "_law_cases" = true) (q0 : PySem.W.keepIn K (.ref f0) = true)
    {f1 : Addr} {od1 an1 : Option Addr} {sl1 : Array (Option Value)} {oc1 kV1 dc1 pm1 cd1 ct1 : Value}
    (a1 : PySem.W.nsIn K mainGlobals "_law_draw" = some (some (.ref f1))) (l1 : K.lookup f1 = some ⟨oc1, od1, .func (PySem.W.fnOf "_law_draw" "_law_draw" (defArgs s__law_draw) (defBody s__law_draw) (defScope s__law_draw) .none kV1 dc1 pm1 an1 cd1 ct1), sl1⟩) (c1 : PySem.W.codeIn K cd1 "_law_draw" = true) (q1 : PySem.W.keepIn K (.ref f1) = true)
    {f2 : Addr} {od2 an2 : Option Addr} {sl2 : Array (Option Value)} {oc2 kV2 dc2 pm2 cd2 ct2 : Value}
    (a2 : PySem.W.nsIn K mainGlobals "_law_mixed" = some (some (.ref f2))) (l2 : K.lookup f2 = some ⟨oc2, od2, .func (PySem.W.fnOf "_law_mixed" "_law_mixed" (defArgs s__law_mixed) (defBody s__law_mixed) (defScope s__law_mixed) .none kV2 dc2 pm2 an2 cd2 ct2), sl2⟩) (c2 : PySem.W.codeIn K cd2 "_law_mixed" = true) (q2 : PySem.W.keepIn K (.ref f2) = true)
    {f3 : Addr} {od3 an3 : Option Addr} {sl3 : Array (Option Value)} {oc3 kV3 dc3 pm3 cd3 ct3 : Value}
    (a3 : PySem.W.nsIn K mainGlobals "_law_take" = some (some (.ref f3))) (l3 : K.lookup f3 = some ⟨oc3, od3, .func (PySem.W.fnOf "_law_take" "_law_take" (defArgs s__law_take) (defBody s__law_take) (defScope s__law_take) .none kV3 dc3 pm3 an3 cd3 ct3), sl3⟩) (c3 : PySem.W.codeIn K cd3 "_law_take" = true) (q3 : PySem.W.keepIn K (.ref f3) = true)
    {f4 : Addr} {od4 an4 : Option Addr} {sl4 : Array (Option Value)} {oc4 kV4 dc4 pm4 cd4 ct4 : Value}
    (a4 : PySem.W.nsIn K mainGlobals "_law_names" = some (some (.ref f4))) (l4 : K.lookup f4 = some ⟨oc4, od4, .func (PySem.W.fnOf "_law_names" "_law_names" (defArgs s__law_names) (defBody s__law_names) (defScope s__law_names) .none kV4 dc4 pm4 an4 cd4 ct4), sl4⟩) (c4 : PySem.W.codeIn K cd4 "_law_names" = true) (q4 : PySem.W.keepIn K (.ref f4) = true)
    {f5 : Addr} {od5 an5 : Option Addr} {sl5 : Array (Option Value)} {oc5 kV5 dc5 pm5 cd5 ct5 : Value}
    (a5 : PySem.W.nsIn K mainGlobals "_law_plain" = some (some (.ref f5))) (l5 : K.lookup f5 = some ⟨oc5, od5, .func (PySem.W.fnOf "_law_plain" "_law_plain" (defArgs s__law_plain) (defBody s__law_plain) (defScope s__law_plain) .none kV5 dc5 pm5 an5 cd5 ct5), sl5⟩) (c5 : PySem.W.codeIn K cd5 "_law_plain" = true) (q5 : PySem.W.keepIn K (.ref f5) = true)
    {f6 : Addr} {od6 an6 : Option Addr} {sl6 : Array (Option Value)} {oc6 kV6 dc6 pm6 cd6 ct6 : Value}
    (a6 : PySem.W.nsIn K mainGlobals "is_tuple_of" = some (some (.ref f6))) (l6 : K.lookup f6 = some ⟨oc6, od6, .func (PySem.W.fnOf "is_tuple_of" "is_tuple_of" (defArgs s_is_tuple_of) (defBody s_is_tuple_of) (defScope s_is_tuple_of) .none kV6 dc6 pm6 an6 cd6 ct6), sl6⟩) (c6 : PySem.W.codeIn K cd6 "is_tuple_of" = true) (q6 : PySem.W.keepIn K (.ref f6) = true)
    {f7 : Addr} {od7 an7 : Option Addr} {sl7 : Array (Option Value)} {oc7 kV7 dc7 pm7 cd7 ct7 : Value}
    (a7 : PySem.W.nsIn K mainGlobals "has_form" = some (some (.ref f7))) (l7 : K.lookup f7 = some ⟨oc7, od7, .func (PySem.W.fnOf "has_form" "has_form" (defArgs s_has_form) (defBody s_has_form) (defScope s_has_form) .none kV7 dc7 pm7 an7 cd7 ct7), sl7⟩) (c7 : PySem.W.codeIn K cd7 "has_form" = true) (q7 : PySem.W.keepIn K (.ref f7) = true)
    {f8 : Addr} {od8 an8 : Option Addr} {sl8 : Array (Option Value)} {oc8 kV8 dc8 pm8 cd8 ct8 : Value}
    (a8 : PySem.W.nsIn K mainGlobals "is_name" = some (some (.ref f8))) (l8 : K.lookup f8 = some ⟨oc8, od8, .func (PySem.W.fnOf "is_name" "is_name" (defArgs s_is_name) (defBody s_is_name) (defScope s_is_name) .none kV8 dc8 pm8 an8 cd8 ct8), sl8⟩) (c8 : PySem.W.codeIn K cd8 "is_name" = true) (q8 : PySem.W.keepIn K (.ref f8) = true)
    {f9 : Addr} {od9 an9 : Option Addr} {sl9 : Array (Option Value)} {oc9 kV9 dc9 pm9 cd9 ct9 : Value}
    (a9 : PySem.W.nsIn K mainGlobals "names_of" = some (some (.ref f9))) (l9 : K.lookup f9 = some ⟨oc9, od9, .func (PySem.W.fnOf "names_of" "names_of" (defArgs s_names_of) (defBody s_names_of) (defScope s_names_of) .none kV9 dc9 pm9 an9 cd9 ct9), sl9⟩) (c9 : PySem.W.codeIn K cd9 "names_of" = true) (q9 : PySem.W.keepIn K (.ref f9) = true)
    {f10 : Addr} {od10 an10 : Option Addr} {sl10 : Array (Option Value)} {oc10 kV10 dc10 pm10 cd10 ct10 : Value}
    (a10 : PySem.W.nsIn K mainGlobals "is_new" = some (some (.ref f10))) (l10 : K.lookup f10 = some ⟨oc10, od10, .func (PySem.W.fnOf "is_new" "is_new" (defArgs s_is_new) (defBody s_is_new) (defScope s_is_new) .none kV10 dc10 pm10 an10 cd10 ct10), sl10⟩) (c10 : PySem.W.codeIn K cd10 "is_new" = true) (q10 : PySem.W.keepIn K (.ref f10) = true)
    {f11 : Addr} {od11 an11 : Option Addr} {sl11 : Array (Option Value)} {oc11 kV11 dc11 pm11 cd11 ct11 : Value}
    (a11 : PySem.W.nsIn K mainGlobals "is_among" = some (some (.ref f11))) (l11 : K.lookup f11 = some ⟨oc11, od11, .func (PySem.W.fnOf "is_among" "is_among" (defArgs s_is_among) (defBody s_is_among) (defScope s_is_among) .none kV11 dc11 pm11 an11 cd11 ct11), sl11⟩) (c11 : PySem.W.codeIn K cd11 "is_among" = true) (q11 : PySem.W.keepIn K (.ref f11) = true)
    {f12 : Addr} {od12 an12 : Option Addr} {sl12 : Array (Option Value)} {oc12 kV12 dc12 pm12 cd12 ct12 : Value}
    (a12 : PySem.W.nsIn K mainGlobals "is_size" = some (some (.ref f12))) (l12 : K.lookup f12 = some ⟨oc12, od12, .func (PySem.W.fnOf "is_size" "is_size" (defArgs s_is_size) (defBody s_is_size) (defScope s_is_size) .none kV12 dc12 pm12 an12 cd12 ct12), sl12⟩) (c12 : PySem.W.codeIn K cd12 "is_size" = true) (q12 : PySem.W.keepIn K (.ref f12) = true)
    {f13 : Addr} {od13 an13 : Option Addr} {sl13 : Array (Option Value)} {oc13 kV13 dc13 pm13 cd13 ct13 : Value}
    (a13 : PySem.W.nsIn K mainGlobals "is_kind" = some (some (.ref f13))) (l13 : K.lookup f13 = some ⟨oc13, od13, .func (PySem.W.fnOf "is_kind" "is_kind" (defArgs s_is_kind) (defBody s_is_kind) (defScope s_is_kind) .none kV13 dc13 pm13 an13 cd13 ct13), sl13⟩) (c13 : PySem.W.codeIn K cd13 "is_kind" = true) (q13 : PySem.W.keepIn K (.ref f13) = true)
    {f14 : Addr} {od14 an14 : Option Addr} {sl14 : Array (Option Value)} {oc14 kV14 dc14 pm14 cd14 ct14 : Value}
    (a14 : PySem.W.nsIn K mainGlobals "is_there" = some (some (.ref f14))) (l14 : K.lookup f14 = some ⟨oc14, od14, .func (PySem.W.fnOf "is_there" "is_there" (defArgs s_is_there) (defBody s_is_there) (defScope s_is_there) .none kV14 dc14 pm14 an14 cd14 ct14), sl14⟩) (c14 : PySem.W.codeIn K cd14 "is_there" = true) (q14 : PySem.W.keepIn K (.ref f14) = true)
    {f15 : Addr} {od15 an15 : Option Addr} {sl15 : Array (Option Value)} {oc15 kV15 dc15 pm15 cd15 ct15 : Value}
    (a15 : PySem.W.nsIn K mainGlobals "rows_of" = some (some (.ref f15))) (l15 : K.lookup f15 = some ⟨oc15, od15, .func (PySem.W.fnOf "rows_of" "rows_of" (defArgs s_rows_of) (defBody s_rows_of) (defScope s_rows_of) .none kV15 dc15 pm15 an15 cd15 ct15), sl15⟩) (c15 : PySem.W.codeIn K cd15 "rows_of" = true) (q15 : PySem.W.keepIn K (.ref f15) = true)
    {f16 : Addr} {od16 an16 : Option Addr} {sl16 : Array (Option Value)} {oc16 kV16 dc16 pm16 cd16 ct16 : Value}
    (a16 : PySem.W.nsIn K mainGlobals "is_ranged" = some (some (.ref f16))) (l16 : K.lookup f16 = some ⟨oc16, od16, .func (PySem.W.fnOf "is_ranged" "is_ranged" (defArgs s_is_ranged) (defBody s_is_ranged) (defScope s_is_ranged) .none kV16 dc16 pm16 an16 cd16 ct16), sl16⟩) (c16 : PySem.W.codeIn K cd16 "is_ranged" = true) (q16 : PySem.W.keepIn K (.ref f16) = true)
    {f17 : Addr} {od17 an17 : Option Addr} {sl17 : Array (Option Value)} {oc17 kV17 dc17 pm17 cd17 ct17 : Value}
    (a17 : PySem.W.nsIn K mainGlobals "is_one" = some (some (.ref f17))) (l17 : K.lookup f17 = some ⟨oc17, od17, .func (PySem.W.fnOf "is_one" "is_one" (defArgs s_is_one) (defBody s_is_one) (defScope s_is_one) .none kV17 dc17 pm17 an17 cd17 ct17), sl17⟩) (c17 : PySem.W.codeIn K cd17 "is_one" = true) (q17 : PySem.W.keepIn K (.ref f17) = true)
    {f18 : Addr} {od18 an18 : Option Addr} {sl18 : Array (Option Value)} {oc18 kV18 dc18 pm18 cd18 ct18 : Value}
    (a18 : PySem.W.nsIn K mainGlobals "need_stock" = some (some (.ref f18))) (l18 : K.lookup f18 = some ⟨oc18, od18, .func (PySem.W.fnOf "need_stock" "need_stock" (defArgs s_need_stock) (defBody s_need_stock) (defScope s_need_stock) .none kV18 dc18 pm18 an18 cd18 ct18), sl18⟩) (c18 : PySem.W.codeIn K cd18 "need_stock" = true) (q18 : PySem.W.keepIn K (.ref f18) = true)
    {f19 : Addr} {od19 an19 : Option Addr} {sl19 : Array (Option Value)} {oc19 kV19 dc19 pm19 cd19 ct19 : Value}
    (a19 : PySem.W.nsIn K mainGlobals "row_called" = some (some (.ref f19))) (l19 : K.lookup f19 = some ⟨oc19, od19, .func (PySem.W.fnOf "row_called" "row_called" (defArgs s_row_called) (defBody s_row_called) (defScope s_row_called) .none kV19 dc19 pm19 an19 cd19 ct19), sl19⟩) (c19 : PySem.W.codeIn K cd19 "row_called" = true) (q19 : PySem.W.keepIn K (.ref f19) = true)
    {f20 : Addr} {od20 an20 : Option Addr} {sl20 : Array (Option Value)} {oc20 kV20 dc20 pm20 cd20 ct20 : Value}
    (a20 : PySem.W.nsIn K mainGlobals "need_works" = some (some (.ref f20))) (l20 : K.lookup f20 = some ⟨oc20, od20, .func (PySem.W.fnOf "need_works" "need_works" (defArgs s_need_works) (defBody s_need_works) (defScope s_need_works) .none kV20 dc20 pm20 an20 cd20 ct20), sl20⟩) (c20 : PySem.W.codeIn K cd20 "need_works" = true) (q20 : PySem.W.keepIn K (.ref f20) = true)
    {f21 : Addr} {od21 an21 : Option Addr} {sl21 : Array (Option Value)} {oc21 kV21 dc21 pm21 cd21 ct21 : Value}
    (a21 : PySem.W.nsIn K mainGlobals "are_apart" = some (some (.ref f21))) (l21 : K.lookup f21 = some ⟨oc21, od21, .func (PySem.W.fnOf "are_apart" "are_apart" (defArgs s_are_apart) (defBody s_are_apart) (defScope s_are_apart) .none kV21 dc21 pm21 an21 cd21 ct21), sl21⟩) (c21 : PySem.W.codeIn K cd21 "are_apart" = true) (q21 : PySem.W.keepIn K (.ref f21) = true)
    {f22 : Addr} {od22 an22 : Option Addr} {sl22 : Array (Option Value)} {oc22 kV22 dc22 pm22 cd22 ct22 : Value}
    (a22 : PySem.W.nsIn K mainGlobals "levels_of" = some (some (.ref f22))) (l22 : K.lookup f22 = some ⟨oc22, od22, .func (PySem.W.fnOf "levels_of" "levels_of" (defArgs s_levels_of) (defBody s_levels_of) (defScope s_levels_of) .none kV22 dc22 pm22 an22 cd22 ct22), sl22⟩) (c22 : PySem.W.codeIn K cd22 "levels_of" = true) (q22 : PySem.W.keepIn K (.ref f22) = true)
    {f23 : Addr} {od23 an23 : Option Addr} {sl23 : Array (Option Value)} {oc23 kV23 dc23 pm23 cd23 ct23 : Value}
    (a23 : PySem.W.nsIn K mainGlobals "run_of" = some (some (.ref f23))) (l23 : K.lookup f23 = some ⟨oc23, od23, .func (PySem.W.fnOf "run_of" "run_of" (defArgs s_run_of) (defBody s_run_of) (defScope s_run_of) .none kV23 dc23 pm23 an23 cd23 ct23), sl23⟩) (c23 : PySem.W.codeIn K cd23 "run_of" = true) (q23 : PySem.W.keepIn K (.ref f23) = true)
    {f24 : Addr} {od24 an24 : Option Addr} {sl24 : Array (Option Value)} {oc24 kV24 dc24 pm24 cd24 ct24 : Value}
    (a24 : PySem.W.nsIn K mainGlobals "fewest" = some (some (.ref f24))) (l24 : K.lookup f24 = some ⟨oc24, od24, .func (PySem.W.fnOf "fewest" "fewest" (defArgs s_fewest) (defBody s_fewest) (defScope s_fewest) .none kV24 dc24 pm24 an24 cd24 ct24), sl24⟩) (c24 : PySem.W.codeIn K cd24 "fewest" = true) (q24 : PySem.W.keepIn K (.ref f24) = true)
    {f25 : Addr} {od25 an25 : Option Addr} {sl25 : Array (Option Value)} {oc25 kV25 dc25 pm25 cd25 ct25 : Value}
    (a25 : PySem.W.nsIn K mainGlobals "tools_of" = some (some (.ref f25))) (l25 : K.lookup f25 = some ⟨oc25, od25, .func (PySem.W.fnOf "tools_of" "tools_of" (defArgs s_tools_of) (defBody s_tools_of) (defScope s_tools_of) .none kV25 dc25 pm25 an25 cd25 ct25), sl25⟩) (c25 : PySem.W.codeIn K cd25 "tools_of" = true) (q25 : PySem.W.keepIn K (.ref f25) = true)
    {f26 : Addr} {od26 an26 : Option Addr} {sl26 : Array (Option Value)} {oc26 kV26 dc26 pm26 cd26 ct26 : Value}
    (a26 : PySem.W.nsIn K mainGlobals "plan_for" = some (some (.ref f26))) (l26 : K.lookup f26 = some ⟨oc26, od26, .func (PySem.W.fnOf "plan_for" "plan_for" (defArgs s_plan_for) (defBody s_plan_for) (defScope s_plan_for) .none kV26 dc26 pm26 an26 cd26 ct26), sl26⟩) (c26 : PySem.W.codeIn K cd26 "plan_for" = true) (q26 : PySem.W.keepIn K (.ref f26) = true)
    {f27 : Addr} {od27 an27 : Option Addr} {sl27 : Array (Option Value)} {oc27 kV27 dc27 pm27 cd27 ct27 : Value}
    (a27 : PySem.W.nsIn K mainGlobals "_law_two_right" = some (some (.ref f27))) (l27 : K.lookup f27 = some ⟨oc27, od27, .func (PySem.W.fnOf "_law_two_right" "_law_two_right" (defArgs s__law_two_right) (defBody s__law_two_right) (defScope s__law_two_right) .none kV27 dc27 pm27 an27 cd27 ct27), sl27⟩) (c27 : PySem.W.codeIn K cd27 "_law_two_right" = true) (q27 : PySem.W.keepIn K (.ref f27) = true)
    {f28 : Addr} {od28 an28 : Option Addr} {sl28 : Array (Option Value)} {oc28 kV28 dc28 pm28 cd28 ct28 : Value}
    (a28 : PySem.W.nsIn K mainGlobals "law" = some (some (.ref f28))) (l28 : K.lookup f28 = some ⟨oc28, od28, .func (PySem.W.fnOf "law" "law" (defArgs s_law) (defBody s_law) (defScope s_law) .none kV28 dc28 pm28 an28 cd28 ct28), sl28⟩) (c28 : PySem.W.codeIn K cd28 "law" = true) (q28 : PySem.W.keepIn K (.ref f28) = true)
    (z_all : PySem.W.nsIn K mainGlobals "all" = some none)
    (z_bool : PySem.W.nsIn K mainGlobals "bool" = some none)
    (z_enumerate : PySem.W.nsIn K mainGlobals "enumerate" = some none)
    (z_int : PySem.W.nsIn K mainGlobals "int" = some none)
    (z_isinstance : PySem.W.nsIn K mainGlobals "isinstance" = some none)
    (z_len : PySem.W.nsIn K mainGlobals "len" = some none)
    (z_max : PySem.W.nsIn K mainGlobals "max" = some none)
    (z_min : PySem.W.nsIn K mainGlobals "min" = some none)
    (z_range : PySem.W.nsIn K mainGlobals "range" = some none)
    (z_repr : PySem.W.nsIn K mainGlobals "repr" = some none)
    (z_set : PySem.W.nsIn K mainGlobals "set" = some none)
    (z_sorted : PySem.W.nsIn K mainGlobals "sorted" = some none)
    (z_str : PySem.W.nsIn K mainGlobals "str" = some none)
    (z_tuple : PySem.W.nsIn K mainGlobals "tuple" = some none)
    (z_zip : PySem.W.nsIn K mainGlobals "zip" = some none)
    {r_MOST : Addr} {its_MOST : Array Value} {n_MOST : Nat} {sl_MOST : Array (Option Value)} (z_MOST : PySem.W.nsIn K mainGlobals "MOST" = some (some (.ref r_MOST))) (l_MOST : K.lookup r_MOST = some ⟨.type "tuple", none, .seq its_MOST n_MOST, sl_MOST⟩)
    (hz_MOST : its_MOST.size ≤ sizeLine) (v_MOST : Vals [V.int 6, V.int 5, V.int 12, V.int 5, V.int 4, V.int 3, V.int 8, V.int 6] its_MOST.toList)
    {t_MOST_LETTERS : Tok} (z_MOST_LETTERS : PySem.W.nsIn K mainGlobals "MOST_LETTERS" = some (some (.int 8 t_MOST_LETTERS)))
    {t_MOST_SIZE : Tok} (z_MOST_SIZE : PySem.W.nsIn K mainGlobals "MOST_SIZE" = some (some (.int 99 t_MOST_SIZE)))
    {t_MOST_WORKS : Tok} (z_MOST_WORKS : PySem.W.nsIn K mainGlobals "MOST_WORKS" = some (some (.int 12 t_MOST_WORKS)))
    {t_SMALL : Tok} (z_SMALL : PySem.W.nsIn K mainGlobals "SMALL" = some (some (.str "abcdefghijklmnopqrstuvwxyz" t_SMALL)))
    {r_SORTS : Addr} {its_SORTS : Array Value} {n_SORTS : Nat} {sl_SORTS : Array (Option Value)} (z_SORTS : PySem.W.nsIn K mainGlobals "SORTS" = some (some (.ref r_SORTS))) (l_SORTS : K.lookup r_SORTS = some ⟨.type "tuple", none, .seq its_SORTS n_SORTS, sl_SORTS⟩)
    (hz_SORTS : its_SORTS.size ≤ sizeLine) (v_SORTS : Vals [V.str "kind", V.str "box", V.str "tool", V.str "hand", V.str "set", V.str "gauge", V.str "work", V.str "keep"] its_SORTS.toList)
    : ∃ fd : FuncData, (∀ (s : Shared) (u : Value), BindsTo s fd ⟨[u], []⟩ [("script", u)]) ∧ ∀ base : Heap, K.In base → base.Ns mainGlobals mg → FnG l.prog w K mg base CX0 9 fa fd ["script"] (spG K mg v_law 1) := by
  have e := hfa.symm.trans (PySem.W.mg_of X G a28)
  cases e
  have T : Top K mg := ⟨PySem.W.mg_none_of X G z_all, PySem.W.mg_none_of X G z_bool, PySem.W.mg_none_of X G z_enumerate, PySem.W.mg_none_of X G z_int, PySem.W.mg_none_of X G z_isinstance, PySem.W.mg_none_of X G z_len, PySem.W.mg_none_of X G z_max, PySem.W.mg_none_of X G z_min, PySem.W.mg_none_of X G z_range, PySem.W.mg_none_of X G z_repr, PySem.W.mg_none_of X G z_set, PySem.W.mg_none_of X G z_sorted, PySem.W.mg_none_of X G z_str, PySem.W.mg_none_of X G z_tuple, PySem.W.mg_none_of X G z_zip, conT_of (PySem.W.mg_of X G z_MOST) l_MOST hz_MOST v_MOST rfl, conS_int (PySem.W.mg_of X G z_MOST_LETTERS), conS_int (PySem.W.mg_of X G z_MOST_SIZE), conS_int (PySem.W.mg_of X G z_MOST_WORKS), conS_str (PySem.W.mg_of X G z_SMALL), conT_of (PySem.W.mg_of X G z_SORTS) l_SORTS hz_SORTS v_SORTS rfl⟩
  have F0 := fun_mk (st := s__law_cases) l0 c0 q0
  have b0 := F0.binds (ps := ["s"]) fun _ _ _ _ _ _ us hl => match us, hl with | [_], _ => rfl
  have F1 := fun_mk (st := s__law_draw) l1 c1 q1
  have b1 := F1.binds (ps := ["script", "k"]) fun _ _ _ _ _ _ us hl => match us, hl with | [_, _], _ => rfl
  have F2 := fun_mk (st := s__law_mixed) l2 c2 q2
  have b2 := F2.binds (ps := ["cell", "k"]) fun _ _ _ _ _ _ us hl => match us, hl with | [_, _], _ => rfl
  have F3 := fun_mk (st := s__law_take) l3 c3 q3
  have b3 := F3.binds (ps := ["draw", "many"]) fun _ _ _ _ _ _ us hl => match us, hl with | [_, _], _ => rfl
  have F4 := fun_mk (st := s__law_names) l4 c4 q4
  have b4 := F4.binds (ps := ["draw", "many"]) fun _ _ _ _ _ _ us hl => match us, hl with | [_, _], _ => rfl
  have F5 := fun_mk (st := s__law_plain) l5 c5 q5
  have b5 := F5.binds (ps := ["draw", "least", "sizes"]) fun _ _ _ _ _ _ us hl => match us, hl with | [_, _, _], _ => rfl
  have F6 := fun_mk (st := s_is_tuple_of) l6 c6 q6
  have b6 := F6.binds (ps := ["thing", "many"]) fun _ _ _ _ _ _ us hl => match us, hl with | [_, _], _ => rfl
  have F7 := fun_mk (st := s_has_form) l7 c7 q7
  have b7 := F7.binds (ps := ["thing"]) fun _ _ _ _ _ _ us hl => match us, hl with | [_], _ => rfl
  have F8 := fun_mk (st := s_is_name) l8 c8 q8
  have b8 := F8.binds (ps := ["thing"]) fun _ _ _ _ _ _ us hl => match us, hl with | [_], _ => rfl
  have F9 := fun_mk (st := s_names_of) l9 c9 q9
  have b9 := F9.binds (ps := ["rows"]) fun _ _ _ _ _ _ us hl => match us, hl with | [_], _ => rfl
  have F10 := fun_mk (st := s_is_new) l10 c10 q10
  have b10 := F10.binds (ps := ["thing", "ahead"]) fun _ _ _ _ _ _ us hl => match us, hl with | [_, _], _ => rfl
  have F11 := fun_mk (st := s_is_among) l11 c11 q11
  have b11 := F11.binds (ps := ["thing", "least", "most"]) fun _ _ _ _ _ _ us hl => match us, hl with | [_, _, _], _ => rfl
  have F12 := fun_mk (st := s_is_size) l12 c12 q12
  have b12 := F12.binds (ps := ["thing"]) fun _ _ _ _ _ _ us hl => match us, hl with | [_], _ => rfl
  have F13 := fun_mk (st := s_is_kind) l13 c13 q13
  have b13 := F13.binds (ps := ["thing", "ahead"]) fun _ _ _ _ _ _ us hl => match us, hl with | [_, _], _ => rfl
  have F14 := fun_mk (st := s_is_there) l14 c14 q14
  have b14 := F14.binds (ps := ["thing", "names"]) fun _ _ _ _ _ _ us hl => match us, hl with | [_, _], _ => rfl
  have F15 := fun_mk (st := s_rows_of) l15 c15 q15
  have b15 := F15.binds (ps := ["stock", "sort"]) fun _ _ _ _ _ _ us hl => match us, hl with | [_, _], _ => rfl
  have F16 := fun_mk (st := s_is_ranged) l16 c16 q16
  have b16 := F16.binds (ps := ["stock", "thing", "ahead"]) fun _ _ _ _ _ _ us hl => match us, hl with | [_, _, _], _ => rfl
  have F17 := fun_mk (st := s_is_one) l17 c17 q17
  have b17 := F17.binds (ps := ["stock", "sort", "thing", "ahead"]) fun _ _ _ _ _ _ us hl => match us, hl with | [_, _, _, _], _ => rfl
  have F18 := fun_mk (st := s_need_stock) l18 c18 q18
  have b18 := F18.binds (ps := ["thing"]) fun _ _ _ _ _ _ us hl => match us, hl with | [_], _ => rfl
  have F19 := fun_mk (st := s_row_called) l19 c19 q19
  have b19 := F19.binds (ps := ["stock", "sort", "name"]) fun _ _ _ _ _ _ us hl => match us, hl with | [_, _, _], _ => rfl
  have F20 := fun_mk (st := s_need_works) l20 c20 q20
  have b20 := F20.binds (ps := ["stock", "works"]) fun _ _ _ _ _ _ us hl => match us, hl with | [_, _], _ => rfl
  have F21 := fun_mk (st := s_are_apart) l21 c21 q21
  have b21 := F21.binds (ps := ["one", "other"]) fun _ _ _ _ _ _ us hl => match us, hl with | [_, _], _ => rfl
  have F22 := fun_mk (st := s_levels_of) l22 c22 q22
  have b22 := F22.binds (ps := ["rows"]) fun _ _ _ _ _ _ us hl => match us, hl with | [_], _ => rfl
  have F23 := fun_mk (st := s_run_of) l23 c23 q23
  have b23 := F23.binds (ps := ["rows"]) fun _ _ _ _ _ _ us hl => match us, hl with | [_], _ => rfl
  have F24 := fun_mk (st := s_fewest) l24 c24 q24
  have b24 := F24.binds (ps := ["stock", "works"]) fun _ _ _ _ _ _ us hl => match us, hl with | [_, _], _ => rfl
  have F25 := fun_mk (st := s_tools_of) l25 c25 q25
  have b25 := F25.binds (ps := ["rows"]) fun _ _ _ _ _ _ us hl => match us, hl with | [_], _ => rfl
  have F26 := fun_mk (st := s_plan_for) l26 c26 q26
  have b26 := F26.binds (ps := ["stock", "works"]) fun _ _ _ _ _ _ us hl => match us, hl with | [_, _], _ => rfl
  have F27 := fun_mk (st := s__law_two_right) l27 c27 q27
  have b27 := F27.binds (ps := ["draw", "s"]) fun _ _ _ _ _ _ us hl => match us, hl with | [_, _], _ => rfl
  have F28 := fun_mk (st := s_law) l28 c28 q28
  have b28 := F28.binds (ps := ["script"]) fun _ _ _ _ _ _ us hl => match us, hl with | [_], _ => rfl
  refine ⟨PySem.W.fnOf "law" "law" (defArgs s_law) (defBody s_law) (defScope s_law) .none kV28 dc28 pm28 an28 cd28 ct28, fun s v => .of_eq rfl, fun base _ _ => ?_⟩
  have k__law_cases : CalG l.prog w K mg base 1 "_law_cases" v__law_cases 1 := ⟨f0, _, ["s"], ok__law_cases F0 T , PySem.W.mg_of X G a0, q0, b0⟩
  have k__law_draw : CalG l.prog w K mg base 1 "_law_draw" v__law_draw 2 := ⟨f1, _, ["script", "k"], ok__law_draw F1 T , PySem.W.mg_of X G a1, q1, b1⟩
  have k__law_mixed : CalG l.prog w K mg base 1 "_law_mixed" v__law_mixed 2 := ⟨f2, _, ["cell", "k"], ok__law_mixed F2 T , PySem.W.mg_of X G a2, q2, b2⟩
  have k__law_take : CalG l.prog w K mg base 2 "_law_take" v__law_take 2 := ⟨f3, _, ["draw", "many"], ok__law_take F3 T k__law_mixed, PySem.W.mg_of X G a3, q3, b3⟩
  have k__law_names : CalG l.prog w K mg base 3 "_law_names" v__law_names 2 := ⟨f4, _, ["draw", "many"], ok__law_names F4 T k__law_take, PySem.W.mg_of X G a4, q4, b4⟩
  have k__law_plain : CalG l.prog w K mg base 4 "_law_plain" v__law_plain 3 := ⟨f5, _, ["draw", "least", "sizes"], ok__law_plain F5 T k__law_names, PySem.W.mg_of X G a5, q5, b5⟩
  have k_is_tuple_of : CalG l.prog w K mg base 1 "is_tuple_of" v_is_tuple_of 2 := ⟨f6, _, ["thing", "many"], ok_is_tuple_of F6 T , PySem.W.mg_of X G a6, q6, b6⟩
  have k_has_form : CalG l.prog w K mg base 2 "has_form" v_has_form 1 := ⟨f7, _, ["thing"], ok_has_form F7 T k_is_tuple_of, PySem.W.mg_of X G a7, q7, b7⟩
  have k_is_name : CalG l.prog w K mg base 1 "is_name" v_is_name 1 := ⟨f8, _, ["thing"], ok_is_name F8 T , PySem.W.mg_of X G a8, q8, b8⟩
  have k_names_of : CalG l.prog w K mg base 1 "names_of" v_names_of 1 := ⟨f9, _, ["rows"], ok_names_of F9 T , PySem.W.mg_of X G a9, q9, b9⟩
  have k_is_new : CalG l.prog w K mg base 2 "is_new" v_is_new 2 := ⟨f10, _, ["thing", "ahead"], ok_is_new F10 T k_is_name k_names_of, PySem.W.mg_of X G a10, q10, b10⟩
  have k_is_among : CalG l.prog w K mg base 1 "is_among" v_is_among 3 := ⟨f11, _, ["thing", "least", "most"], ok_is_among F11 T , PySem.W.mg_of X G a11, q11, b11⟩
  have k_is_size : CalG l.prog w K mg base 2 "is_size" v_is_size 1 := ⟨f12, _, ["thing"], ok_is_size F12 T k_is_among, PySem.W.mg_of X G a12, q12, b12⟩
  have k_is_kind : CalG l.prog w K mg base 3 "is_kind" v_is_kind 2 := ⟨f13, _, ["thing", "ahead"], ok_is_kind F13 T k_is_new k_is_size k_is_tuple_of, PySem.W.mg_of X G a13, q13, b13⟩
  have k_is_there : CalG l.prog w K mg base 1 "is_there" v_is_there 2 := ⟨f14, _, ["thing", "names"], ok_is_there F14 T , PySem.W.mg_of X G a14, q14, b14⟩
  have k_rows_of : CalG l.prog w K mg base 1 "rows_of" v_rows_of 2 := ⟨f15, _, ["stock", "sort"], ok_rows_of F15 T , PySem.W.mg_of X G a15, q15, b15⟩
  have k_is_ranged : CalG l.prog w K mg base 3 "is_ranged" v_is_ranged 3 := ⟨f16, _, ["stock", "thing", "ahead"], ok_is_ranged F16 T k_is_new k_is_size k_is_there k_is_tuple_of k_names_of k_rows_of, PySem.W.mg_of X G a16, q16, b16⟩
  have k_is_one : CalG l.prog w K mg base 4 "is_one" v_is_one 4 := ⟨f17, _, ["stock", "sort", "thing", "ahead"], ok_is_one F17 T k_is_kind k_is_name k_is_ranged, PySem.W.mg_of X G a17, q17, b17⟩
  have k_need_stock : CalG l.prog w K mg base 5 "need_stock" v_need_stock 1 := ⟨f18, _, ["thing"], ok_need_stock F18 T k_has_form k_is_one, PySem.W.mg_of X G a18, q18, b18⟩
  have k_row_called : CalG l.prog w K mg base 2 "row_called" v_row_called 3 := ⟨f19, _, ["stock", "sort", "name"], ok_row_called F19 T k_rows_of, PySem.W.mg_of X G a19, q19, b19⟩
  have k_need_works : CalG l.prog w K mg base 6 "need_works" v_need_works 2 := ⟨f20, _, ["stock", "works"], ok_need_works F20 T k_need_stock k_row_called, PySem.W.mg_of X G a20, q20, b20⟩
  have k_are_apart : CalG l.prog w K mg base 1 "are_apart" v_are_apart 2 := ⟨f21, _, ["one", "other"], ok_are_apart F21 T , PySem.W.mg_of X G a21, q21, b21⟩
  have k_levels_of : CalG l.prog w K mg base 2 "levels_of" v_levels_of 1 := ⟨f22, _, ["rows"], ok_levels_of F22 T k_are_apart, PySem.W.mg_of X G a22, q22, b22⟩
  have k_run_of : CalG l.prog w K mg base 3 "run_of" v_run_of 1 := ⟨f23, _, ["rows"], ok_run_of F23 T k_are_apart k_levels_of, PySem.W.mg_of X G a23, q23, b23⟩
  have k_fewest : CalG l.prog w K mg base 7 "fewest" v_fewest 2 := ⟨f24, _, ["stock", "works"], ok_fewest F24 T k_need_works k_run_of, PySem.W.mg_of X G a24, q24, b24⟩
  have k_tools_of : CalG l.prog w K mg base 3 "tools_of" v_tools_of 1 := ⟨f25, _, ["rows"], ok_tools_of F25 T k_levels_of, PySem.W.mg_of X G a25, q25, b25⟩
  have k_plan_for : CalG l.prog w K mg base 7 "plan_for" v_plan_for 2 := ⟨f26, _, ["stock", "works"], ok_plan_for F26 T k_need_works k_tools_of, PySem.W.mg_of X G a26, q26, b26⟩
  have k__law_two_right : CalG l.prog w K mg base 8 "_law_two_right" v__law_two_right 2 := ⟨f27, _, ["draw", "s"], ok__law_two_right F27 T k__law_names k_fewest k_plan_for, PySem.W.mg_of X G a27, q27, b27⟩
  exact ok_law F28 T k__law_cases k__law_draw k__law_plain k__law_take k__law_two_right k_fewest k_plan_for
end K36
open PySem PySem.W PyProof.Rows L2 EV
set_option maxRecDepth 100000 in
set_option maxHeartbeats 0 in
theorem PySem.Challenge.cw_edgeshop_k40_known_lists_holds : PySem.Challenge.rw_edgeshop_k40_known_lists.Holds := by
  w_on; o_law; k_head; (case hw => w_witness2)
  k_fill
  refine EV.walkG (l := PySem.Challenge.rw_edgeshop_k40_known_lists) (n := 63) (k := 9) (x := "script") (m := K36.v_law) rfl (by decide) rfl ⟨rfl, by decide, by decide⟩ (fun w h Y => PySem.W.kIn_of Y) ?F K36.law_true
  case F =>
    intro w mg fa h KX G hmg
    refine' K36.all_mk KX G hmg ?a0 ?l0 ?c0 ?q0 ?a1 ?l1 ?c1 ?q1 ?a2 ?l2 ?c2 ?q2 ?a3 ?l3 ?c3 ?q3 ?a4 ?l4 ?c4 ?q4 ?a5 ?l5 ?c5 ?q5 ?a6 ?l6 ?c6 ?q6 ?a7 ?l7 ?c7 ?q7 ?a8 ?l8 ?c8 ?q8 ?a9 ?l9 ?c9 ?q9 ?a10 ?l10 ?c10 ?q10 ?a11 ?l11 ?c11 ?q11 ?a12 ?l12 ?c12 ?q12 ?a13 ?l13 ?c13 ?q13 ?a14 ?l14 ?c14 ?q14 ?a15 ?l15 ?c15 ?q15 ?a16 ?l16 ?c16 ?q16 ?a17 ?l17 ?c17 ?q17 ?a18 ?l18 ?c18 ?q18 ?a19 ?l19 ?c19 ?q19 ?a20 ?l20 ?c20 ?q20 ?a21 ?l21 ?c21 ?q21 ?a22 ?l22 ?c22 ?q22 ?a23 ?l23 ?c23 ?q23 ?a24 ?l24 ?c24 ?q24 ?a25 ?l25 ?c25 ?q25 ?a26 ?l26 ?c26 ?q26 ?a27 ?l27 ?c27 ?q27 ?a28 ?l28 ?c28 ?q28 ?z_all ?z_bool ?z_enumerate ?z_int ?z_isinstance ?z_len ?z_max ?z_min ?z_range ?z_repr ?z_set ?z_sorted ?z_str ?z_tuple ?z_zip ?z_MOST ?l_MOST ?hz_MOST ?v_MOST ?z_MOST_LETTERS ?z_MOST_SIZE ?z_MOST_WORKS ?z_SMALL ?z_SORTS ?l_SORTS ?hz_SORTS ?v_SORTS
    (case a0 => k_is); (case l0 => k_is); (case c0 => k_is); (case q0 => k_is); (case a1 => k_is); (case l1 => k_is); (case c1 => k_is); (case q1 => k_is)
    (case a2 => k_is); (case l2 => k_is); (case c2 => k_is); (case q2 => k_is); (case a3 => k_is); (case l3 => k_is); (case c3 => k_is); (case q3 => k_is)
    (case a4 => k_is); (case l4 => k_is); (case c4 => k_is); (case q4 => k_is); (case a5 => k_is); (case l5 => k_is); (case c5 => k_is); (case q5 => k_is)
    (case a6 => k_is); (case l6 => k_is); (case c6 => k_is); (case q6 => k_is); (case a7 => k_is); (case l7 => k_is); (case c7 => k_is); (case q7 => k_is)
    (case a8 => k_is); (case l8 => k_is); (case c8 => k_is); (case q8 => k_is); (case a9 => k_is); (case l9 => k_is); (case c9 => k_is); (case q9 => k_is)
    (case a10 => k_is); (case l10 => k_is); (case c10 => k_is); (case q10 => k_is); (case a11 => k_is); (case l11 => k_is); (case c11 => k_is); (case q11 => k_is)
    (case a12 => k_is); (case l12 => k_is); (case c12 => k_is); (case q12 => k_is); (case a13 => k_is); (case l13 => k_is); (case c13 => k_is); (case q13 => k_is)
    (case a14 => k_is); (case l14 => k_is); (case c14 => k_is); (case q14 => k_is); (case a15 => k_is); (case l15 => k_is); (case c15 => k_is); (case q15 => k_is)
    (case a16 => k_is); (case l16 => k_is); (case c16 => k_is); (case q16 => k_is); (case a17 => k_is); (case l17 => k_is); (case c17 => k_is); (case q17 => k_is)
    (case a18 => k_is); (case l18 => k_is); (case c18 => k_is); (case q18 => k_is); (case a19 => k_is); (case l19 => k_is); (case c19 => k_is); (case q19 => k_is)
    (case a20 => k_is); (case l20 => k_is); (case c20 => k_is); (case q20 => k_is); (case a21 => k_is); (case l21 => k_is); (case c21 => k_is); (case q21 => k_is)
    (case a22 => k_is); (case l22 => k_is); (case c22 => k_is); (case q22 => k_is); (case a23 => k_is); (case l23 => k_is); (case c23 => k_is); (case q23 => k_is)
    (case a24 => k_is); (case l24 => k_is); (case c24 => k_is); (case q24 => k_is); (case a25 => k_is); (case l25 => k_is); (case c25 => k_is); (case q25 => k_is)
    (case a26 => k_is); (case l26 => k_is); (case c26 => k_is); (case q26 => k_is); (case a27 => k_is); (case l27 => k_is); (case c27 => k_is); (case q27 => k_is)
    (case a28 => k_is); (case l28 => k_is); (case c28 => k_is); (case q28 => k_is); (case z_all => k_is); (case z_bool => k_is); (case z_enumerate => k_is); (case z_int => k_is)
    (case z_isinstance => k_is); (case z_len => k_is); (case z_max => k_is); (case z_min => k_is); (case z_range => k_is); (case z_repr => k_is); (case z_set => k_is); (case z_sorted => k_is)
    (case z_str => k_is); (case z_tuple => k_is); (case z_zip => k_is); (case z_MOST => k_is); (case l_MOST => k_is); (case hz_MOST => decide); (case v_MOST => exact (.cons ⟨_, rfl⟩ (.cons ⟨_, rfl⟩ (.cons ⟨_, rfl⟩ (.cons ⟨_, rfl⟩ (.cons ⟨_, rfl⟩ (.cons ⟨_, rfl⟩ (.cons ⟨_, rfl⟩ (.cons ⟨_, rfl⟩ .nil))))))))); (case z_MOST_LETTERS => k_is)
    (case z_MOST_SIZE => k_is); (case z_MOST_WORKS => k_is); (case z_SMALL => k_is); (case z_SORTS => k_is); (case l_SORTS => k_is); (case hz_SORTS => decide); (case v_SORTS => exact (.cons ⟨_, rfl⟩ (.cons ⟨_, rfl⟩ (.cons ⟨_, rfl⟩ (.cons ⟨_, rfl⟩ (.cons ⟨_, rfl⟩ (.cons ⟨_, rfl⟩ (.cons ⟨_, rfl⟩ (.cons ⟨_, rfl⟩ .nil)))))))))

