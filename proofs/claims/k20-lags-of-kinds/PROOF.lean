import PyProof.Rows.All
import Wide.All
import OpenK.AllK
import Wide.FinOn
import HandS.Base
import HandS.Call
import HandS.List
import HandS.Comp
import HandS.Lambda
import HandS.Dict
import KE.KeyNested
import KE.KDictDisplayH
import PyProof.Rows.TupTab
import HandS.ForMost
import HandS.ForExc
import HandS.Defaults
import HandS.TupAny
import HandS.IsInst
import HandS.Wide
import HandS.Zip
import KE.GoesMore
import KE.GoesEnum
import HandS.ExcInit
import HandS.ExcField
import HandS.ExcIs
import HandS.TryMany
import HandS.HotCalls
import HandS.Small
import HandS.TupMul
import KE.KExcIs
import HandS.Style
import HandS.EndBits
import HandS.HeadEnd
import HandS.HeadHook4
import HandS.Head0
import HandS.Head1
import HandS.Head2
import HandS.Conv
import HandS.RevTup
import HandS.OwnEq
import PyProof.InstEq
import PyProof.InstNe
import PyProof.P3Eq
import HandS.EndTab
import HandS.Words
import HandS.NoneIn
import HandS.Iter
import HandS.Nested
import KE.SortData
import KE.DataCmp
import HandS.DictComp
import KE.KDictCopyH
import PySem.Challenge.RW_slipcaught_k20_lags_of_kinds
set_option Elab.async false
set_option maxRecDepth 100000
set_option maxHeartbeats 4000000
set_option autoImplicit false
set_option linter.unusedVariables false
namespace Zl
open PySem L2

/-- deep data: what is never changed any more, as a tree; v: a scalar, or a reference that stands for itself -/
inductive D where
  | v (x : V)
  | tup (ds : List D)
  | lst (ds : List D)
  | rd (ds : List D)
  | dct (kvs : List (Key × D))
  | ins (C : Addr) (fs : List (Str × D))

mutual
inductive Rep (K : PySem.W.Frag) (F : Hp) : D → V → Prop
  | v (x : V) : Rep K F (.v x) x
  | tup {ds : List D} {a : Addr} {xs : List V} (h : F a = some (.tup xs)) (r : Reps K F ds xs) : Rep K F (.tup ds) (.ref a)
  | lst {ds : List D} {a : Addr} {xs : List V} (h : F a = some (.lst xs)) (r : Reps K F ds xs) : Rep K F (.lst ds) (.ref a)
  | rd {ds : List D} {a : Addr} {xs : List V} (h : SqL K F a xs) (r : Reps K F ds xs) : Rep K F (.rd ds) (.ref a)
  | dct {ds : List (Key × D)} {a : Addr} {o : Obj} {xs : List (Key × V)} (h : F a = some (.frz o (.dK xs))) (r : RepK K F ds xs) : Rep K F (.dct ds) (.ref a)
  | ins {C dx : Addr} {ds : List (Str × D)} {a : Addr} {xs : List (Str × V)} (h : F a = some (.ins C dx xs)) (r : RepF K F ds xs) : Rep K F (.ins C ds) (.ref a)
inductive Reps (K : PySem.W.Frag) (F : Hp) : List D → List V → Prop
  | nil : Reps K F [] []
  | cons {d : D} {x : V} {ds : List D} {xs : List V} (h : Rep K F d x) (r : Reps K F ds xs) : Reps K F (d :: ds) (x :: xs)
inductive RepK (K : PySem.W.Frag) (F : Hp) : List (Key × D) → List (Key × V) → Prop
  | nil : RepK K F [] []
  | cons {k : Key} {d : D} {x : V} {ds : List (Key × D)} {xs : List (Key × V)} (h : Rep K F d x) (r : RepK K F ds xs) : RepK K F ((k, d) :: ds) ((k, x) :: xs)
inductive RepF (K : PySem.W.Frag) (F : Hp) : List (Str × D) → List (Str × V) → Prop
  | nil : RepF K F [] []
  | cons {k : Str} {d : D} {x : V} {ds : List (Str × D)} {xs : List (Str × V)} (h : Rep K F d x) (r : RepF K F ds xs) : RepF K F ((k, d) :: ds) ((k, x) :: xs)
end

/-- all that was tracked stands -/
def Le (F G : Hp) : Prop := ∀ a o, F a = some o → G a = some o
theorem Le.rfl' (F : Hp) : Le F F := fun _ _ h => h
theorem Le.tr {F G H : Hp} (x : Le F G) (y : Le G H) : Le F H := fun a o h => y a o (x a o h)
theorem Le.put {F : Hp} {p : Addr} {o : HO} (h : F p = none) : Le F (upd F p o) := fun a u e => by
  have n : a ≠ p := fun q => by
    subst q
    rw [h] at e
    cases e
  rw [upd_ne n]
  exact e
theorem rd_le {F G : Hp} {a : Addr} {u : HO} (l : Le F G) (h : Rd F a u) : Rd G a u := by
  cases h with
  | inl h => exact .inl (l _ _ h)
  | inr h =>
    obtain ⟨o, h⟩ := h
    exact .inr ⟨o, l _ _ h⟩
theorem sqT_le {K : PySem.W.Frag} {F G : Hp} {a : Addr} {xs : List V} (l : Le F G) (h : SqT K F a xs) : SqT K G a xs := by
  cases h with
  | inl h => exact .inl (rd_le l h)
  | inr h => exact .inr h
theorem sqL_le {K : PySem.W.Frag} {F G : Hp} {a : Addr} {xs : List V} (l : Le F G) (h : SqL K F a xs) : SqL K G a xs := by
  cases h with
  | inl h => exact .inl (rd_le l h)
  | inr h => exact .inr h

mutual
theorem Rep.le {K : PySem.W.Frag} {F G : Hp} (l : Le F G) : ∀ {d : D} {x : V}, Rep K F d x → Rep K G d x
  | _, _, .v x => .v x
  | _, _, .tup a r => .tup (l _ _ a) (Reps.le l r)
  | _, _, .lst a r => .lst (l _ _ a) (Reps.le l r)
  | _, _, .rd a r => .rd (sqL_le l a) (Reps.le l r)
  | _, _, .dct a r => .dct (l _ _ a) (RepK.le l r)
  | _, _, .ins a r => .ins (l _ _ a) (RepF.le l r)
theorem Reps.le {K : PySem.W.Frag} {F G : Hp} (l : Le F G) : ∀ {ds : List D} {xs : List V}, Reps K F ds xs → Reps K G ds xs
  | _, _, .nil => .nil
  | _, _, .cons a r => .cons (Rep.le l a) (Reps.le l r)
theorem RepK.le {K : PySem.W.Frag} {F G : Hp} (l : Le F G) : ∀ {ds : List (Key × D)} {xs : List (Key × V)}, RepK K F ds xs → RepK K G ds xs
  | _, _, .nil => .nil
  | _, _, .cons a r => .cons (Rep.le l a) (RepK.le l r)
theorem RepF.le {K : PySem.W.Frag} {F G : Hp} (l : Le F G) : ∀ {ds : List (Str × D)} {xs : List (Str × V)}, RepF K F ds xs → RepF K G ds xs
  | _, _, .nil => .nil
  | _, _, .cons a r => .cons (Rep.le l a) (RepF.le l r)
end

section
variable {K : PySem.W.Frag} {F : Hp} {x : V} {ds : List D} {xs : List V}
theorem Rep.v_inv {y : V} (h : Rep K F (.v y) x) : x = y := by
  cases h
  rfl
theorem Rep.tup_inv (h : Rep K F (.tup ds) x) : ∃ a xs, x = .ref a ∧ SqT K F a xs ∧ Reps K F ds xs := by
  cases h with
  | tup a r => exact ⟨_, _, rfl, SqT.of a, r⟩
theorem Rep.lst_inv (h : Rep K F (.lst ds) x) : ∃ a xs, x = .ref a ∧ F a = some (.lst xs) ∧ Reps K F ds xs := by
  cases h with
  | lst a r => exact ⟨_, _, rfl, a, r⟩
theorem Rep.rd_inv (h : Rep K F (.rd ds) x) : ∃ a xs, x = .ref a ∧ SqL K F a xs ∧ Reps K F ds xs := by
  cases h with
  | rd a r => exact ⟨_, _, rfl, a, r⟩
theorem Rep.dct_inv {ks : List (Key × D)} (h : Rep K F (.dct ks) x) : ∃ a o ys, x = .ref a ∧ F a = some (.frz o (.dK ys)) ∧ RepK K F ks ys := by
  cases h with
  | dct a r => exact ⟨_, _, _, rfl, a, r⟩
theorem Rep.ins_inv {C : Addr} {fs : List (Str × D)} (h : Rep K F (.ins C fs) x) : ∃ a dx ys, x = .ref a ∧ F a = some (.ins C dx ys) ∧ RepF K F fs ys := by
  cases h with
  | ins a r => exact ⟨_, _, _, rfl, a, r⟩
theorem Reps.len (h : Reps K F ds xs) : ds.length = xs.length := by
  induction ds generalizing xs with
  | nil => cases h; rfl
  | cons d ds ih =>
    cases h with
    | cons a r => rw [List.length_cons, List.length_cons, ih r]
theorem Reps.get {i : Nat} {d : D} (h : Reps K F ds xs) (e : ds[i]? = some d) : ∃ y, xs[i]? = some y ∧ Rep K F d y := by
  induction ds generalizing xs i with
  | nil => cases e
  | cons d' ds ih =>
    cases h with
    | cons a r =>
      cases i with
      | zero =>
        rw [List.getElem?_cons_zero] at e
        cases e
        exact ⟨_, rfl, a⟩
      | succ i =>
        rw [List.getElem?_cons_succ] at e
        obtain ⟨y, e1, e2⟩ := ih r e
        exact ⟨y, by rw [List.getElem?_cons_succ]; exact e1, e2⟩
theorem Reps.getR {i : Nat} {y : V} (h : Reps K F ds xs) (e : xs[i]? = some y) : ∃ d, ds[i]? = some d ∧ Rep K F d y := by
  induction xs generalizing ds i with
  | nil => cases e
  | cons y' xs ih =>
    cases h with
    | cons a r =>
      cases i with
      | zero =>
        rw [List.getElem?_cons_zero] at e
        cases e
        exact ⟨_, rfl, a⟩
      | succ i =>
        rw [List.getElem?_cons_succ] at e
        obtain ⟨d, e1, e2⟩ := ih r e
        exact ⟨d, by rw [List.getElem?_cons_succ]; exact e1, e2⟩
theorem Reps.app {es : List D} {ys : List V} (h : Reps K F ds xs) (g : Reps K F es ys) : Reps K F (ds ++ es) (xs ++ ys) := by
  induction ds generalizing xs with
  | nil => cases h; exact g
  | cons d ds ih =>
    cases h with
    | cons a r => exact .cons a (ih r)
theorem Reps.snoc {d : D} {y : V} (h : Reps K F ds xs) (g : Rep K F d y) : Reps K F (ds ++ [d]) (xs ++ [y]) := h.app (.cons g .nil)
theorem Reps.take (h : Reps K F ds xs) (n : Nat) : Reps K F (ds.take n) (xs.take n) := by
  induction ds generalizing xs n with
  | nil => cases h; rw [List.take_nil, List.take_nil]; exact .nil
  | cons d ds ih =>
    cases h with
    | cons a r =>
      cases n with
      | zero => exact .nil
      | succ n => exact .cons a (ih r n)
theorem Reps.drop (h : Reps K F ds xs) (n : Nat) : Reps K F (ds.drop n) (xs.drop n) := by
  induction ds generalizing xs n with
  | nil => cases h; rw [List.drop_nil, List.drop_nil]; exact .nil
  | cons d ds ih =>
    cases h with
    | cons a r =>
      cases n with
      | zero => exact .cons a r
      | succ n => exact ih r n
theorem Reps.set {d : D} {y : V} (h : Reps K F ds xs) (g : Rep K F d y) (i : Nat) : Reps K F (ds.set i d) (xs.set i y) := by
  induction ds generalizing xs i with
  | nil => cases h; exact .nil
  | cons d' ds ih =>
    cases h with
    | cons a r =>
      cases i with
      | zero => exact .cons g r
      | succ i => exact .cons a (ih r i)
theorem Reps.rev (h : Reps K F ds xs) : Reps K F ds.reverse xs.reverse := by
  induction ds generalizing xs with
  | nil => cases h; exact .nil
  | cons d ds ih =>
    cases h with
    | cons a r =>
      rw [List.reverse_cons, List.reverse_cons]
      exact (ih r).snoc a
theorem Reps.dropLast (h : Reps K F ds xs) : Reps K F ds.dropLast xs.dropLast := by
  rw [List.dropLast_eq_take, List.dropLast_eq_take, h.len]
  exact h.take _
theorem Reps.flatRep (h : Reps K F ds xs) (k : Nat) : Reps K F (List.replicate k ds).flatten (List.replicate k xs).flatten := by
  induction k with
  | zero => exact .nil
  | succ k ih =>
    rw [List.replicate_succ, List.replicate_succ, List.flatten_cons, List.flatten_cons]
    exact h.app ih
theorem RepF.look {fs : List (Str × D)} {ys : List (Str × V)} {f : Str} (h : RepF K F fs ys) : (fs.lookup f = none → ys.lookup f = none) ∧ ∀ d, fs.lookup f = some d → ∃ y, ys.lookup f = some y ∧ Rep K F d y := by
  induction fs generalizing ys with
  | nil =>
    cases h
    exact ⟨fun _ => rfl, fun d e => by cases e⟩
  | cons p fs ih =>
    cases h with
    | @cons k d x _ xs a r =>
      rw [List.lookup_cons, List.lookup_cons]
      cases f == k with
      | true => exact ⟨fun e => (by cases e), fun d' e => (by cases e; exact ⟨_, rfl, a⟩)⟩
      | false => exact ih r
theorem RepF.len {fs : List (Str × D)} {ys : List (Str × V)} (h : RepF K F fs ys) : fs.length = ys.length := by
  induction fs generalizing ys with
  | nil => cases h; rfl
  | cons d ds ih =>
    cases h with
    | cons a r => rw [List.length_cons, List.length_cons, ih r]
theorem RepK.len {fs : List (Key × D)} {ys : List (Key × V)} (h : RepK K F fs ys) : fs.length = ys.length := by
  induction fs generalizing ys with
  | nil => cases h; rfl
  | cons d ds ih =>
    cases h with
    | cons a r => rw [List.length_cons, List.length_cons, ih r]
end
/-- a field put, in deep data -/
def putD (f : Str) (d : D) : List (Str × D) → List (Str × D)
  | [] => [(f, d)]
  | (g, x) :: r => if g = f then (g, d) :: r else (g, x) :: putD f d r
theorem RepF.put {K : PySem.W.Frag} {F : Hp} {f : Str} {d : D} {y : V} {fs : List (Str × D)} {ys : List (Str × V)} (h : RepF K F fs ys) (g : Rep K F d y) : RepF K F (putD f d fs) (putF f y ys) := by
  induction fs generalizing ys with
  | nil => cases h; exact .cons g .nil
  | cons p fs ih =>
    cases h with
    | @cons k d' x _ xs a r =>
      unfold putD putF
      by_cases q : k = f
      · rw [if_pos q, if_pos q]
        exact .cons g r
      · rw [if_neg q, if_neg q]
        exact .cons a (ih r)

/-! ### dicts whose keys are tuples of any depth -/
mutual
def keyOf : D → Option NestedKey
  | .v .non => some .none
  | .v (.bl b) => some (.num (if b then 1 else 0))
  | .v (.int i) => some (.num i)
  | .v (.str x) => some (.text x)
  | .tup ds => (keysOf ds).map .tup
  | _ => none
def keysOf : List D → Option (List NestedKey)
  | [] => some []
  | d :: ds => match keyOf d, keysOf ds with
    | some k, some ks => some (k :: ks)
    | _, _ => none
end
def entN (w : World) (x : NestedKey × Addr × Value) : DictEntry := ⟨x.1.hash w, .ref x.2.1, x.2.2⟩
/-- the dict at a: its keys, where they stand, its values -/
def DN (w : World) (a : Addr) (xs : List (NestedKey × Addr × V)) : HO := .ext fun h => (a == sysModules) = false ∧ xs.length ≤ sizeLine ∧
  ∃ ys : List (NestedKey × Addr × Value), Paired (fun (p : NestedKey × Addr × V) (q : NestedKey × Addr × Value) => p.1 = q.1 ∧ p.2.1 = q.2.1 ∧ L2.RelV p.2.2 q.2.2) xs ys ∧
    ∃ o es ep, h.get? a = some o ∧ o.ExactDict ∧ o.data = .dict es ep ∧ es.toList = ys.map (entN w) ∧ (ys.map (·.1)).Nodup
inductive RepN (K : PySem.W.Frag) (F : Hp) : List (D × D) → List (NestedKey × Addr × V) → Prop
  | nil : RepN K F [] []
  | cons {d e : D} {k : NestedKey} {b : Addr} {x : V} {ds : List (D × D)} {xs : List (NestedKey × Addr × V)} (hk : keyOf d = some k) (dp : k.depth ≤ 8) (rk : Rep K F d (.ref b)) (rv : Rep K F e x) (r : RepN K F ds xs) :
      RepN K F ((d, e) :: ds) ((k, b, x) :: xs)
theorem RepN.le {K : PySem.W.Frag} {F G : Hp} (l : Le F G) {ds : List (D × D)} {xs : List (NestedKey × Addr × V)} (h : RepN K F ds xs) : RepN K G ds xs := by
  induction h with
  | nil => exact .nil
  | cons hk dp rk rv _ ih => exact .cons hk dp (rk.le l) (rv.le l) ih
/-! ### what may change -/
inductive MO where
  | lst (ds : List D)
  | dct (kvs : List (Key × D))
  | ins (C dx : Addr) (fs : List (Str × D))
  /-- a table of code objects, each of the name q -/
  | tbl (q : Str)
  /-- the dict at a, its keys tuples -/
  | dN (w : World) (a : Addr) (kvs : List (D × D))
inductive RepO (K : PySem.W.Frag) (F : Hp) : MO → HO → Prop
  | lst {ds : List D} {xs : List V} (r : Reps K F ds xs) : RepO K F (.lst ds) (.lst xs)
  | dct {ds : List (Key × D)} {xs : List (Key × V)} (r : RepK K F ds xs) : RepO K F (.dct ds) (.dK xs)
  | ins {C dx : Addr} {ds : List (Str × D)} {xs : List (Str × V)} (r : RepF K F ds xs) : RepO K F (.ins C dx ds) (.ins C dx xs)
  | tbl {q : Str} {ps : Array Value} (t : TriplesOk ps.toList) (r : ∀ pos cv, codeAmong pos ps.toList = some cv → ∃ c, cv = .ref c ∧ F c = some (LamX.CodeO c q)) : RepO K F (.tbl q) (.tbl ps)
  | dN {w : World} {a : Addr} {ds : List (D × D)} {xs : List (NestedKey × Addr × V)} (r : RepN K F ds xs) : RepO K F (.dN w a ds) (DN w a xs)
theorem RepO.le {K : PySem.W.Frag} {F G : Hp} (l : Le F G) {m : MO} {o : HO} (h : RepO K F m o) : RepO K G m o := by
  cases h with
  | lst r => exact .lst (r.le l)
  | dct r => exact .dct (r.le l)
  | ins r => exact .ins (r.le l)
  | dN r => exact .dN (r.le l)
  | tbl t r => exact .tbl t fun pos cv e => let ⟨c, e1, e2⟩ := r pos cv e; ⟨c, e1, l _ _ e2⟩
abbrev MS := Addr → Option MO
def mput (M : MS) (a : Addr) (o : MO) : MS := fun b => if b = a then some o else M b
theorem mput_same {M : MS} {a : Addr} {o : MO} : mput M a o a = some o := if_pos rfl
theorem mput_ne {M : MS} {a b : Addr} {o : MO} (h : b ≠ a) : mput M a o b = M b := if_neg h
theorem mput_mput {M : MS} {a : Addr} {o u : MO} : mput (mput M a o) a u = mput M a u := by
  funext b
  unfold mput
  split <;> rfl
def mdel (M : MS) (a : Addr) : MS := fun b => if b = a then none else M b

structure Sim (K : PySem.W.Frag) (F : Hp) (M : MS) (H : Hp) : Prop where
  sub : Le F H
  dis : ∀ a o, F a = some o → M a = none
  mu : ∀ a m, M a = some m → ∃ o, H a = some o ∧ RepO K F m o
section
variable {K : PySem.W.Frag} {F : Hp} {M : MS} {H : Hp} {a p : Addr} {o : HO} {m : MO}
theorem Sim.nF (s : Sim K F M H) (h : H p = none) : F p = none := by
  cases e : F p with
  | none => rfl
  | some o =>
    have := s.sub _ _ e
    rw [h] at this
    cases this
theorem Sim.nM (s : Sim K F M H) (h : H p = none) : M p = none := by
  cases e : M p with
  | none => rfl
  | some m =>
    obtain ⟨o, q, _⟩ := s.mu _ _ e
    rw [h] at q
    cases q
/-- a new object that will never change -/
theorem Sim.freeze (s : Sim K F M H) (h : H p = none) : Sim K (upd F p o) M (upd H p o) where
  sub := fun a u e => by
    by_cases q : a = p
    · subst q
      rw [upd_same] at e ⊢
      exact e
    · rw [upd_ne q] at e ⊢
      exact s.sub _ _ e
  dis := fun a u e => by
    by_cases q : a = p
    · subst q
      exact s.nM h
    · rw [upd_ne q] at e
      exact s.dis _ _ e
  mu := fun a m e => by
    obtain ⟨u, e1, e2⟩ := s.mu _ _ e
    have q : a ≠ p := fun q => by
      subst q
      rw [h] at e1
      cases e1
    exact ⟨u, by rw [upd_ne q]; exact e1, e2.le (Le.put (s.nF h))⟩
/-- a new object that may change -/
theorem Sim.alloc (s : Sim K F M H) (h : H p = none) (r : RepO K F m o) : Sim K F (mput M p m) (upd H p o) where
  sub := fun a u e => by
    have q : a ≠ p := fun q => by
      subst q
      rw [s.nF h] at e
      cases e
    rw [upd_ne q]
    exact s.sub _ _ e
  dis := fun a u e => by
    have q : a ≠ p := fun q => by
      subst q
      rw [s.nF h] at e
      cases e
    rw [mput_ne q]
    exact s.dis _ _ e
  mu := fun a n e => by
    by_cases q : a = p
    · subst q
      rw [mput_same] at e
      cases e
      exact ⟨o, upd_same, r⟩
    · rw [mput_ne q] at e
      rw [upd_ne q]
      exact s.mu _ _ e
/-- an object that may change is written -/
theorem Sim.write {m' : MO} (s : Sim K F M H) (h : M p = some m') (r : RepO K F m o) : Sim K F (mput M p m) (upd H p o) where
  sub := fun a u e => by
    have q : a ≠ p := fun q => by
      subst q
      rw [s.dis _ _ e] at h
      cases h
    rw [upd_ne q]
    exact s.sub _ _ e
  dis := fun a u e => by
    have q : a ≠ p := fun q => by
      subst q
      rw [s.dis _ _ e] at h
      cases h
    rw [mput_ne q]
    exact s.dis _ _ e
  mu := fun a n e => by
    by_cases q : a = p
    · subst q
      rw [mput_same] at e
      cases e
      exact ⟨o, upd_same, r⟩
    · rw [mput_ne q] at e
      rw [upd_ne q]
      exact s.mu _ _ e
/-- it is written for the last time: from now on it is data -/
theorem Sim.settle (s : Sim K F M H) (h : M p = some m) : ∃ o, H p = some o ∧ RepO K F m o ∧ F p = none ∧ Sim K (upd F p o) (mdel M p) H := by
  obtain ⟨o, e1, e2⟩ := s.mu _ _ h
  have f0 : F p = none := by
    cases e : F p with
    | none => rfl
    | some u =>
      rw [s.dis _ _ e] at h
      cases h
  refine ⟨o, e1, e2, f0, ⟨fun a u e => ?_, fun a u e => ?_, fun a n e => ?_⟩⟩
  · by_cases q : a = p
    · subst q
      rw [upd_same] at e
      rw [e1]
      exact e
    · rw [upd_ne q] at e
      exact s.sub _ _ e
  · by_cases q : a = p
    · subst q
      exact if_pos rfl
    · rw [upd_ne q] at e
      show (if a = p then none else M a) = none
      rw [if_neg q]
      exact s.dis _ _ e
  · have q : a ≠ p := fun q => by
      have e' : (if a = p then none else M a) = some n := e
      rw [if_pos q] at e'
      cases e'
    have e' : (if a = p then none else M a) = some n := e
    rw [if_neg q] at e'
    obtain ⟨u, e3, e4⟩ := s.mu _ _ e'
    exact ⟨u, e3, e4.le (Le.put f0)⟩
/-- nothing but the tracked part grew -/
theorem Sim.grow {H' : Hp} (s : Sim K F M H) (h : Le H H') : Sim K F M H' :=
  ⟨s.sub.tr h, s.dis, fun a m e => let ⟨o, e1, e2⟩ := s.mu a m e; ⟨o, h _ _ e1, e2⟩⟩
end

/-! ### states: what is data, what may change, the abstract heap -/
structure W3 where
  F : Hp
  M : MS
  H : Hp
abbrev Ok (K : PySem.W.Frag) (w : W3) : Prop := Sim K w.F w.M w.H
/-- from w to u: data stays; what is tracked and may not change stands (code tables apart) -/
structure Nx (w u : W3) : Prop where
  le : Le w.F u.F
  keep : ∀ a o, w.H a = some o → (∀ ps, o ≠ .tbl ps) → w.M a = none → u.H a = some o ∧ u.M a = none ∧ (w.F a = none → u.F a = none)
theorem Nx.rf (w : W3) : Nx w w := ⟨Le.rfl' _, fun _ _ h _ n => ⟨h, n, id⟩⟩
theorem Nx.tr {w u v : W3} (a : Nx w u) (b : Nx u v) : Nx w v := ⟨a.le.tr b.le, fun p o h t n => let ⟨h1, n1, f1⟩ := a.keep p o h t n; let ⟨h2, n2, f2⟩ := b.keep p o h1 t n1; ⟨h2, n2, fun f => f2 (f1 f)⟩⟩
section
variable {K : PySem.W.Frag} {F : Hp} {M : MS} {H : Hp} {p : Addr} {o : HO} {m : MO}
theorem nx_new (s : Sim K F M H) (h : H p = none) : Nx ⟨F, M, H⟩ ⟨upd F p o, M, upd H p o⟩ :=
  ⟨Le.put (s.nF h), fun a u e _ n => ⟨Le.put h a u e, n, fun f => by
    have q : a ≠ p := fun q => by
      subst q
      have e' : H a = some u := e
      rw [h] at e'
      cases e'
    show upd F p o a = none
    rw [upd_ne q]
    exact f⟩⟩
theorem nx_alloc (s : Sim K F M H) (h : H p = none) : Nx ⟨F, M, H⟩ ⟨F, mput M p m, upd H p o⟩ :=
  ⟨Le.rfl' _, fun a u e _ n => ⟨Le.put h a u e, by
    have q : a ≠ p := fun q => by
      subst q
      have e' : H a = some u := e
      rw [h] at e'
      cases e'
    refine ⟨?_, id⟩
    show mput M p m a = none
    rw [mput_ne q]
    exact n⟩⟩
theorem nx_write {m' : MO} (h : M p = some m') : Nx ⟨F, M, H⟩ ⟨F, mput M p m, upd H p o⟩ :=
  ⟨Le.rfl' _, fun a u e _ n => by
    have q : a ≠ p := fun q => by
      subst q
      have n' : M a = none := n
      rw [h] at n'
      cases n'
    show upd H p o a = some u ∧ mput M p m a = none ∧ _
    rw [mput_ne q, upd_ne q]
    exact ⟨e, n, id⟩⟩
theorem nx_grow {H' : Hp} (l : Le H H') : Nx ⟨F, M, H⟩ ⟨F, M, H'⟩ := ⟨Le.rfl' _, fun a u e _ n => ⟨l a u e, n, id⟩⟩
end

/-! ### slots -/
abbrev ZSt := List (Option D)
structure RepS (K : PySem.W.Frag) (F : Hp) (δ : ZSt) (σ : St) : Prop where
  len : δ.length = σ.length
  get : ∀ (i : Nat) (d : D), δ[i]? = some (some d) → ∃ x, σ[i]? = some (some x) ∧ Rep K F d x
section
variable {K : PySem.W.Frag} {F G : Hp} {δ : ZSt} {σ : St} {d : D} {x : V}
theorem RepS.le (l : Le F G) (h : RepS K F δ σ) : RepS K G δ σ := ⟨h.len, fun i d e => let ⟨x, e1, e2⟩ := h.get i d e; ⟨x, e1, e2.le l⟩⟩
theorem RepS.set (h : RepS K F δ σ) (r : Rep K F d x) (i : Nat) : RepS K F (δ.set i (some d)) (σ.set i (some x)) := by
  refine ⟨by rw [List.length_set, List.length_set]; exact h.len, fun j d' e => ?_⟩
  by_cases q : j = i
  · subst q
    by_cases hj : j < δ.length
    · rw [List.getElem?_set_self hj] at e
      cases e
      exact ⟨x, List.getElem?_set_self (by rw [← h.len]; exact hj), r⟩
    · rw [List.getElem?_eq_none (by rw [List.length_set]; omega)] at e
      cases e
  · rw [List.getElem?_set_ne (Ne.symm q)] at e ⊢
    exact h.get j d' e
theorem RepS.unset (h : RepS K F δ σ) (i : Nat) : RepS K F (δ.set i none) (σ.set i none) := by
  refine ⟨by rw [List.length_set, List.length_set]; exact h.len, fun j d' e => ?_⟩
  by_cases q : j = i
  · subst q
    by_cases hj : j < δ.length
    · rw [List.getElem?_set_self hj] at e
      cases e
    · rw [List.getElem?_eq_none (by rw [List.length_set]; omega)] at e
      cases e
  · rw [List.getElem?_set_ne (Ne.symm q)] at e ⊢
    exact h.get j d' e
def zwipe (δ : ZSt) : List Nat → ZSt
  | [] => δ
  | i :: is => (zwipe δ is).set i none
theorem RepS.wipe (h : RepS K F δ σ) (is : List Nat) : RepS K F (zwipe δ is) (L2.wipe σ is) := by
  induction is with
  | nil => exact h
  | cons i is ih => exact ih.unset i
theorem RepS.start {ds : List D} {xs : List V} (h : Reps K F ds xs) (n : Nat) : RepS K F (ds.map some ++ List.replicate (n - ds.length) none) (xs.map some ++ List.replicate (n - xs.length) none) := by
  refine ⟨by simp [h.len], fun i d e => ?_⟩
  by_cases q : i < ds.length
  · rw [List.getElem?_append_left (by rw [List.length_map]; exact q), List.getElem?_map] at e
    rw [List.getElem?_append_left (by rw [List.length_map, ← h.len]; exact q), List.getElem?_map]
    cases e1 : ds[i]? with
    | none => rw [e1] at e; cases e
    | some d' =>
      rw [e1] at e
      cases e
      obtain ⟨y, e2, e3⟩ := h.get e1
      exact ⟨y, by rw [e2]; rfl, e3⟩
  · rw [List.getElem?_append_right (by rw [List.length_map]; omega)] at e
    rw [List.getElem?_replicate] at e
    split at e <;> cases e
end
end Zl
namespace Zl
open PySem L2

/-! ### readings on deep data -/
abbrev ZQ := D → MS → Prop
abbrev ZE := ZSt → MS → ZQ → Prop
abbrev ZT := ZSt → MS → (Bool → MS → Prop) → Prop
abbrev ZA := ZSt → MS → (List D → MS → Prop) → Prop
abbrev ZR2 := D → D → MS → ZQ → Prop
abbrev ZR1 := D → MS → ZQ → Prop
abbrev ZRA := List D → MS → ZQ → Prop
structure ZEnds where
  nx : ZSt → MS → Prop
  rt : ZQ
  bk : ZSt → MS → Prop := fun _ _ => False
  ct : ZSt → MS → Prop := fun _ _ => False
abbrev ZS := ZEnds → ZSt → MS → Prop

section
variable (K : PySem.W.Frag) (w0 : W3)
/-- the wish over the heap follows from the wish over deep data, at every later state -/
def CtE (Qz : ZQ) (Q : VK) : Prop := ∀ u d x, Nx w0 u → Ok K u → Rep K u.F d x → Qz d u.M → Q x u.H
def CtT (Qz : Bool → MS → Prop) (Q : Bool → Hp → Prop) : Prop := ∀ u b, Nx w0 u → Ok K u → Qz b u.M → Q b u.H
def CtA (Qz : List D → MS → Prop) (Q : List V → Hp → Prop) : Prop := ∀ u ds xs, Nx w0 u → Ok K u → Reps K u.F ds xs → Qz ds u.M → Q xs u.H
def CtS (Nz : ZSt → MS → Prop) (N : St → Hp → Prop) : Prop := ∀ u δ σ, Nx w0 u → Ok K u → RepS K u.F δ σ → Nz δ u.M → N σ u.H
def CtN (Nz : MS → Prop) (N : Hp → Prop) : Prop := ∀ u, Nx w0 u → Ok K u → Nz u.M → N u.H
structure CtD (Dz : ZEnds) (D : Ends) : Prop where
  nx : CtS K w0 Dz.nx D.nx
  rt : CtE K w0 Dz.rt D.rt
  bk : CtS K w0 Dz.bk D.bk
  ct : CtS K w0 Dz.ct D.ct
def LE (t : TE) (z : ZE) : Prop := ∀ w σ δ Qz Q, Nx w0 w → Ok K w → RepS K w.F δ σ → CtE K w Qz Q → z δ w.M Qz → t σ w.H Q
def LT (t : TT) (z : ZT) : Prop := ∀ w σ δ Qz Q, Nx w0 w → Ok K w → RepS K w.F δ σ → CtT K w Qz Q → z δ w.M Qz → t σ w.H Q
def LA (t : TA) (z : ZA) : Prop := ∀ w σ δ Qz Q, Nx w0 w → Ok K w → RepS K w.F δ σ → CtA K w Qz Q → z δ w.M Qz → t σ w.H Q
def LS (t : TS) (z : ZS) : Prop := ∀ w σ δ Dz D, Nx w0 w → Ok K w → RepS K w.F δ σ → CtD K w Dz D → z Dz δ w.M → t D σ w.H
end
section
variable (K : PySem.W.Frag)
def LR2 (r : R2) (z : ZR2) : Prop := ∀ w x y d e Qz Q, Ok K w → Rep K w.F d x → Rep K w.F e y → CtE K w Qz Q → z d e w.M Qz → r x y w.H Q
def LR1 (r : V → Hp → VK → Prop) (z : ZR1) : Prop := ∀ w x d Qz Q, Ok K w → Rep K w.F d x → CtE K w Qz Q → z d w.M Qz → r x w.H Q
def LRA (r : List V → Hp → VK → Prop) (z : ZRA) : Prop := ∀ w xs ds Qz Q, Ok K w → Reps K w.F ds xs → CtE K w Qz Q → z ds w.M Qz → r xs w.H Q
def LRM (r : V → List V → Hp → VK → Prop) (z : D → ZRA) : Prop := ∀ w x xs d ds Qz Q, Ok K w → Rep K w.F d x → Reps K w.F ds xs → CtE K w Qz Q → z d ds w.M Qz → r x xs w.H Q
end
section
variable {K : PySem.W.Frag} {w u : W3}
theorem CtE.le {Qz : ZQ} {Q : VK} (l : Nx w u) (h : CtE K w Qz Q) : CtE K u Qz Q := fun v d x l' => h v d x (l.tr l')
theorem CtT.le {Qz : Bool → MS → Prop} {Q : Bool → Hp → Prop} (l : Nx w u) (h : CtT K w Qz Q) : CtT K u Qz Q := fun v b l' => h v b (l.tr l')
theorem CtA.le {Qz : List D → MS → Prop} {Q : List V → Hp → Prop} (l : Nx w u) (h : CtA K w Qz Q) : CtA K u Qz Q := fun v d x l' => h v d x (l.tr l')
theorem CtS.le {Nz : ZSt → MS → Prop} {N : St → Hp → Prop} (l : Nx w u) (h : CtS K w Nz N) : CtS K u Nz N := fun v d x l' => h v d x (l.tr l')
theorem CtD.le {Dz : ZEnds} {D : Ends} (l : Nx w u) (h : CtD K w Dz D) : CtD K u Dz D := ⟨h.nx.le l, h.rt.le l, h.bk.le l, h.ct.le l⟩
theorem CtE.go {Qz : ZQ} {Q : VK} {d : D} {x : V} (h : CtE K w Qz Q) (s : Ok K w) (r : Rep K w.F d x) (q : Qz d w.M) : Q x w.H := h w d x (Nx.rf w) s r q
theorem CtE.new {Qz : ZQ} {Q : VK} {d : D} {p : Addr} {o : HO} (h : CtE K w Qz Q) (s : Ok K w) (hp : w.H p = none) (r : Rep K (upd w.F p o) d (.ref p)) (q : Qz d w.M) : Q (.ref p) (upd w.H p o) :=
  h ⟨upd w.F p o, w.M, upd w.H p o⟩ d _ (nx_new s hp) (s.freeze hp) r q
theorem CtE.alloc {Qz : ZQ} {Q : VK} {p : Addr} {o : HO} {m : MO} (h : CtE K w Qz Q) (s : Ok K w) (hp : w.H p = none) (r : RepO K w.F m o) (q : Qz (.v (.ref p)) (mput w.M p m)) : Q (.ref p) (upd w.H p o) :=
  h ⟨w.F, mput w.M p m, upd w.H p o⟩ _ _ (nx_alloc s hp) (s.alloc hp r) (.v _) q
end

/-! ### expressions -/
def zVar (i : Nat) : ZE := fun δ M Q => ∃ d, δ[i]? = some (some d) ∧ Q d M
def zC (d : D) : ZE := fun _ M Q => Q d M
def zOp (r : ZR2) (za zb : ZE) : ZE := fun δ M Q => za δ M fun d M1 => zb δ M1 fun e M2 => r d e M2 Q
def zUn (r : ZR1) (za : ZE) : ZE := fun δ M Q => za δ M fun d M1 => r d M1 Q
def zNil : ZA := fun _ M Q => Q [] M
def zCons (za : ZE) (zr : ZA) : ZA := fun δ M Q => za δ M fun d M1 => zr δ M1 fun ds M2 => Q (d :: ds) M2
def zTup (za : ZA) : ZE := fun δ M Q => za δ M fun ds M1 => ds.length ≤ sizeLine ∧ Q (.tup ds) M1
/-- a list that is never changed -/
def zLst (za : ZA) : ZE := fun δ M Q => za δ M fun ds M1 => ds.length ≤ sizeLine ∧ Q (.lst ds) M1
/-- a list that may be changed -/
def zLstM (za : ZA) : ZE := fun δ M Q => za δ M fun ds M1 => ds.length ≤ sizeLine ∧ ∀ p, M1 p = none → Q (.v (.ref p)) (mput M1 p (.lst ds))
def zCB (r : ZRA) (za : ZA) : ZE := fun δ M Q => za δ M fun ds M1 => r ds M1 Q
def bT (z : ZE) : ZT := fun δ M Q => z δ M fun d M1 => match d with | .v (.bl b) => Q b M1 | _ => False
def zAnd (z w : ZT) : ZT := fun δ M Q => z δ M fun b M1 => if b = true then w δ M1 Q else Q false M1
def zOr (z w : ZT) : ZT := fun δ M Q => z δ M fun b M1 => if b = true then Q true M1 else w δ M1 Q
def zNot (z : ZT) : ZT := fun δ M Q => z δ M fun b M1 => Q (!b) M1
def zAndV (z w : ZE) : ZE := fun δ M Q => z δ M fun d M1 => match d with | .v (.bl true) => w δ M1 Q | .v (.bl false) => Q (.v (.bl false)) M1 | _ => False
def zOrV (z w : ZE) : ZE := fun δ M Q => z δ M fun d M1 => match d with | .v (.bl true) => Q (.v (.bl true)) M1 | .v (.bl false) => w δ M1 Q | _ => False
def zNotV (z : ZE) : ZE := fun δ M Q => z δ M fun d M1 => match d with | .v (.bl b) => Q (.v (.bl (!b))) M1 | _ => False
def zIf (z : ZT) (a b : ZE) : ZE := fun δ M Q => z δ M fun c M1 => if c = true then a δ M1 Q else b δ M1 Q
def zChain (r r' : ZR2) (a b c : ZE) : ZE := fun δ M Q => a δ M fun d M1 => b δ M1 fun e M2 => r d e M2 fun k M3 =>
  match k with | .v (.bl true) => c δ M3 fun f M4 => r' e f M4 Q | .v (.bl false) => Q (.v (.bl false)) M3 | _ => False
section
variable {K : PySem.W.Frag} {w0 : W3} {t ta tb tc : TE} {z za zb zc : ZE} {tt tu : TT} {zt zu : ZT} {aa : TA} {za' : ZA}
theorem le_var {i : Nat} : LE K w0 (tVar i) (zVar i) := fun w σ δ Qz Q _ s rs c h => by
  obtain ⟨d, e, q⟩ := h
  obtain ⟨x, e1, r⟩ := rs.get i d e
  exact ⟨x, e1, c.go s r q⟩
theorem le_c {x : V} : LE K w0 (tC x) (zC (.v x)) := fun w σ δ Qz Q _ s rs c h => c.go s (.v x) h
/-- a constant of the written part that is deep data -/
theorem le_cD {x : V} {d : D} (hd : ∀ G, Rep K G d x) : LE K w0 (tC x) (zC d) := fun w σ δ Qz Q _ s rs c h => c.go s (hd w.F) h
theorem le_op {r : R2} {rz : ZR2} (hr : LR2 K r rz) (ha : LE K w0 ta za) (hb : LE K w0 tb zb) : LE K w0 (tOp r ta tb) (zOp rz za zb) := fun w σ δ Qz Q l s rs c h =>
  ha w σ δ _ _ l s rs (fun w1 d x l1 s1 r1 h1 => hb w1 σ δ _ _ (l.tr l1) s1 (rs.le l1.le) (fun w2 e y l2 s2 r2 h2 =>
    hr w2 x y d e Qz Q s2 (r1.le l2.le) r2 ((c.le l1).le l2) h2) h1) h
theorem le_un {r : V → Hp → VK → Prop} {rz : ZR1} (hr : LR1 K r rz) (ha : LE K w0 ta za) : LE K w0 (tUn r ta) (zUn rz za) := fun w σ δ Qz Q l s rs c h =>
  ha w σ δ _ _ l s rs (fun w1 d x l1 s1 r1 h1 => hr w1 x d Qz Q s1 r1 (c.le l1) h1) h
theorem la_nil : LA K w0 tNil zNil := fun w σ δ Qz Q l s rs c h => c w [] [] (Nx.rf w) s .nil h
theorem la_cons (ha : LE K w0 ta za) (hr : LA K w0 aa za') : LA K w0 (tCons ta aa) (zCons za za') := fun w σ δ Qz Q l s rs c h =>
  ha w σ δ _ _ l s rs (fun w1 d x l1 s1 r1 h1 => hr w1 σ δ _ _ (l.tr l1) s1 (rs.le l1.le) (fun w2 ds xs l2 s2 r2 h2 =>
    c w2 _ _ (l1.tr l2) s2 (.cons (r1.le l2.le) r2) h2) h1) h
theorem le_tup (ha : LA K w0 aa za') : LE K w0 (tTup aa) (zTup za') := fun w σ δ Qz Q l s rs c h =>
  ha w σ δ _ _ l s rs (fun w1 ds xs l1 s1 r1 h1 => ⟨by rw [← r1.len]; exact h1.1, fun p hp =>
    (c.le l1).new s1 hp (.tup upd_same (r1.le (Le.put (s1.nF hp)))) h1.2⟩) h
theorem le_lst (ha : LA K w0 aa za') : LE K w0 (tLst aa) (zLst za') := fun w σ δ Qz Q l s rs c h =>
  ha w σ δ _ _ l s rs (fun w1 ds xs l1 s1 r1 h1 => ⟨by rw [← r1.len]; exact h1.1, fun p hp =>
    (c.le l1).new s1 hp (.lst upd_same (r1.le (Le.put (s1.nF hp)))) h1.2⟩) h
theorem le_lstM (ha : LA K w0 aa za') : LE K w0 (tLst aa) (zLstM za') := fun w σ δ Qz Q l s rs c h =>
  ha w σ δ _ _ l s rs (fun w1 ds xs l1 s1 r1 h1 => ⟨by rw [← r1.len]; exact h1.1, fun p hp =>
    (c.le l1).alloc s1 hp (.lst r1) (h1.2 p (s1.nM hp))⟩) h
theorem le_cb {r : List V → Hp → VK → Prop} {rz : ZRA} (hr : LRA K r rz) (ha : LA K w0 aa za') : LE K w0 (tCB r aa) (zCB rz za') := fun w σ δ Qz Q l s rs c h =>
  ha w σ δ _ _ l s rs (fun w1 d x l1 s1 r1 h1 => hr w1 x d Qz Q s1 r1 (c.le l1) h1) h
theorem rep_bl {G : Hp} {b : Bool} {x : V} (r : Rep K G (.v (.bl b)) x) : x = .bl b := r.v_inv
theorem bl_of {d : D} {M : MS} {Q : Bool → MS → Prop} (h : match d with | .v (.bl b) => Q b M | _ => False) : ∃ b, d = .v (.bl b) ∧ Q b M := by
  split at h
  · exact ⟨_, rfl, h⟩
  · exact h.elim
theorem lt_test (ha : LE K w0 ta za) : LT K w0 (tTest ta) (bT za) := fun w σ δ Qz Q l s rs c h =>
  ha w σ δ _ _ l s rs (fun w1 d x l1 s1 r1 h1 => by
    obtain ⟨b, rfl, q⟩ := bl_of h1
    exact ⟨b, r1.v_inv, c _ _ l1 s1 q⟩) h
theorem lt_B (ha : LE K w0 ta za) : LT K w0 (tB ta) (bT za) := fun w σ δ Qz Q l s rs c h =>
  ha w σ δ _ _ l s rs (fun w1 d x l1 s1 r1 h1 => by
    obtain ⟨b, rfl, q⟩ := bl_of h1
    exact ⟨b, r1.v_inv, c _ _ l1 s1 q⟩) h
theorem lt_and (ha : LT K w0 tt zt) (hb : LT K w0 tu zu) : LT K w0 (tAnd tt tu) (zAnd zt zu) := fun w σ δ Qz Q l s rs c h =>
  ha w σ δ _ _ l s rs (fun w1 b l1 s1 h1 => by
    cases b with
    | true => exact hb w1 σ δ Qz Q (l.tr l1) s1 (rs.le l1.le) (c.le l1) h1
    | false => exact c _ _ l1 s1 h1) h
theorem lt_or (ha : LT K w0 tt zt) (hb : LT K w0 tu zu) : LT K w0 (tOr tt tu) (zOr zt zu) := fun w σ δ Qz Q l s rs c h =>
  ha w σ δ _ _ l s rs (fun w1 b l1 s1 h1 => by
    cases b with
    | true => exact c _ _ l1 s1 h1
    | false => exact hb w1 σ δ Qz Q (l.tr l1) s1 (rs.le l1.le) (c.le l1) h1) h
theorem lt_not (ha : LT K w0 tt zt) : LT K w0 (tNot tt) (zNot zt) := fun w σ δ Qz Q l s rs c h =>
  ha w σ δ _ _ l s rs (fun w1 b l1 s1 h1 => c _ _ l1 s1 h1) h
theorem le_andV (ha : LE K w0 ta za) (hb : LE K w0 tb zb) : LE K w0 (tAndV ta tb) (zAndV za zb) := fun w σ δ Qz Q l s rs c h =>
  ha w σ δ _ _ l s rs (fun w1 d x l1 s1 r1 h1 => by
    revert h1
    split
    · intro h1
      exact ⟨true, r1.v_inv, hb w1 σ δ Qz Q (l.tr l1) s1 (rs.le l1.le) (c.le l1) h1⟩
    · intro h1
      exact ⟨false, r1.v_inv, (c.le l1).go s1 (.v _) h1⟩
    · exact fun h1 => h1.elim) h
theorem le_orV (ha : LE K w0 ta za) (hb : LE K w0 tb zb) : LE K w0 (tOrV ta tb) (zOrV za zb) := fun w σ δ Qz Q l s rs c h =>
  ha w σ δ _ _ l s rs (fun w1 d x l1 s1 r1 h1 => by
    revert h1
    split
    · intro h1
      exact ⟨true, r1.v_inv, (c.le l1).go s1 (.v _) h1⟩
    · intro h1
      exact ⟨false, r1.v_inv, hb w1 σ δ Qz Q (l.tr l1) s1 (rs.le l1.le) (c.le l1) h1⟩
    · exact fun h1 => h1.elim) h
theorem le_notV (ha : LE K w0 ta za) : LE K w0 (tNotV ta) (zNotV za) := fun w σ δ Qz Q l s rs c h =>
  ha w σ δ _ _ l s rs (fun w1 d x l1 s1 r1 h1 => by
    revert h1
    split
    · intro h1
      exact ⟨_, r1.v_inv, (c.le l1).go s1 (.v _) h1⟩
    · exact fun h1 => h1.elim) h
theorem le_if (hc : LT K w0 tt zt) (ha : LE K w0 ta za) (hb : LE K w0 tb zb) : LE K w0 (tIf tt ta tb) (zIf zt za zb) := fun w σ δ Qz Q l s rs c h =>
  hc w σ δ _ _ l s rs (fun w1 b l1 s1 h1 => by
    cases b with
    | true => exact ha w1 σ δ Qz Q (l.tr l1) s1 (rs.le l1.le) (c.le l1) h1
    | false => exact hb w1 σ δ Qz Q (l.tr l1) s1 (rs.le l1.le) (c.le l1) h1) h
theorem le_chain {r r' : R2} {rz rz' : ZR2} (hr : LR2 K r rz) (hr' : LR2 K r' rz') (ha : LE K w0 ta za) (hb : LE K w0 tb zb) (hc : LE K w0 tc zc) : LE K w0 (tChain r r' ta tb tc) (zChain rz rz' za zb zc) := fun w σ δ Qz Q l s rs c h =>
  ha w σ δ _ _ l s rs (fun w1 d x l1 s1 r1 h1 => hb w1 σ δ _ _ (l.tr l1) s1 (rs.le l1.le) (fun w2 e y l2 s2 r2 h2 =>
    hr w2 x y d e _ _ s2 (r1.le l2.le) r2 (fun w3 k kx l3 s3 r3 h3 => by
      revert h3
      split
      · intro h3
        exact ⟨true, r3.v_inv, hc w3 σ δ _ _ ((l.tr l1).tr (l2.tr l3)) s3 (rs.le (l1.tr (l2.tr l3)).le) (fun w4 f w l4 s4 r4 h4 =>
          hr' w4 y w e f Qz Q s4 (r2.le (l3.tr l4).le) r4 (((c.le l1).le l2).le (l3.tr l4)) h4) h3⟩
      · intro h3
        exact ⟨false, r3.v_inv, ((c.le l1).le l2).le l3 |>.go s3 (.v _) h3⟩
      · exact fun h3 => h3.elim) h2) h1) h
end

/-! ### statements -/
def zNext : ZS := fun D δ M => D.nx δ M
def zSeq (z w : ZS) : ZS := fun D δ M => z { D with nx := w D } δ M
def zBreak : ZS := fun D δ M => D.bk δ M
def zCont : ZS := fun D δ M => D.ct δ M
def zDrop (z : ZE) : ZS := fun D δ M => z δ M fun _ M1 => D.nx δ M1
def zRet (z : ZE) : ZS := fun D δ M => z δ M D.rt
def zRetN : ZS := fun D _ M => D.rt (.v .non) M
def zIfS (c : ZT) (z w : ZS) : ZS := fun D δ M => c δ M fun b M1 => if b = true then z D δ M1 else w D δ M1
def zNever : ZS := fun _ _ _ => False
abbrev ZG := D → ZSt → MS → (ZSt → MS → Prop) → Prop
abbrev ZGs := List D → ZSt → MS → (ZSt → MS → Prop) → Prop
def zgName (i : Nat) : ZG := fun d δ M Q => Q (δ.set i (some d)) M
def zgNil : ZGs := fun ds δ M Q => match ds with | [] => Q δ M | _ => False
def zgCons (g : ZG) (gs : ZGs) : ZGs := fun ds δ M Q => match ds with | d :: r => g d δ M fun δ1 M1 => gs r δ1 M1 Q | [] => False
def zgTup (n : Nat) (gs : ZGs) : ZG := fun d δ M Q => match d with | .tup ds => ds.length = n ∧ gs ds δ M Q | _ => False
def zAsg (z : ZE) (g : ZG) : ZS := fun D δ M => z δ M fun d M1 => g d δ M1 D.nx
def zAug (i : Nat) (z : ZE) (r : ZR2) : ZS := fun D δ M => ∃ d, δ[i]? = some (some d) ∧ z δ M fun e M1 => r d e M1 fun f M2 => D.nx (δ.set i (some f)) M2
def zPar (i j : Nat) (za : ZA) : ZS := fun D δ M => za δ M fun ds M1 => match ds with | [d, e] => D.nx ((δ.set i (some d)).set j (some e)) M1 | _ => False
section
variable (K : PySem.W.Frag) (w0 : W3)
def LG (t : TG) (z : ZG) : Prop := ∀ w σ δ x d Nz N, Nx w0 w → Ok K w → RepS K w.F δ σ → Rep K w.F d x → CtS K w Nz N → z d δ w.M Nz → t x σ w.H N
def LGs (t : TGs) (z : ZGs) : Prop := ∀ w σ δ xs ds Nz N, Nx w0 w → Ok K w → RepS K w.F δ σ → Reps K w.F ds xs → CtS K w Nz N → z ds δ w.M Nz → t xs σ w.H N
end
section
variable {K : PySem.W.Frag} {w0 : W3} {t u : TS} {z zw : ZS} {te : TE} {ze : ZE} {tt : TT} {zt : ZT} {aa : TA} {za' : ZA} {g : TG} {gz : ZG} {gs : TGs} {gzs : ZGs}
theorem ls_next : LS K w0 tNext zNext := fun w σ δ Dz D l s rs c h => c.nx w δ σ (Nx.rf w) s rs h
theorem ls_break : LS K w0 tBreak zBreak := fun w σ δ Dz D l s rs c h => c.bk w δ σ (Nx.rf w) s rs h
theorem ls_cont : LS K w0 tCont zCont := fun w σ δ Dz D l s rs c h => c.ct w δ σ (Nx.rf w) s rs h
theorem ls_seq (h1 : LS K w0 t z) (h2 : LS K w0 u zw) : LS K w0 (tSeq t u) (zSeq z zw) := fun w σ δ Dz D l s rs c h =>
  h1 w σ δ { Dz with nx := zw Dz } { D with nx := u D } l s rs ⟨fun w1 δ1 σ1 l1 s1 rs1 h3 => h2 w1 σ1 δ1 Dz D (l.tr l1) s1 rs1 (c.le l1) h3, c.rt, c.bk, c.ct⟩ h
theorem ls_drop (h1 : LE K w0 te ze) : LS K w0 (tDrop te) (zDrop ze) := fun w σ δ Dz D l s rs c h =>
  h1 w σ δ _ _ l s rs (fun w1 d x l1 s1 r1 h2 => c.nx w1 δ σ l1 s1 (rs.le l1.le) h2) h
theorem ls_ret (h1 : LE K w0 te ze) : LS K w0 (tRet te) (zRet ze) := fun w σ δ Dz D l s rs c h => h1 w σ δ _ _ l s rs c.rt h
theorem ls_retN : LS K w0 tRetN zRetN := fun w σ δ Dz D l s rs c h => c.rt.go s (.v _) h
theorem ls_if (hc : LT K w0 tt zt) (h1 : LS K w0 t z) (h2 : LS K w0 u zw) : LS K w0 (tIfS tt t u) (zIfS zt z zw) := fun w σ δ Dz D l s rs c h =>
  hc w σ δ _ _ l s rs (fun w1 b l1 s1 h3 => by
    cases b with
    | true => exact h1 w1 σ δ Dz D (l.tr l1) s1 (rs.le l1.le) (c.le l1) h3
    | false => exact h2 w1 σ δ Dz D (l.tr l1) s1 (rs.le l1.le) (c.le l1) h3) h
theorem ls_never : LS K w0 tNever zNever := fun w σ δ Dz D l s rs c h => h
theorem lg_name {i : Nat} : LG K w0 (gName i) (zgName i) := fun w σ δ x d Nz N l s rs r c h => c w _ _ (Nx.rf w) s (rs.set r i) h
theorem lgs_nil : LGs K w0 gNil zgNil := fun w σ δ xs ds Nz N l s rs r c h => by
  cases ds with
  | nil =>
    cases r
    exact ⟨rfl, c w _ _ (Nx.rf w) s rs h⟩
  | cons d ds => exact h.elim
theorem lgs_cons (h1 : LG K w0 g gz) (h2 : LGs K w0 gs gzs) : LGs K w0 (gCons g gs) (zgCons gz gzs) := fun w σ δ xs ds Nz N l s rs r c h => by
  cases ds with
  | nil => exact h.elim
  | cons d ds =>
    cases r with
    | cons a r => exact ⟨_, _, rfl, h1 w σ δ _ d _ _ l s rs a (fun w1 δ1 σ1 l1 s1 rs1 h3 => h2 w1 σ1 δ1 _ ds _ _ (l.tr l1) s1 rs1 (r.le l1.le) (c.le l1) h3) h⟩
theorem lg_tup {n : Nat} (h1 : LGs K w0 gs gzs) : LG K w0 (gTup K n gs) (zgTup n gzs) := fun w σ δ x d Nz N l s rs r c h => by
  cases d with
  | tup ds =>
    obtain ⟨a, xs, rfl, q, r'⟩ := r.tup_inv
    exact ⟨a, xs, rfl, sqT_le s.sub q, by rw [← r'.len]; exact h.1, h1 w σ δ xs ds Nz N l s rs r' c h.2⟩
  | _ => exact h.elim
theorem ls_asg (h1 : LE K w0 te ze) (h2 : LG K w0 g gz) : LS K w0 (tAsg te g) (zAsg ze gz) := fun w σ δ Dz D l s rs c h =>
  h1 w σ δ _ _ l s rs (fun w1 d x l1 s1 r1 h3 => h2 w1 σ δ x d _ _ (l.tr l1) s1 (rs.le l1.le) r1 (c.nx.le l1) h3) h
theorem ls_aug {i : Nat} {r : TIp} {rz : ZR2} (h1 : LE K w0 te ze) (hr : LR2 K r rz) : LS K w0 (tAug i te r) (zAug i ze rz) := fun w σ δ Dz D l s rs c h => by
  obtain ⟨d, e, h⟩ := h
  obtain ⟨x, e1, rd⟩ := rs.get i d e
  exact ⟨x, e1, h1 w σ δ _ _ l s rs (fun w1 f y l1 s1 r1 h3 => hr w1 x y d f _ _ s1 (rd.le l1.le) r1 (fun w2 k kx l2 s2 r2 h4 =>
    c.nx w2 _ _ (l1.tr l2) s2 ((rs.le (l1.tr l2).le).set r2 i) h4) h3) h⟩
theorem ls_par {i j : Nat} (h1 : LA K w0 aa za') : LS K w0 (tPar i j aa) (zPar i j za') := fun w σ δ Dz D l s rs c h =>
  h1 w σ δ _ _ l s rs (fun w1 ds xs l1 s1 r1 h3 => by
    match ds, r1, h3 with
    | [d, e], .cons a (.cons b .nil), h3 => exact ⟨_, _, rfl, c.nx w1 _ _ l1 s1 (((rs.le l1.le).set a i).set b j) h3⟩) h
end

/-! ### while -/
def zWhile (c : ZT) (z : ZS) : ZS := fun D δ M => ∃ W : Nat → ZSt → MS → Prop, (∃ m, W m δ M) ∧ ∀ m δ M, W m δ M →
  c δ M fun b M1 => if b = true then z { D with nx := fun δ2 M2 => ∃ m', m' < m ∧ W m' δ2 M2, ct := fun δ2 M2 => ∃ m', m' < m ∧ W m' δ2 M2, bk := D.nx } δ M1 else D.nx δ M1
theorem ls_while {K : PySem.W.Frag} {w0 : W3} {tt : TT} {zt : ZT} {t : TS} {z : ZS} (hc : LT K w0 tt zt) (hb : LS K w0 t z) : LS K w0 (tWhile tt t) (zWhile zt z) := fun w σ δ Dz D l s rs c h => by
  obtain ⟨W, ⟨m, h0⟩, hW⟩ := h
  refine ⟨fun m σ' H' => ∃ u δ', u.H = H' ∧ Nx w u ∧ Ok K u ∧ RepS K u.F δ' σ' ∧ W m δ' u.M, ⟨m, w, δ, rfl, Nx.rf w, s, rs, h0⟩, ?_⟩
  rintro n σ1 H1 ⟨w1, δ1, rfl, l1, s1, rs1, h1⟩
  refine hc w1 σ1 δ1 _ _ (l.tr l1) s1 rs1 (fun w2 b l2 s2 h2 => ?_) (hW n δ1 w1.M h1)
  cases b with
  | false => exact c.nx w2 _ _ (l1.tr l2) s2 (rs1.le l2.le) h2
  | true =>
    refine ⟨fun σ' H' => ∃ m', m' < n ∧ ∃ u δ', u.H = H' ∧ Nx w u ∧ Ok K u ∧ RepS K u.F δ' σ' ∧ W m' δ' u.M, fun σ' H' w => w, ?_⟩
    have cn : CtS K w2 (fun δ2 M2 => ∃ m', m' < n ∧ W m' δ2 M2) (fun σ' H' => ∃ m', m' < n ∧ ∃ u δ', u.H = H' ∧ Nx w u ∧ Ok K u ∧ RepS K u.F δ' σ' ∧ W m' δ' u.M) := fun u δ3 σ3 l3 s3 rs3 ⟨m', lt, w3⟩ =>
      ⟨m', lt, u, δ3, rfl, (l1.tr l2).tr l3, s3, rs3, w3⟩
    exact hb w2 σ1 δ1 { Dz with nx := fun δ2 M2 => ∃ m', m' < n ∧ W m' δ2 M2, ct := fun δ2 M2 => ∃ m', m' < n ∧ W m' δ2 M2, bk := Dz.nx } _ ((l.tr l1).tr l2) s2 (rs1.le l2.le) ⟨cn, c.rt.le (l1.tr l2), c.nx.le (l1.tr l2), cn⟩ h2
end Zl
namespace Zl
open PySem PySem.Spec PyProof.Rows L2

/-! ### enumerate(tuple) -/
theorem meets_enumT {v : Value} {ob : Obj} {P : Heap → Prop} (B : Begins v ob P) :
    Meets (Builtin.«enumerate.__new__» ⟨[.type "enumerate", v], []⟩) (fun _ R s => P s.heap ∧
      R (.ok (.ret (.ref (s.heap.push ob).objs.size))) { s with heap := (s.heap.push ob).push { cls := .type "enumerate", data := .fields #[.none, .bool false, .ref s.heap.objs.size, rawInt 0, .none, .none] } }) :=
  .of_wp fun prog w A R s hh => by
    obtain ⟨hp, gg, dd, tk, osx⟩ := s
    obtain ⟨p1, hh⟩ := hh
    have sube := sub_enumerate
    have qq : ∀ {A' : Around} {E : Value → Shared → Prop} {Q : Value → Shared → Prop}, Q (.ref hp.objs.size) ⟨hp.push ob, gg, dd, tk, osx⟩ → wpAny (model prog w) A' (pyIter v) Q E ⟨hp, gg, dd, tk, osx⟩ :=
      fun q => B.iter prog w _ _ ⟨hp, gg, dd, tk, osx⟩ _ p1 q
    wp_walk using qq
    refine wpAny_stack_any fun st => wpAny_pure ?_
    split
    · rename_i c _ _ _ _ _
      cases (c == Value.type "enumerate")
      · wp_walk using qq
        exact ⟨_, rfl, hh⟩
      · wp_walk using qq
        exact ⟨_, rfl, hh⟩
    · wp_walk using qq
      exact ⟨_, rfl, hh⟩
theorem call_enumB {prog : Program} {w : World} {A : Around} {E : Value → Shared → Prop} {s : Shared} {v : Value} {ob : Obj} {P : Heap → Prop} {Q : Value → Shared → Prop} (B : Begins v ob P) (p1 : P s.heap)
    (hq : ∀ h', IsEnum h' (s.heap.objs.size + 1) s.heap.objs.size 0 .none → h'.get? s.heap.objs.size = some ob → h'.objs.size = s.heap.objs.size + 2 →
      (∀ b u, s.heap.get? b = some u → h'.get? b = some u) → Q (.ref (s.heap.objs.size + 1)) { s with heap := h' }) :
    wpAny (model prog w) A (call (.type "enumerate") [v]) Q E s := by
  refine callType_new F.called_enumerate (by decide) (F.typeCall_enumerate_1 _) (F.newCall_enumerate_1 _) (fun obj => F.args_object_init_2 obj _) F.entry_enumerate_new (meets_enumT B) ⟨p1, ?_⟩
  have sz : (s.heap.push ob).objs.size = s.heap.objs.size + 1 := Heap.size_push ..
  show _ ∧ _
  rw [sz]
  have en : IsEnum ((s.heap.push ob).push { cls := .type "enumerate", data := .fields #[.none, .bool false, .ref s.heap.objs.size, rawInt 0, .none, .none] }) (s.heap.objs.size + 1) s.heap.objs.size 0 .none := by
    have e1 := Heap.get?_push_size (s.heap.push ob) (o := { cls := .type "enumerate", data := .fields #[.none, .bool false, .ref s.heap.objs.size, rawInt 0, .none, .none] }) rfl
    rw [sz] at e1
    exact e1
  exact ⟨⟨_, en, rfl⟩, hq _ en (Heap.get?_push_of_some _ (Heap.get?_push_size _ B.free)) (by rw [Heap.size_push, sz]) fun b u x => Heap.get?_push_of_some _ (Heap.get?_push_of_some _ x)⟩
def IteT (K : PySem.W.Frag) (a : Addr) : It :=
  ⟨fun i H => ∃ (xs : List V) (x : V), SqT K H a xs ∧ xs[i]? = some x,
   fun i H v H' => ∃ T x, v = .ref T ∧ H T = none ∧ H' = upd H T (.tup [.int (i : Nat), x]) ∧ ∀ xs, SqT K H a xs → xs[i]? = some x,
   fun i H => ∃ xs : List V, SqT K H a xs ∧ xs.length = i⟩
theorem turn_enumT {P : Program} {w : World} {K : PySem.W.Frag} {elts : List Expr} {kk : Nat} {tpos : Pos} (a e it : Addr) (hne : e ≠ it) (hai : a ≠ it) (hea : e ≠ a) :
    Turn P w K (.Tuple elts kk tpos) (IteT K a) [e, it] e (fun i h => (∃ old, IsEnum h e it ((i : Nat) : Int) old) ∧ h.IsTupleIter it a i) where
  mem := by simp
  obj := fun i h st b hb => by
    obtain ⟨⟨old, he⟩, ⟨o, ho, hc, hd⟩⟩ := st
    rcases (by simpa using hb : b = e ∨ b = it) with q | q
    · subst q
      exact ⟨_, he, fun v q => nomatch q⟩
    · subst q
      exact ⟨o, ho, fun v q => by rw [hd] at q; cases q⟩
  keep := fun i h h' st k => by
    obtain ⟨⟨old, he⟩, hi⟩ := st
    exact ⟨⟨old, k e (by simp) _ he⟩, hi.at fun o q => k it (by simp) o q⟩
  item := by
    intro X hP hw hK hc i pins s σ H E I hf st hg
    subst hP hw hK
    obtain ⟨⟨old, he⟩, hit⟩ := st
    obtain ⟨xs, x, hq, hx⟩ := hg
    obtain ⟨its, rv, p, hz⟩ := I.tuple hq
    obtain ⟨u, hu, ru⟩ := rv.get hx
    have li : i < its.toArray.size := by
      rw [List.size_toArray]
      exact (List.getElem?_eq_some_iff.mp hu).1
    have Dr := Draws.tuple (prog := X.prog) (w := X.w) (A := X.A.in1) (show X.A.in1.handled = none from I.ok.hd hc) it a hai its.toArray
    have lt1 : e < s.heap.objs.size := Heap.lt_size he
    have lt2 : it < s.heap.objs.size := by
      obtain ⟨_, q, _⟩ := hit
      exact Heap.lt_size q
    refine wpAny_pyNext_enum_itemD Dr he ⟨hit, p⟩ li hne (fun q => ?_) fun x' h' tk hp1 ho hst hT hsz hk => ?_
    · rcases (by simpa using q : e = it ∨ e = a) with q | q
      · exact hne q
      · exact hea q
    · have ex : x' = u := by
        rw [List.getElem?_toArray] at hp1
        exact Option.some.inj (hp1.symm.trans hu)
      subst ex
      refine ⟨_, rfl, wpAny_letOwnedTupleGo_enum (s := { s with heap := h', toks := tk + 1 }) ho fun h'' he' sb => ?_⟩
      have hT2 : h''.get? s.heap.objs.size = some { cls := .type "tuple", data := .seq #[.int i tk, x'] } := (sb.2 _ (Nat.ne_of_gt lt1)).trans hT
      have nw : ObjOk X.prog X.w (upd H s.heap.objs.size (.tup [.int (i : Nat), x])) h'' s.heap.objs.size (.tup [.int (i : Nat), x]) :=
        ⟨(by show 2 ≤ sizeLine; decide), [.int i tk, x'], .cons ⟨_, rfl⟩ (.cons ru .nil), ⟨_, hT2, rfl, _, rfl⟩⟩
      have I1 : Inv X pins σ (upd H s.heap.objs.size (.tup [.int (i : Nat), x])) { s with heap := h'', toks := tk + 1 } :=
        I.turnedNew (ch := [e, it]) (fun b ob hb q => (sb.2 b (fun z => hb (by simp [z]))).trans (hk b ob (fun z => hb (by simp [z])) (fun z => hb (by simp [z])) q)) hf (Nat.le_refl _) nw
      refine ⟨.ref s.heap.objs.size, _, I1, rfl, ⟨_, x, rfl, I.hok.fresh (Nat.le_refl _), rfl, fun ys hy => by rw [I.tuple_inj hy hq]; exact hx⟩, ⟨⟨x', ?_⟩, hst.1.at fun o q => (sb.2 it (Ne.symm hne)).trans q⟩, fun b hb => ?_⟩
      · have e1 : ((i + 1 : Nat) : Int) = (i : Int) + 1 := by omega
        rw [e1]
        exact he'
      · have lb : b < s.heap.objs.size := by
          rcases (by simpa using hb : b = e ∨ b = it) with q | q
          · rw [q]
            exact lt1
          · rw [q]
            exact lt2
        rw [upd_ne (Nat.ne_of_lt lb)]
        exact (hf b hb).1
  done := by
    intro X hP hw hK hc i pins s σ H E I hf st hg
    subst hP hw hK
    obtain ⟨⟨old, he⟩, hit⟩ := st
    obtain ⟨xs, hq, hx⟩ := hg
    obtain ⟨its, rv, p, hz⟩ := I.tuple hq
    obtain ⟨f0, f1, f2, f3, f4, f5⟩ := hf it (by simp)
    have hl := rv.length
    have ei : i = its.toArray.size := by
      rw [List.size_toArray]
      omega
    subst ei
    have Dr := Draws.tuple (prog := X.prog) (w := X.w) (A := X.A.in1) (show X.A.in1.handled = none from I.ok.hd hc) it a hai its.toArray
    exact wpAny_pyNext_enum_endD Dr he ⟨hit, p⟩ fun h' eb => ⟨rfl, I.turned (t' := s.toks) (fun b o hb q => eb b o hb q) f0 f1 f3 f4 f5⟩
  self := fun A i s Q E st h => let ⟨⟨_, he⟩, _⟩ := st; wpAny_pyIter_enum he h
def iEnumA (K : PySem.W.Frag) (ta : TA) : TI := fun σ H R => ta σ H fun vs H1 => ∃ a xs, vs = [.ref a] ∧ ((SqL K H1 a xs ∧ R (Ite K a) H1) ∨ (SqT K H1 a xs ∧ R (IteT K a) H1))
theorem pi_enumA {X : Cx} {e : Expr} {ta : TA} {p pos tpos : Pos} {elts : List Expr} {kk : Nat} (hg : Gl X "enumerate") (hm : X.mg "enumerate" = none) (ha : PA X [e] ta) (hs : starEach [e] X.env = [(false, eval e X.env)] := by rfl) :
    PI X (.Tuple elts kk tpos) (.Call (.Name "enumerate" p) [e] [] pos) (iEnumA X.K ta) := by
  refine ⟨fun pins s σ H R I hh => ?_⟩
  refine Call_ (ld_blt I hg hm boot_enumerate (PyProof.Rows.callWith_type1 (thn (ha.run pos pins s σ H _ I hh) fun us s1 ⟨vs, H1, I1, r1, q1⟩ => ?_) hs rfl))
  obtain ⟨a, xs, ex, q1⟩ := q1
  subst ex
  cases r1 with
  | cons r rr =>
    cases rr
    cases r
    have fr : ∀ c, c ∈ [s1.heap.objs.size + 1, s1.heap.objs.size] → FpOk X pins H1 c := fun c hc => by
      have le : s1.heap.objs.size ≤ c := by
        rcases (by simpa using hc : c = s1.heap.objs.size + 1 ∨ c = s1.heap.objs.size) with q | q
        · subst q
          exact Nat.le_add_right _ _
        · subst q
          exact Nat.le_refl _
      exact I1.fpOk le (I1.hok.fresh le)
    rcases q1 with ⟨hq, q⟩ | ⟨hq, q⟩
    · obtain ⟨its, rv, p', hz⟩ := I1.list hq
      refine call_enumerate_list p'.isList fun h' he hit hsz hk => wpAny_pyIter_enum he ?_
      have I2 : Inv X pins σ H1 { s1 with heap := h' } := I1.kept (t' := s1.toks) hk
      exact ⟨s1.heap.objs.size + 1, [s1.heap.objs.size + 1, s1.heap.objs.size], _, _, H1, rfl, I2, turn_enum a (s1.heap.objs.size + 1) s1.heap.objs.size, ⟨⟨.none, he⟩, hit, Nat.succ_ne_self _⟩, fr, q⟩
    · obtain ⟨its, rv, p', hz⟩ := I1.tuple hq
      have la : a < s1.heap.objs.size := by
        obtain ⟨o, e1, _⟩ := id p'
        exact Heap.lt_size e1
      refine call_enumB (begins_tuple a its.toArray) (show s1.heap.IsTuple a its.toArray from p') fun h' he hit hsz hk => wpAny_pyIter_enum he ?_
      have I2 : Inv X pins σ H1 { s1 with heap := h' } := I1.kept (t' := s1.toks) hk
      exact ⟨s1.heap.objs.size + 1, [s1.heap.objs.size + 1, s1.heap.objs.size], _, _, H1, rfl, I2, turn_enumT a (s1.heap.objs.size + 1) s1.heap.objs.size (Nat.succ_ne_self _) (Nat.ne_of_lt la) (Nat.ne_of_gt (Nat.lt_succ_of_lt la)), ⟨⟨.none, he⟩, ⟨_, hit, rfl, rfl⟩⟩, fr, q⟩
/-! ### a list or a tuple walked -/
def iSeq (K : PySem.W.Frag) (te : TE) : TI := fun σ H R => te σ H fun x H1 => ∃ a, x = .ref a ∧ (((∃ xs, SqL K H1 a xs) ∧ R (Itl K a) H1) ∨ ((∃ xs, SqT K H1 a xs) ∧ R (Itt K a) H1))
theorem pi_seq {X : Cx} {tg e : Expr} {te : TE} (he : PE X e te) : PI X tg e (iSeq X.K te) := by
  refine ⟨fun pins s σ H R I hh => ?_⟩
  refine thn (he.run pins s σ H _ I hh) fun v s1 ⟨x, H1, I1, r1, q1⟩ => ?_
  obtain ⟨a, e1, q1⟩ := q1
  subst e1
  cases r1
  have fr : ∀ c, c ∈ [s1.heap.objs.size] → FpOk X pins H1 c := fun c hc => by
    have q : c = s1.heap.objs.size := by simpa using hc
    subst q
    exact I1.fpOk (Nat.le_refl _) (I1.hok.fresh (Nat.le_refl _))
  rcases q1 with ⟨⟨xs, hq⟩, q⟩ | ⟨⟨xs, hq⟩, q⟩
  · obtain ⟨its, rv, p, hz⟩ := I1.list hq
    exact wpAny_pyIter_list p.isList ⟨s1.heap.objs.size, [s1.heap.objs.size], _, _, H1, rfl, I1.kept (t' := s1.toks) fun b o e => Heap.get?_push_of_some _ e, turn_list a _, ⟨_, Heap.get?_push_size _ rfl, rfl, rfl⟩, fr, q⟩
  · obtain ⟨its, rv, p, hz⟩ := I1.tuple hq
    exact wpAny_pyIter_tuple (show s1.heap.IsTuple a its.toArray from p) ⟨s1.heap.objs.size, [s1.heap.objs.size], _, _, H1, rfl, I1.kept (t' := s1.toks) fun b o e => Heap.get?_push_of_some _ e, turn_tuple a _, ⟨_, Heap.get?_push_size _ rfl, rfl, rfl⟩, fr, q⟩
end Zl
namespace Zl
open PySem L2

/-! ### what is walked: a list of data, told ahead -/
abbrev ZI := ZSt → MS → (List D → MS → Prop) → Prop
/-- J yields just ds, whatever happens meanwhile -/
def JOk (K : PySem.W.Frag) (w : W3) (J : It) (ds : List D) : Prop := ∀ u, Nx w u → Ok K u →
  (∀ i, i < ds.length → J.go i u.H ∧ ∀ x H2, J.yld i u.H x H2 → ∃ v d, v.H = H2 ∧ v.M = u.M ∧ Nx u v ∧ Ok K v ∧ ds[i]? = some d ∧ Rep K v.F d x) ∧ J.stop ds.length u.H
def LI (K : PySem.W.Frag) (w0 : W3) (t : TI) (z : ZI) : Prop := ∀ w σ δ (Qz : List D → MS → Prop) R, Nx w0 w → Ok K w → RepS K w.F δ σ →
  (∀ u J ds, Nx w u → Ok K u → JOk K u J ds → Qz ds u.M → R J u.H) → z δ w.M Qz → t σ w.H R
def zSeqI (z : ZE) : ZI := fun δ M Q => z δ M fun d M1 => match d with | .lst ds => Q ds M1 | .rd ds => Q ds M1 | .tup ds => Q ds M1 | _ => False
/-- a list that may be changed elsewhere, but is not while it is walked -/
def zRng1 (za : ZA) : ZI := fun δ M Q => za δ M fun ds M1 => match ds with | [.v (.int j)] => -(2 ^ 62) ≤ j ∧ j < 2 ^ 62 ∧ Q ((List.range j.toNat).map fun i => .v (.int (i : Nat))) M1 | _ => False
def zRng2 (za : ZA) : ZI := fun δ M Q => za δ M fun ds M1 => match ds with
  | [.v (.int i), .v (.int j)] => (-(2 ^ 62) ≤ i ∧ i < 2 ^ 62 ∧ -(2 ^ 62) ≤ j ∧ j < 2 ^ 62) ∧ Q ((List.range (j - i).toNat).map fun k => .v (.int (i + (k : Nat)))) M1
  | _ => False
def enumD (ds : List D) : List D := (List.range ds.length).map fun i => .tup [.v (.int (i : Nat)), ds.getD i (.v .non)]
def zEnum (za : ZA) : ZI := fun δ M Q => za δ M fun ds M1 => match ds with
  | [.lst es] => Q (enumD es) M1
  | [.tup es] => Q (enumD es) M1
  | _ => False
def zipD : List D → List D → List D
  | d :: ds, e :: es => .tup [d, e] :: zipD ds es
  | _, _ => []
def zZip (za : ZA) : ZI := fun δ M Q => za δ M fun ds M1 => match ds with
  | [.lst es, .lst fs] => Q (zipD es fs) M1
  | [.tup es, .tup fs] => Q (zipD es fs) M1
  | _ => False
theorem zipD_get : ∀ (es fs : List D) (i : Nat), (zipD es fs)[i]? = (match es[i]?, fs[i]? with | some d, some e => some (.tup [d, e]) | _, _ => none)
  | [], fs, i => by
    unfold zipD
    simp
  | e :: es, [], i => by
    unfold zipD
    cases h : (e :: es)[i]? <;> simp
  | e :: es, f :: fs, i => by
    unfold zipD
    cases i with
    | zero => rfl
    | succ i =>
      rw [List.getElem?_cons_succ, List.getElem?_cons_succ, List.getElem?_cons_succ]
      exact zipD_get es fs i
theorem zipD_len (es fs : List D) : (zipD es fs).length = min es.length fs.length := by
  induction es generalizing fs with
  | nil => unfold zipD; simp
  | cons e es ih =>
    cases fs with
    | nil => unfold zipD; simp
    | cons f fs =>
      unfold zipD
      rw [List.length_cons, ih, List.length_cons, List.length_cons]
      omega
section
variable {K : PySem.W.Frag} {w0 : W3} {te : TE} {ze : ZE} {aa : TA} {za : ZA}
theorem jok_list {w : W3} {a : Addr} {xs : List V} {ds : List D} (h : SqL K w.F a xs) (r : Reps K w.F ds xs) : JOk K w (Itl K a) ds := fun u l s => by
  have hu := sqL_le s.sub (sqL_le l.le h)
  have len := r.len
  refine ⟨fun i hi => ?_, ⟨xs, hu, by omega⟩⟩
  obtain ⟨d, hd⟩ : ∃ d, ds[i]? = some d := ⟨ds[i], by simp [hi]⟩
  obtain ⟨x, hx, rx⟩ := r.get hd
  refine ⟨⟨xs, x, hu, hx⟩, fun y H2 hy => ?_⟩
  obtain ⟨rfl, hy⟩ := hy
  refine ⟨u, d, rfl, rfl, Nx.rf u, s, hd, ?_⟩
  have e := hy xs hu
  rw [hx] at e
  cases e
  exact rx.le l.le
theorem jok_tup {w : W3} {a : Addr} {xs : List V} {ds : List D} (h : SqT K w.F a xs) (r : Reps K w.F ds xs) : JOk K w (Itt K a) ds := fun u l s => by
  have hu := sqT_le s.sub (sqT_le l.le h)
  have len := r.len
  refine ⟨fun i hi => ?_, ⟨xs, hu, by omega⟩⟩
  obtain ⟨d, hd⟩ : ∃ d, ds[i]? = some d := ⟨ds[i], by simp [hi]⟩
  obtain ⟨x, hx, rx⟩ := r.get hd
  refine ⟨⟨xs, x, hu, hx⟩, fun y H2 hy => ?_⟩
  obtain ⟨rfl, hy⟩ := hy
  refine ⟨u, d, rfl, rfl, Nx.rf u, s, hd, ?_⟩
  have e := hy xs hu
  rw [hx] at e
  cases e
  exact rx.le l.le
theorem li_seq (h1 : LE K w0 te ze) : LI K w0 (iSeq K te) (zSeqI ze) := fun w σ δ Qz R l s rs c h =>
  h1 w σ δ _ _ l s rs (fun w1 d x l1 s1 r1 h2 => by
    cases d with
    | lst ds =>
      obtain ⟨a, xs, rfl, q, r⟩ := r1.lst_inv
      exact ⟨a, rfl, .inl ⟨⟨xs, sqL_le s1.sub (SqL.of q)⟩, c w1 _ ds l1 s1 (jok_list (SqL.of q) r) h2⟩⟩
    | rd ds =>
      obtain ⟨a, xs, rfl, q, r⟩ := r1.rd_inv
      exact ⟨a, rfl, .inl ⟨⟨xs, sqL_le s1.sub q⟩, c w1 _ ds l1 s1 (jok_list q r) h2⟩⟩
    | tup ds =>
      obtain ⟨a, xs, rfl, q, r⟩ := r1.tup_inv
      exact ⟨a, rfl, .inr ⟨⟨xs, sqT_le s1.sub q⟩, c w1 _ ds l1 s1 (jok_tup q r) h2⟩⟩
    | _ => exact h2.elim) h
theorem li_rng1 (h1 : LA K w0 aa za) : LI K w0 (iRng1 aa) (zRng1 za) := fun w σ δ Qz R l s rs c h =>
  h1 w σ δ _ _ l s rs (fun w1 ds xs l1 s1 r1 h2 => by
    revert h2
    split
    · rename_i j
      intro h2
      cases r1 with
      | cons a r =>
        cases r
        refine ⟨j, by rw [a.v_inv], h2.1, h2.2.1, c w1 _ _ l1 s1 (fun u lu su => ⟨fun i hi => ?_, ?_⟩) h2.2.2⟩
        · rw [List.length_map, List.length_range] at hi
          refine ⟨hi, fun x H2 hy => ?_⟩
          obtain ⟨rfl, rfl⟩ := hy
          exact ⟨u, .v (.int (i : Nat)), rfl, rfl, Nx.rf u, su, by rw [List.getElem?_map, List.getElem?_range hi]; rfl, by rw [Int.zero_add]; exact .v _⟩
        · show j.toNat ≤ _
          rw [List.length_map, List.length_range]
          exact Nat.le_refl _
    · exact fun h2 => h2.elim) h
theorem li_rng2 (h1 : LA K w0 aa za) : LI K w0 (iRng2 aa) (zRng2 za) := fun w σ δ Qz R l s rs c h =>
  h1 w σ δ _ _ l s rs (fun w1 ds xs l1 s1 r1 h2 => by
    revert h2
    split
    · rename_i i j
      intro h2
      cases r1 with
      | cons a r =>
        cases r with
        | cons b r =>
          cases r
          refine ⟨i, j, by rw [a.v_inv, b.v_inv], h2.1, c w1 _ _ l1 s1 (fun u lu su => ⟨fun k hk => ?_, ?_⟩) h2.2⟩
          · rw [List.length_map, List.length_range] at hk
            refine ⟨hk, fun x H2 hy => ?_⟩
            obtain ⟨rfl, rfl⟩ := hy
            exact ⟨u, .v (.int (i + (k : Nat))), rfl, rfl, Nx.rf u, su, by rw [List.getElem?_map, List.getElem?_range hk]; rfl, .v _⟩
          · show (j - i).toNat ≤ _
            rw [List.length_map, List.length_range]
            exact Nat.le_refl _
    · exact fun h2 => h2.elim) h
/-- pairs made on the way: the number and the item -/
theorem jok_enum {w : W3} {J : It} {ds : List D} {xs : List V} (r : Reps K w.F ds xs)
    (go : ∀ u, Nx w u → Ok K u → ∀ i, i < xs.length → J.go i u.H) (stop : ∀ u, Nx w u → Ok K u → J.stop xs.length u.H)
    (yld : ∀ u, Nx w u → Ok K u → ∀ i v H', J.yld i u.H v H' → ∃ T x, v = .ref T ∧ u.H T = none ∧ H' = upd u.H T (.tup [.int (i : Nat), x]) ∧ xs[i]? = some x) : JOk K w J (enumD ds) := fun u l s => by
  have len := r.len
  have e1 : (enumD ds).length = xs.length := by
    unfold enumD
    rw [List.length_map, List.length_range, len]
  refine ⟨fun i hi => ⟨go u l s i (by omega), fun v H2 hy => ?_⟩, by rw [e1]; exact stop u l s⟩
  obtain ⟨T, x, rfl, hT, rfl, hx⟩ := yld u l s i v H2 hy
  obtain ⟨d, hd, rx⟩ := r.getR hx
  have hl : i < ds.length := (List.getElem?_eq_some_iff.mp hd).1
  refine ⟨⟨upd u.F T (.tup [.int (i : Nat), x]), u.M, upd u.H T (.tup [.int (i : Nat), x])⟩, .tup [.v (.int (i : Nat)), d], rfl, rfl, nx_new s hT, s.freeze hT, ?_, ?_⟩
  · unfold enumD
    rw [List.getElem?_map, List.getElem?_range hl]
    show some (D.tup [.v (.int (i : Nat)), ds.getD i (.v .non)]) = _
    rw [List.getD_eq_getElem?_getD, hd]
    rfl
  · exact .tup upd_same (.cons (.v _) (.cons (rx.le (l.le.tr (Le.put (s.nF hT)))) .nil))
theorem li_enum (h1 : LA K w0 aa za) : LI K w0 (iEnumA K aa) (zEnum za) := fun w σ δ Qz R l s rs c h =>
  h1 w σ δ _ _ l s rs (fun w1 ds xs l1 s1 r1 h2 => by
    revert h2
    split
    · rename_i es
      intro h2
      cases r1 with
      | cons a r =>
        cases r
        obtain ⟨p, ys, rfl, q0, r⟩ := a.lst_inv
        have q : SqL K w1.F p ys := SqL.of q0
        refine ⟨p, ys, rfl, .inl ⟨sqL_le s1.sub q, c w1 _ _ l1 s1 (jok_enum r (fun u lu su i hi => ⟨ys, ys[i], sqL_le su.sub (sqL_le lu.le q), by simp [hi]⟩) (fun u lu su => ⟨ys, sqL_le su.sub (sqL_le lu.le q), Nat.le_refl _⟩) (fun u lu su i v H' hy => ?_)) h2⟩⟩
        obtain ⟨T, x, e1, e2, e3, e4⟩ := hy
        exact ⟨T, x, e1, e2, e3, e4 ys (sqL_le su.sub (sqL_le lu.le q))⟩
    · rename_i es
      intro h2
      cases r1 with
      | cons a r =>
        cases r
        obtain ⟨p, ys, rfl, q, r⟩ := a.tup_inv
        refine ⟨p, ys, rfl, .inr ⟨sqT_le s1.sub q, c w1 _ _ l1 s1 (jok_enum r (fun u lu su i hi => ⟨ys, ys[i], sqT_le su.sub (sqT_le lu.le q), by simp [hi]⟩) (fun u lu su => ⟨ys, sqT_le su.sub (sqT_le lu.le q), rfl⟩) (fun u lu su i v H' hy => ?_)) h2⟩⟩
        obtain ⟨T, x, e1, e2, e3, e4⟩ := hy
        exact ⟨T, x, e1, e2, e3, e4 ys (sqT_le su.sub (sqT_le lu.le q))⟩
    · exact fun h2 => h2.elim) h
theorem jok_zip {w : W3} {J : It} {ds es : List D} {xs ys : List V} (r : Reps K w.F ds xs) (r' : Reps K w.F es ys)
    (go : ∀ u, Nx w u → Ok K u → ∀ i, i < xs.length → i < ys.length → J.go i u.H) (stop : ∀ u, Nx w u → Ok K u → ∀ i, xs.length ≤ i ∨ ys.length ≤ i → J.stop i u.H)
    (yld : ∀ u, Nx w u → Ok K u → ∀ i v H', J.yld i u.H v H' → ∃ T x y, v = .ref T ∧ u.H T = none ∧ H' = upd u.H T (.tup [x, y]) ∧ xs[i]? = some x ∧ ys[i]? = some y) : JOk K w J (zipD ds es) := fun u l s => by
  have len := r.len
  have len' := r'.len
  have e1 := zipD_len ds es
  refine ⟨fun i hi => ⟨go u l s i (by omega) (by omega), fun v H2 hy => ?_⟩, stop u l s _ (by omega)⟩
  obtain ⟨T, x, y, rfl, hT, rfl, hx, hy⟩ := yld u l s i v H2 hy
  obtain ⟨d, hd, rx⟩ := r.getR hx
  obtain ⟨e, he, ry⟩ := r'.getR hy
  refine ⟨⟨upd u.F T (.tup [x, y]), u.M, upd u.H T (.tup [x, y])⟩, .tup [d, e], rfl, rfl, nx_new s hT, s.freeze hT, ?_, ?_⟩
  · rw [zipD_get, hd, he]
  · exact .tup upd_same (.cons (rx.le (l.le.tr (Le.put (s.nF hT)))) (.cons (ry.le (l.le.tr (Le.put (s.nF hT)))) .nil))
theorem li_zip (h1 : LA K w0 aa za) : LI K w0 (RZ.iZipA K aa) (zZip za) := fun w σ δ Qz R l s rs c h =>
  h1 w σ δ _ _ l s rs (fun w1 ds xs l1 s1 r1 h2 => by
    revert h2
    split
    · intro h2
      cases r1 with
      | cons a r =>
        cases r with
        | cons b r =>
          cases r
          obtain ⟨p, ys, rfl, q0, r⟩ := a.lst_inv
          obtain ⟨p', ys', rfl, q0', r'⟩ := b.lst_inv
          have q : SqL K w1.F p ys := SqL.of q0
          have q' : SqL K w1.F p' ys' := SqL.of q0'
          refine ⟨p, p', ys, ys', rfl, .inl ⟨sqL_le s1.sub q, sqL_le s1.sub q', c w1 _ _ l1 s1 (jok_zip r r' (fun u lu su i hi hi' => ⟨ys, ys', ys[i], ys'[i], sqL_le su.sub (sqL_le lu.le q), sqL_le su.sub (sqL_le lu.le q'), by simp [hi], by simp [hi']⟩)
            (fun u lu su i hi => ⟨ys, ys', sqL_le su.sub (sqL_le lu.le q), sqL_le su.sub (sqL_le lu.le q'), hi⟩) (fun u lu su i v H' hy => ?_)) h2⟩⟩
          obtain ⟨T, x, y, e1, e2, e3, e4, e5⟩ := hy
          exact ⟨T, x, y, e1, e2, e3, e4 ys (sqL_le su.sub (sqL_le lu.le q)), e5 ys' (sqL_le su.sub (sqL_le lu.le q'))⟩
    · intro h2
      cases r1 with
      | cons a r =>
        cases r with
        | cons b r =>
          cases r
          obtain ⟨p, ys, rfl, q, r⟩ := a.tup_inv
          obtain ⟨p', ys', rfl, q', r'⟩ := b.tup_inv
          refine ⟨p, p', ys, ys', rfl, .inr ⟨sqT_le s1.sub q, sqT_le s1.sub q', c w1 _ _ l1 s1 (jok_zip r r' (fun u lu su i hi hi' => ⟨ys, ys', ys[i], ys'[i], sqT_le su.sub (sqT_le lu.le q), sqT_le su.sub (sqT_le lu.le q'), by simp [hi], by simp [hi']⟩)
            (fun u lu su i hi => ⟨ys, ys', sqT_le su.sub (sqT_le lu.le q), sqT_le su.sub (sqT_le lu.le q'), hi⟩) (fun u lu su i v H' hy => ?_)) h2⟩⟩
          obtain ⟨T, x, y, e1, e2, e3, e4, e5⟩ := hy
          exact ⟨T, x, y, e1, e2, e3, e4 ys (sqT_le su.sub (sqT_le lu.le q)), e5 ys' (sqT_le su.sub (sqT_le lu.le q'))⟩
    · exact fun h2 => h2.elim) h
end

/-! ### for -/
def zLoop (g : ZG) (b : ZS) (D : ZEnds) : List Zl.D → ZSt → MS → Prop
  | [], δ, M => D.nx δ M
  | d :: ds, δ, M => g d δ M fun δ1 M1 => b { D with nx := zLoop g b D ds, ct := zLoop g b D ds, bk := D.nx } δ1 M1
def zFor (zi : ZI) (g : ZG) (b : ZS) : ZS := fun D δ M => zi δ M fun ds M1 => zLoop g b D ds δ M1
theorem ls_for {K : PySem.W.Frag} {w0 : W3} {wi : TI} {zi : ZI} {g : TG} {gz : ZG} {tb : TS} {zb : ZS} (hi : LI K w0 wi zi) (hg : LG K w0 g gz) (hb : LS K w0 tb zb) : LS K w0 (tFor wi g tb) (zFor zi gz zb) := fun w σ δ Dz D l s rs c h =>
  hi w σ δ _ _ l s rs (fun w1 J ds l1 s1 hJ h1 => by
    have shift : ∀ {i : Nat} {d : Zl.D}, ds[i]? = some d → ds.drop i = d :: ds.drop (i + 1) := fun {i d} e => by
      obtain ⟨hi, e⟩ := List.getElem?_eq_some_iff.mp e
      rw [List.drop_eq_getElem_cons hi, e]
    refine ⟨fun i m σ' H' => m + i = ds.length ∧ ∃ u δ', u.H = H' ∧ Nx w1 u ∧ Ok K u ∧ RepS K u.F δ' σ' ∧ zLoop gz zb Dz (ds.drop i) δ' u.M, ⟨ds.length, rfl, w1, δ, rfl, Nx.rf w1, s1, rs.le l1.le, h1⟩, ?_⟩
    rintro i m σ' H' ⟨hm, u, δ', rfl, lu, su, ru, hu⟩
    obtain ⟨hgo, hstop⟩ := hJ u lu su
    by_cases hi : i < ds.length
    · obtain ⟨go, hy⟩ := hgo i hi
      refine .inr ⟨go, fun σ2 H2 => ∃ m', m' < m ∧ m' + (i + 1) = ds.length ∧ ∃ u δ', u.H = H2 ∧ Nx w1 u ∧ Ok K u ∧ RepS K u.F δ' σ2 ∧ zLoop gz zb Dz (ds.drop (i + 1)) δ' u.M, fun σ2 H2 ⟨m', lt, e, r⟩ => ⟨m', lt, e, r⟩, fun x H2 yy => ?_⟩
      obtain ⟨v, d, rfl, eM, lv, sv, ed, rd⟩ := hy x H2 yy
      rw [shift ed] at hu
      have hu' : gz d δ' v.M fun δ1 M1 => zb { Dz with nx := zLoop gz zb Dz (ds.drop (i + 1)), ct := zLoop gz zb Dz (ds.drop (i + 1)), bk := Dz.nx } δ1 M1 := by
        rw [eM]
        exact hu
      refine hg v σ' δ' x d _ _ ((l.tr l1).tr (lu.tr lv)) sv (ru.le lv.le) rd (fun w3 δ3 σ3 l3 s3 r3 h3 => ?_) hu'
      have cn : CtS K w3 (zLoop gz zb Dz (ds.drop (i + 1))) (fun σ2 H2 => ∃ m', m' < m ∧ m' + (i + 1) = ds.length ∧ ∃ u δ', u.H = H2 ∧ Nx w1 u ∧ Ok K u ∧ RepS K u.F δ' σ2 ∧ zLoop gz zb Dz (ds.drop (i + 1)) δ' u.M) := fun u4 δ4 σ4 l4 s4 r4 h4 =>
        ⟨m - 1, by omega, by omega, u4, δ4, rfl, ((lu.tr lv).tr l3).tr l4, s4, r4, h4⟩
      have l5 := (((l1.tr lu).tr lv).tr l3)
      exact hb w3 σ3 δ3 { Dz with nx := zLoop gz zb Dz (ds.drop (i + 1)), ct := zLoop gz zb Dz (ds.drop (i + 1)), bk := Dz.nx } _ (l.tr l5) s3 r3 ⟨cn, c.rt.le l5, c.nx.le l5, cn⟩ h3
    · have e : i = ds.length := by omega
      subst e
      rw [List.drop_length] at hu
      exact .inl ⟨hstop, c.nx u _ _ (l1.tr lu) su ru hu⟩) h

/-! ### comprehensions -/
def zLcL (g : ZG) (zt : ZT) (ze : ZE) (δ : ZSt) (Q : List Zl.D → MS → Prop) : List Zl.D → List Zl.D → MS → Prop
  | [], acc, M => Q acc M
  | d :: ds, acc, M => g d δ M fun δ1 M1 => zt δ1 M1 fun b M2 => if b = true then ze δ1 M2 fun e M3 => acc.length < sizeLine ∧ zLcL g zt ze δ Q ds (acc ++ [e]) M3 else zLcL g zt ze δ Q ds acc M2
/-- the list as data -/
def zLc (zi : ZI) (g : ZG) (zt : ZT) (ze : ZE) (vs : List Nat) : ZE := fun δ M Q => zi δ M fun ds M1 => zLcL g zt ze (zwipe δ vs) (fun es M2 => Q (.lst es) M2) ds [] M1
/-- the list, to be changed later -/
def zLcM (zi : ZI) (g : ZG) (zt : ZT) (ze : ZE) (vs : List Nat) : ZE := fun δ M Q => zi δ M fun ds M1 => zLcL g zt ze (zwipe δ vs) (fun es M2 => ∀ p, M2 p = none → Q (.v (.ref p)) (mput M2 p (.lst es))) ds [] M1
/-- a target that stores just slots of vs -/
def WipeOk (g : TG) (vs : List Nat) : Prop := ∀ x σ H N, g x σ H N → g x σ H fun σ2 H2 => L2.wipe σ2 vs = L2.wipe σ vs ∧ N σ2 H2
def WipesOk (g : TGs) (vs : List Nat) : Prop := ∀ xs σ H N, g xs σ H N → g xs σ H fun σ2 H2 => L2.wipe σ2 vs = L2.wipe σ vs ∧ N σ2 H2
theorem wipe_get (σ : St) (vs : List Nat) (j : Nat) : (L2.wipe σ vs)[j]? = if j ∈ vs then (if j < σ.length then some none else none) else σ[j]? := by
  induction vs with
  | nil => simp [L2.wipe]
  | cons v vs ih =>
    have len := L2.wipe_length σ vs
    show ((L2.wipe σ vs).set v none)[j]? = _
    rw [List.getElem?_set]
    by_cases q : v = j
    · subst q
      rw [if_pos rfl, len, if_pos (List.mem_cons_self ..)]
    · rw [if_neg q, ih]
      have e : (j ∈ v :: vs) = (j ∈ vs) := by
        simp only [List.mem_cons, eq_iff_iff]
        exact ⟨fun z => z.elim (fun z => absurd z.symm q) id, .inr⟩
      simp only [e]
theorem wipe_eq {σ τ : St} {vs : List Nat} (l : σ.length = τ.length) (h : ∀ j, j ∉ vs → σ[j]? = τ[j]?) : L2.wipe σ vs = L2.wipe τ vs := by
  apply List.ext_getElem?
  intro j
  rw [wipe_get, wipe_get, l]
  by_cases q : j ∈ vs
  · rw [if_pos q, if_pos q]
  · rw [if_neg q, if_neg q, h j q]
theorem wo_name {j : Nat} {vs : List Nat} (h : j ∈ vs) : WipeOk (gName j) vs := fun x σ H N q => ⟨wipe_eq (List.length_set ..) fun i hi => List.getElem?_set_ne (fun e => hi (by rw [← e]; exact h)), q⟩
theorem wos_nil {vs : List Nat} : WipesOk gNil vs := fun xs σ H N q => ⟨q.1, rfl, q.2⟩
theorem wos_cons {g : TG} {gs : TGs} {vs : List Nat} (mono : ∀ x σ H N N', (∀ σ2 H2, N σ2 H2 → N' σ2 H2) → g x σ H N → g x σ H N') (h1 : WipeOk g vs) (h2 : WipesOk gs vs) : WipesOk (gCons g gs) vs := fun xs σ H N q => by
  obtain ⟨v, r, e, q⟩ := q
  refine ⟨v, r, e, mono _ _ _ _ _ (fun σ2 H2 ⟨e2, q2⟩ => ?_) (h1 _ _ _ _ q)⟩
  have q3 := h2 _ _ _ _ q2
  rw [e2] at q3
  exact q3
theorem wo_tup {K : PySem.W.Frag} {n : Nat} {gs : TGs} {vs : List Nat} (h : WipesOk gs vs) : WipeOk (gTup K n gs) vs := fun x σ H N ⟨a, xs, e, q, l, r⟩ => ⟨a, xs, e, q, l, h _ _ _ _ r⟩
theorem mono_name {j : Nat} : ∀ x σ H N N', (∀ σ2 H2, N σ2 H2 → N' σ2 H2) → gName j x σ H N → gName j x σ H N' := fun _ _ _ _ _ h q => h _ _ q
theorem mono_nil : ∀ xs σ H N N', (∀ σ2 H2, N σ2 H2 → N' σ2 H2) → gNil xs σ H N → gNil xs σ H N' := fun _ _ _ _ _ h q => ⟨q.1, h _ _ q.2⟩
theorem mono_cons {g : TG} {gs : TGs} (m1 : ∀ x σ H N N', (∀ σ2 H2, N σ2 H2 → N' σ2 H2) → g x σ H N → g x σ H N') (m2 : ∀ xs σ H N N', (∀ σ2 H2, N σ2 H2 → N' σ2 H2) → gs xs σ H N → gs xs σ H N') :
    ∀ xs σ H N N', (∀ σ2 H2, N σ2 H2 → N' σ2 H2) → gCons g gs xs σ H N → gCons g gs xs σ H N' := fun _ _ _ _ _ h ⟨v, r, e, q⟩ => ⟨v, r, e, m1 _ _ _ _ _ (fun _ _ z => m2 _ _ _ _ _ h z) q⟩
theorem mono_tup {K : PySem.W.Frag} {n : Nat} {gs : TGs} (m2 : ∀ xs σ H N N', (∀ σ2 H2, N σ2 H2 → N' σ2 H2) → gs xs σ H N → gs xs σ H N') :
    ∀ x σ H N N', (∀ σ2 H2, N σ2 H2 → N' σ2 H2) → gTup K n gs x σ H N → gTup K n gs x σ H N' := fun _ _ _ _ _ h ⟨a, xs, e, q, l, r⟩ => ⟨a, xs, e, q, l, m2 _ _ _ _ _ h r⟩

section
variable {K : PySem.W.Frag} {w0 : W3} {wi : TI} {zi : ZI} {g : TG} {gz : ZG} {tt : TT} {zt : ZT} {te : TE} {ze : ZE} {vs : List Nat}
theorem lc_lift (hi : LI K w0 wi zi) (hg : LG K w0 g gz) (mono : ∀ x σ H N N', (∀ σ2 H2, N σ2 H2 → N' σ2 H2) → g x σ H N → g x σ H N') (hw : WipeOk g vs) (ht : LT K w0 tt zt) (he : LE K w0 te ze) {w : W3} {σ : St} {δ : ZSt} {Qz : List D → MS → Prop} {Q : VK}
    (l : Nx w0 w) (s : Ok K w) (rs : RepS K w.F δ σ)
    (c : ∀ (u : W3) (p : Addr) (es : List D) (xs : List V), Nx w u → Ok K u → u.F p = none → u.M p = none → u.H p = some (.lst xs) → (∀ a o, w.H a = some o → (∀ ps, o ≠ .tbl ps) → w.M a = none → a ≠ p) → Reps K u.F es xs → Qz es u.M → Q (.ref p) u.H)
    (h : zi δ w.M fun ds M1 => zLcL gz zt ze (zwipe δ vs) Qz ds [] M1) : tLc wi g tt te vs σ w.H Q :=
  hi w σ δ _ _ l s rs (fun w1 J ds l1 s1 hJ h1 => by
    have shift : ∀ {i : Nat} {d : Zl.D}, ds[i]? = some d → ds.drop i = d :: ds.drop (i + 1) := fun {i d} e => by
      obtain ⟨hi, e⟩ := List.getElem?_eq_some_iff.mp e
      rw [List.drop_eq_getElem_cons hi, e]
    intro p hp
    have lp : Le w1.H (upd w1.H p (.lst [])) := Le.put hp
    have l2 : Nx w1 ⟨w1.F, w1.M, upd w1.H p (.lst [])⟩ := nx_grow lp
    have s2 : Ok K ⟨w1.F, w1.M, upd w1.H p (.lst [])⟩ := s1.grow lp
    have hpF := s1.nF hp
    have hpM := s1.nM hp
    -- what stands between two turns
    refine ⟨fun i m H' => m + i = ds.length ∧ ∃ u es xs, u.H = H' ∧ Nx w1 u ∧ Ok K u ∧ u.F p = none ∧ u.M p = none ∧ u.H p = some (.lst xs) ∧ Reps K u.F es xs ∧ zLcL gz zt ze (zwipe δ vs) Qz (ds.drop i) es u.M, ⟨ds.length, rfl, ⟨w1.F, w1.M, upd w1.H p (.lst [])⟩, [], [], rfl, l2, s2, hpF, hpM, upd_same, .nil, h1⟩, ?_⟩
    rintro i m H' ⟨hm, u, es, xs, rfl, lu, su, uF, uM, uH, ru, hu⟩
    obtain ⟨hgo, hstop⟩ := hJ u lu su
    by_cases hi : i < ds.length
    · obtain ⟨go, hy⟩ := hgo i hi
      refine .inr ⟨go, fun H2 => ∃ m', m' < m ∧ m' + (i + 1) = ds.length ∧ ∃ u es xs, u.H = H2 ∧ Nx w1 u ∧ Ok K u ∧ u.F p = none ∧ u.M p = none ∧ u.H p = some (.lst xs) ∧ Reps K u.F es xs ∧ zLcL gz zt ze (zwipe δ vs) Qz (ds.drop (i + 1)) es u.M, fun H2 z => z, fun x H2 yy => ?_⟩
      obtain ⟨v, d, rfl, eM, lv, sv, ed, rd⟩ := hy x H2 yy
      have kv := lv.keep p _ uH (fun ps q => nomatch q) uM
      rw [shift ed] at hu
      have ww : L2.wipe (L2.wipe σ vs) vs = L2.wipe σ vs := wipe_eq (L2.wipe_length σ vs) fun j hj => by rw [wipe_get, if_neg hj]
      have hw2 : ∀ N : St → Hp → Prop, g x (L2.wipe σ vs) v.H N → g x (L2.wipe σ vs) v.H fun σ2 H2 => L2.wipe σ2 vs = L2.wipe σ vs ∧ N σ2 H2 := fun N q => by
        have := hw x _ _ N q
        rw [ww] at this
        exact this
      refine hw2 _ (hg v (L2.wipe σ vs) (zwipe δ vs) x d (fun δ1 M1 => zt δ1 M1 fun b M2 => if b = true then ze δ1 M2 fun e M3 => es.length < sizeLine ∧ zLcL gz zt ze (zwipe δ vs) Qz (ds.drop (i + 1)) (es ++ [e]) M3 else zLcL gz zt ze (zwipe δ vs) Qz (ds.drop (i + 1)) es M2) _
        ((l.tr l1).tr (lu.tr lv)) sv ((rs.wipe vs).le ((l1.tr lu).tr lv).le) rd (fun w3 δ3 σ3 l3 s3 r3 h3 => ?_) (by rw [eM]; exact hu))
      refine ht w3 σ3 δ3 _ _ (((l.tr l1).tr (lu.tr lv)).tr l3) s3 r3 (fun w4 b l4 s4 h4 => ?_) h3
      have l34 := lv.tr (l3.tr l4)
      have k4 := l34.keep p _ uH (fun ps q => nomatch q) uM
      cases b with
      | false => exact ⟨m - 1, by omega, by omega, w4, es, xs, rfl, lu.tr l34, s4, k4.2.2 uF, k4.2.1, k4.1, ru.le l34.le, h4⟩
      | true =>
        refine he w4 σ3 δ3 _ _ ((l.tr l1).tr (lu.tr l34)) s4 (r3.le l4.le) (fun w5 e y l5 s5 r5 h5 => ?_) h4
        have l35 := l34.tr l5
        have k5 := l35.keep p _ uH (fun ps q => nomatch q) uM
        have nF := k5.2.2 uF
        refine ⟨xs, k5.1, by rw [← ru.len]; exact h5.1, m - 1, by omega, by omega, ⟨w5.F, w5.M, upd w5.H p (.lst (xs ++ [y]))⟩, es ++ [e], xs ++ [y], rfl, ?_, ?_, nF, k5.2.1, upd_same, (ru.le l35.le).snoc r5, h5.2⟩
        · refine ⟨(lu.tr l35).le, fun a o ea ta na => ?_⟩
          have ka := (lu.tr l35).keep a o ea ta na
          have q : a ≠ p := fun q => by
            subst q
            rw [hp] at ea
            cases ea
          exact ⟨by show upd w5.H p _ a = _; rw [upd_ne q]; exact ka.1, ka.2⟩
        · refine ⟨fun a o ea => ?_, s5.dis, fun a mo ea => ?_⟩
          · have q : a ≠ p := fun q => by
              subst q
              have ea' : w5.F a = some o := ea
              rw [nF] at ea'
              cases ea'
            show upd w5.H p _ a = _
            rw [upd_ne q]
            exact s5.sub a o ea
          · have q : a ≠ p := fun q => by
              subst q
              have ea' : w5.M a = some mo := ea
              rw [k5.2.1] at ea'
              cases ea'
            show ∃ o, upd w5.H p _ a = some o ∧ _
            rw [upd_ne q]
            exact s5.mu a mo ea
    · have e : i = ds.length := by omega
      subst e
      rw [List.drop_length] at hu
      exact .inl ⟨hstop, c u p es xs (l1.tr lu) su uF uM uH (fun a o ea ta na q => by
        have k := (l1.keep a o ea ta na).1
        rw [q, hp] at k
        cases k) ru hu⟩) h
theorem le_lc (hi : LI K w0 wi zi) (hg : LG K w0 g gz) (mono : ∀ x σ H N N', (∀ σ2 H2, N σ2 H2 → N' σ2 H2) → g x σ H N → g x σ H N') (hw : WipeOk g vs) (ht : LT K w0 tt zt) (he : LE K w0 te ze) : LE K w0 (tLc wi g tt te vs) (zLc zi gz zt ze vs) := fun w σ δ Qz Q l s rs c h =>
  lc_lift hi hg mono hw ht he l s rs (fun u p es xs lu su uF uM uH np ru q => by
    have l3 : Le u.F (upd u.F p (.lst xs)) := Le.put uF
    refine c ⟨upd u.F p (.lst xs), u.M, u.H⟩ (.lst es) (.ref p) ⟨lu.le.tr l3, fun a o ea ta na => ⟨(lu.keep a o ea ta na).1, (lu.keep a o ea ta na).2.1, fun f => ?_⟩⟩ ⟨fun a o ea => ?_, fun a o ea => ?_, fun a mo ea => ?_⟩ (.lst upd_same (ru.le l3)) q
    · show upd u.F p _ a = none
      rw [upd_ne (np a o ea ta na)]
      exact (lu.keep a o ea ta na).2.2 f
    · by_cases z : a = p
      · subst z
        have ea' : upd u.F a (.lst xs) a = some o := ea
        rw [upd_same] at ea'
        cases ea'
        exact uH
      · have ea' : upd u.F p (.lst xs) a = some o := ea
        rw [upd_ne z] at ea'
        exact su.sub a o ea'
    · by_cases z : a = p
      · subst z
        exact uM
      · have ea' : upd u.F p (.lst xs) a = some o := ea
        rw [upd_ne z] at ea'
        exact su.dis a o ea'
    · obtain ⟨o, e1, e2⟩ := su.mu a mo ea
      exact ⟨o, e1, e2.le l3⟩) h
theorem le_lcM (hi : LI K w0 wi zi) (hg : LG K w0 g gz) (mono : ∀ x σ H N N', (∀ σ2 H2, N σ2 H2 → N' σ2 H2) → g x σ H N → g x σ H N') (hw : WipeOk g vs) (ht : LT K w0 tt zt) (he : LE K w0 te ze) : LE K w0 (tLc wi g tt te vs) (zLcM zi gz zt ze vs) := fun w σ δ Qz Q l s rs c h =>
  lc_lift hi hg mono hw ht he l s rs (fun u p es xs lu su uF uM uH np ru q => by
    refine c ⟨u.F, mput u.M p (.lst es), u.H⟩ _ _ ⟨lu.le, fun a o ea ta na => ?_⟩ ⟨su.sub, fun a o ea => ?_, fun a mo ea => ?_⟩ (.v _) (q p uM)
    · have k := lu.keep a o ea ta na
      refine ⟨k.1, ?_, k.2.2⟩
      show mput u.M p _ a = none
      rw [mput_ne (np a o ea ta na)]
      exact k.2.1
    · have z : a ≠ p := fun z => by
        subst z
        have ea' : u.F a = some o := ea
        rw [uF] at ea'
        cases ea'
      show mput u.M p _ a = none
      rw [mput_ne z]
      exact su.dis a o ea
    · by_cases z : a = p
      · subst z
        have ea' : mput u.M a (.lst es) a = some mo := ea
        rw [mput_same] at ea'
        cases ea'
        exact ⟨_, uH, .lst ru⟩
      · have ea' : mput u.M p (.lst es) a = some mo := ea
        rw [mput_ne z] at ea'
        exact su.mu a mo ea') h
end
end Zl
namespace Zl
open PySem PySem.Spec PyProof.Rows L2

/-! ### calls, what is raised being wished for at the caller's slots -/
section
variable {X : Cx} {k : Nat} {f C : Addr} {fd : FuncData} {ps : List Str} {sp : Sp} {W : WX} {x m : Str} {p pos apos : Pos} {e o : Expr} {es : List Expr} {ta : TE} {t : TA}
def tCallW (sp : Sp) (W : WX) (t : TA) : TE := fun σ H Q => t σ H fun vs H1 => sp vs H1 Q fun c d H2 => W c d σ H2
theorem pc_call (F : FnOk X.prog X.w X.K X.mg X.base (L2N.CX X.prog X.w) k f fd ps sp) (hr : Room k X.A) (hg : Gl X x) (hm : X.mg x = some (.ref f)) (hk : PySem.W.keepIn X.K (.ref f) = true) (hb : Binds X.K fd ps []) (tk : L2N.Takes X W)
    (ha : PA X (e :: es) t) (hdb : (x == ("__debug__" : Str)) = false := by decide) (he : starEach (e :: es) X.env = (false, eval e X.env) :: starEach es X.env := by rfl) (hpl : (backTo pos (starEach es X.env)).any (·.1) = false := by rfl) :
    PE X (.Call (.Name x p) (e :: es) [] pos) (tCallW sp W t) := pe_callS F hr hg hm hk hb (fun σ => L2N.passAt tk σ) ha hdb he hpl
theorem pc_call0 (F : FnOk X.prog X.w X.K X.mg X.base (L2N.CX X.prog X.w) k f fd ps sp) (hr : Room k X.A) (hg : Gl X x) (hm : X.mg x = some (.ref f)) (hk : PySem.W.keepIn X.K (.ref f) = true) (hb : Binds X.K fd ps []) (tk : L2N.Takes X W)
    (hdb : (x == ("__debug__" : Str)) = false := by decide) : PE X (.Call (.Name x p) [] [] pos) (tCallW sp W tNil) :=
  ⟨fun pins s σ H Q I hh => wpAny_Call_Name_kw (ld_glob I hg hm (PySem.W.callWith_K0 I.kIn hk (run_fnS (us := []) (vs := []) (E := WE W) F hr hb (L2N.passAt tk σ) I .nil hh)) hdb)⟩
def tMethW (C : Addr) (m : Str) (sp : Sp) (W : WX) (ta : TE) (t : TA) : TE := fun σ H Q => ta σ H fun x H1 => ∃ a dx fs, x = .ref a ∧ H1 a = some (.ins C dx fs) ∧ fs.lookup m = none ∧
  t σ H1 fun vs H2 => sp (x :: vs) H2 Q fun c d H3 => W c d σ H3
theorem pc_meth {pl : Sem Bool} (he : PE X o ta) (c : Cls X.K C) (hm : Meth X.K C m f) (F : FnOk X.prog X.w X.K X.mg X.base (L2N.CX X.prog X.w) k f fd ps sp) (hr : Room k X.A) (hb : Binds X.K fd ps []) (tk : L2N.Takes X W) (ha : PA X (e :: es) t)
    (hst : starEach (e :: es) X.env = (false, eval e X.env) :: starEach es X.env := by rfl) (hpl : (backTo pos (starEach es X.env)).any (·.1) = false := by rfl)
    (ht : eval (.Call (.Attribute o m apos) (e :: es) [] pos) X.env = (do
      let ov ← eval o X.env
      standAt apos.atName
      let (g, first) ← holding [ov] (getMethod ov m pl)
      callWith pos g first (backTo pos (starEach (e :: es) X.env)) (backToKw pos (keywordEach [] X.env))) := by rfl) :
    PE X (.Call (.Attribute o m apos) (e :: es) [] pos) (tMethW C m sp W ta t) := by
  refine ⟨fun pins s σ H Q I hh => ?_⟩
  refine PySem.W.methodCall_KW (pl := pl) (thn (he.run pins s σ H _ I hh) fun u s1 ⟨y, H1, I1, ry, a, dx, fs, ey, ea, l, q⟩ => ?_) ht
  subst ey
  obtain rfl : u = Value.ref a := ry
  refine getmeth_ok I1 ea c hm l ?_
  refine PySem.W.callWith_K (first := [.ref a]) (h₀ := X.base) I.ok.mod.kin hm.kp (thn (ha.run pos pins s1 σ H1 _ I1 q) fun us s2 ⟨vs, H2, I2, r, q2⟩ => ⟨I2.kIn, ?_⟩) hst hpl
  exact run_fnS (us := .ref a :: us) (vs := .ref a :: vs) (E := WE W) F hr hb (L2N.passAt tk σ) I2 (.cons rfl r) q2
theorem pc_meth0 {pl : Sem Bool} (he : PE X o ta) (c : Cls X.K C) (hm : Meth X.K C m f) (F : FnOk X.prog X.w X.K X.mg X.base (L2N.CX X.prog X.w) k f fd ps sp) (hr : Room k X.A) (hb : Binds X.K fd ps []) (tk : L2N.Takes X W)
    (ht : eval (.Call (.Attribute o m apos) [] [] pos) X.env = (do
      let ov ← eval o X.env
      standAt apos.atName
      let (g, first) ← holding [ov] (getMethod ov m pl)
      callWith pos g first (backTo pos (starEach [] X.env)) (backToKw pos (keywordEach [] X.env))) := by rfl) :
    PE X (.Call (.Attribute o m apos) [] [] pos) (tMethW C m sp W ta tNil) := by
  refine ⟨fun pins s σ H Q I hh => ?_⟩
  refine PySem.W.methodCall_KW (pl := pl) (thn (he.run pins s σ H _ I hh) fun u s1 ⟨y, H1, I1, ry, a, dx, fs, ey, ea, l, q⟩ => ?_) ht
  subst ey
  obtain rfl : u = Value.ref a := ry
  exact getmeth_ok I1 ea c hm l (PySem.W.callWith_K0 (first := [.ref a]) I1.kIn hm.kp (run_fnS (us := [.ref a]) (vs := [.ref a]) (E := WE W) F hr hb (L2N.passAt tk σ) I1 (.cons rfl .nil) q))
def tMakeW (C : Addr) (sp : Sp) (W : WX) (t : TA) : TE := fun σ H Q => t σ H fun vs H1 => ∀ x dx, H1 x = none → H1 dx = none → dx ≠ x →
  sp (.ref x :: vs) (upd (upd H1 dx (.own x)) x (.ins C dx [])) (fun v H2 => v = .non ∧ Q (.ref x) H2) fun c d H3 => W c d σ H3
theorem run_makeW {pins : List (Addr × Obj)} {σ : L2.St} {H : Hp} {s : Shared} {Q : VK} {us : List Value} {vs : List V} (M : Mk X.K C f) (F : FnOk X.prog X.w X.K X.mg X.base (L2N.CX X.prog X.w) k f fd ps sp) (hr : Room (k + 1) X.A) (hb : Binds X.K fd ps [])
    (tk : L2N.Takes X W) (I : Inv X pins σ H s) (r : Vals vs us)
    (hh : ∀ x dx, H x = none → H dx = none → dx ≠ x → sp (.ref x :: vs) (upd (upd H dx (.own x)) x (.ins C dx [])) (fun v H2 => v = .non ∧ Q (.ref x) H2) (fun c d H3 => W c d σ H3)) :
    wpAny (model X.prog X.w) X.A (call (.ref C) us) (EP X pins σ Q) X.xe s := by
  have hq := hh (s.heap.objs.size + 1) s.heap.objs.size (I.hok.fresh (Nat.le_succ _)) (I.hok.fresh (Nat.le_refl _)) (Nat.ne_of_lt (Nat.lt_succ_self _))
  have I2 := Inv.made (C := C) I
  have r2 : Vals (V.ref (s.heap.objs.size + 1) :: vs) (Value.ref (s.heap.objs.size + 1) :: us) := .cons rfl r
  have hl : ((Value.ref (s.heap.objs.size + 1) :: us) ++ ([] : List Value)).length = ps.length := by
    rw [List.append_nil, ← r2.length]
    exact F.len _ _ _ _ hq
  have bb := hb { s with heap := (s.heap.push PySem.W.emptyDict).push (PySem.W.instObj C s.heap.objs.size) } (Value.ref (s.heap.objs.size + 1) :: us) I2.kIn hl
  rw [List.append_nil] at bb
  refine wpAny_call (make_map (f := f) I.kIn M.makes M.init (beq_iff_eq.mp M.fn) (codeAny_mono (F.run _ X.stack _ _ ⟨Value.ref (s.heap.objs.size + 1) :: us, []⟩ (Value.ref (s.heap.objs.size + 1) :: us) _ _ (fun c d H3 => W c d σ H3) (hr.make C us [])
    (I2.env0.make C us []) bb r2 hq) fun r s' hq' => ?_))
  cases r with
  | error er => exact L2N.passAt tk σ pins _ _ er s' I2 hq'
  | ok fl =>
    cases fl with
    | ret u =>
      obtain ⟨v, H', I3, rv, ev, q3⟩ := I2.after hq'
      subst ev
      exact ⟨rv, ⟨V.ref (s.heap.objs.size + 1), H', I3, rfl, q3⟩⟩
    | next => exact False.elim hq'
    | brk => exact False.elim hq'
    | cont => exact False.elim hq'
theorem pc_make (M : Mk X.K C f) (F : FnOk X.prog X.w X.K X.mg X.base (L2N.CX X.prog X.w) k f fd ps sp) (hr : Room (k + 1) X.A) (hg : Gl X x) (hm : X.mg x = some (.ref C)) (hb : Binds X.K fd ps []) (tk : L2N.Takes X W)
    (ha : PA X (e :: es) t) (hdb : (x == ("__debug__" : Str)) = false := by decide) (he : starEach (e :: es) X.env = (false, eval e X.env) :: starEach es X.env := by rfl) (hpl : (backTo pos (starEach es X.env)).any (·.1) = false := by rfl) :
    PE X (.Call (.Name x p) (e :: es) [] pos) (tMakeW C sp W t) :=
  ⟨fun pins s σ H Q I hh => wpAny_Call_Name_kw (ld_glob I hg hm (PySem.W.callWith_K (h₀ := X.base) I.ok.mod.kin M.kp (thn (ha.run pos pins s σ H _ I hh) fun us s1 ⟨vs, H1, I1, r, q⟩ => ⟨I1.kIn, run_makeW M F hr hb tk I1 r q⟩) he hpl) hdb)⟩

/-- raise, its wish told -/
def tRz (W : WX) (t : L2.St → Hp → XK → Prop) : TS := fun _ σ H => t σ H fun c d H' => W c d σ H'
theorem pc_raise {t : L2.St → Hp → XK → Prop} (hc : X.calm = true) (tk : L2N.Takes X W) (he : L2N.PMk X e t) : PS X (.Raise (some e) none pos) (tRz W t) := L2N.ps_raise hc tk he
end

/-! ### wishes about exceptions -/
abbrev ZX := Addr → List (Str × D) → MS → Prop
abbrev ZW := Addr → List (Str × D) → ZSt → MS → Prop
inductive XRep (K : PySem.W.Frag) (F : Hp) : Option Addr → List (Str × D) → Prop
  | none : XRep K F none []
  | some {d : Addr} {xs : List (Str × V)} {fs : List (Str × D)} (h : F d = some (.xd xs)) (r : RepF K F fs xs) : XRep K F (some d) fs
section
variable (K : PySem.W.Frag) (w0 : W3)
def CtX (Qz : ZX) (Q : XK) : Prop := ∀ u C d fs, Nx w0 u → Ok K u → XRep K u.F d fs → Qz C fs u.M → Q (.ref C) d u.H
def CtW (Wz : ZW) (W : WX) : Prop := ∀ u C d fs δ σ, Nx w0 u → Ok K u → RepS K u.F δ σ → XRep K u.F d fs → Wz C fs δ u.M → W (.ref C) d σ u.H
def LX (t : L2.St → Hp → XK → Prop) (z : ZSt → MS → ZX → Prop) : Prop := ∀ w σ δ Qz Q, Nx w0 w → Ok K w → RepS K w.F δ σ → CtX K w Qz Q → z δ w.M Qz → t σ w.H Q
end
theorem CtX.le {K : PySem.W.Frag} {w u : W3} {Qz : ZX} {Q : XK} (l : Nx w u) (h : CtX K w Qz Q) : CtX K u Qz Q := fun v C d fs l' => h v C d fs (l.tr l')
theorem CtW.le {K : PySem.W.Frag} {w u : W3} {Wz : ZW} {W : WX} (l : Nx w u) (h : CtW K w Wz W) : CtW K u Wz W := fun v C d fs δ σ l' => h v C d fs δ σ (l.tr l')
def zRz (Wz : ZW) (z : ZSt → MS → ZX → Prop) : ZS := fun _ δ M => z δ M fun C fs M' => Wz C fs δ M'
theorem ls_rz {K : PySem.W.Frag} {w0 : W3} {W : WX} {Wz : ZW} {t : L2.St → Hp → XK → Prop} {z : ZSt → MS → ZX → Prop} (hW : CtW K w0 Wz W) (h : LX K w0 t z) : LS K w0 (tRz W t) (zRz Wz z) := fun w σ δ Dz D l s rs c hh =>
  h w σ δ _ _ l s rs (fun u C d fs lu su r q => hW u C d fs δ σ (l.tr lu) su (rs.le lu.le) r q) hh
/-- within a comprehension, an except suite: nothing is raised -/
theorem ctW0 {K : PySem.W.Frag} {w0 : W3} : CtW K w0 (fun _ _ _ _ => False) (fun _ _ _ _ => False) := fun _ _ _ _ _ _ _ _ _ _ h => h

/-! ### promises on deep data -/
abbrev ZSp := List D → MS → ZQ → ZX → Prop
def spOf (K : PySem.W.Frag) (zp : ZSp) : Sp := fun vs H Q E => ∃ (w : W3) (ds : List D) (Qz : ZQ) (Ez : ZX), w.H = H ∧ Ok K w ∧ Reps K w.F ds vs ∧ CtE K w Qz Q ∧ CtX K w Ez E ∧ zp ds w.M Qz Ez
def zCall (zp : ZSp) (Wz : ZW) (za : ZA) : ZE := fun δ M Q => za δ M fun ds M1 => zp ds M1 Q fun C fs M2 => Wz C fs δ M2
theorem le_call {K : PySem.W.Frag} {w0 : W3} {zp : ZSp} {W : WX} {Wz : ZW} {t : TA} {za : ZA} (hW : CtW K w0 Wz W) (ha : LA K w0 t za) : LE K w0 (tCallW (spOf K zp) W t) (zCall zp Wz za) := fun w σ δ Qz Q l s rs c h =>
  ha w σ δ _ _ l s rs (fun u ds xs lu su r q => ⟨u, ds, Qz, _, rfl, su, r, c.le lu, fun v C d fs lv sv rx qx => hW v C d fs δ σ (l.tr (lu.tr lv)) sv (rs.le (lu.tr lv).le) rx qx, q⟩) h
/-- a method of an instance that may change -/
def zMeth (C : Addr) (m : Str) (zp : ZSp) (Wz : ZW) (ze : ZE) (za : ZA) : ZE := fun δ M Q => ze δ M fun d M1 => match d with
  | .v (.ref a) => ∃ dx fs, M1 a = some (.ins C dx fs) ∧ fs.lookup m = none ∧ za δ M1 fun ds M2 => zp (d :: ds) M2 Q fun C' gs M3 => Wz C' gs δ M3
  | .ins C' fs => C' = C ∧ fs.lookup m = none ∧ za δ M1 fun ds M2 => zp (d :: ds) M2 Q fun C' gs M3 => Wz C' gs δ M3
  | _ => False
theorem le_meth {K : PySem.W.Frag} {w0 : W3} {C : Addr} {m : Str} {zp : ZSp} {W : WX} {Wz : ZW} {te : TE} {ze : ZE} {t : TA} {za : ZA} (hW : CtW K w0 Wz W) (he : LE K w0 te ze) (ha : LA K w0 t za) : LE K w0 (tMethW C m (spOf K zp) W te t) (zMeth C m zp Wz ze za) := fun w σ δ Qz Q l s rs c h =>
  he w σ δ _ _ l s rs (fun u d x lu su rx h1 => by
    have go : (za δ u.M fun ds M2 => zp (d :: ds) M2 Qz fun C' gs M3 => Wz C' gs δ M3) → t σ u.H fun vs H2 => spOf K zp (x :: vs) H2 Q fun c d H3 => W c d σ H3 := fun h2 =>
      ha u σ δ _ _ (l.tr lu) su (rs.le lu.le) (fun v ds xs lv sv r q => ⟨v, d :: ds, Qz, _, rfl, sv, .cons (rx.le lv.le) r, c.le (lu.tr lv), fun v' C d fs lv' sv' rx qx => hW v' C d fs δ σ (l.tr ((lu.tr lv).tr lv')) sv' (rs.le ((lu.tr lv).tr lv').le) rx qx, q⟩) h2
    revert h1
    split
    · rename_i a
      rintro ⟨dx, fs, e1, e2, e3⟩
      obtain ⟨o, e4, e5⟩ := su.mu _ _ e1
      cases e5 with
      | ins r =>
        have ex := rx.v_inv
        exact ⟨a, dx, _, ex, e4, r.look.1 e2, go e3⟩
    · rintro ⟨rfl, e2, e3⟩
      obtain ⟨a, dx, ys, ex, e4, r⟩ := rx.ins_inv
      exact ⟨a, dx, ys, ex, su.sub _ _ e4, r.look.1 e2, go e3⟩
    · exact fun h => h.elim) h
/-- C(..): the instance may change -/
def zMakeM (C : Addr) (zp : ZSp) (Wz : ZW) (za : ZA) : ZE := fun δ M Q => za δ M fun ds M1 => ∀ x dx, M1 x = none →
  zp (.v (.ref x) :: ds) (mput M1 x (.ins C dx [])) (fun d M2 => d = .v .non ∧ Q (.v (.ref x)) M2) fun C' fs M2 => Wz C' fs δ M2
/-- C(..): an instance that is data behind its __init__: zm tells of the arguments alone -/
def zMake (zm : ZSp) (Wz : ZW) (za : ZA) : ZE := fun δ M Q => za δ M fun ds M1 => zm ds M1 Q fun C' fs M2 => Wz C' fs δ M2
/-- what the promise of an __init__ gives for the class whose instances are data -/
def MakesAs (C : Addr) (zp zm : ZSp) : Prop := ∀ ds M Q E, zm ds M Q E → ∀ x dx, M x = none →
  zp (.v (.ref x) :: ds) (mput M x (.ins C dx [])) (fun d M2 => d = .v .non ∧ ∃ fs, M2 x = some (.ins C dx fs) ∧ Q (.ins C fs) (mdel M2 x)) fun C' fs M2 => E C' fs (mdel M2 x)
theorem made_nx {K : PySem.W.Frag} {u : W3} {x dx C : Addr} (su : Ok K u) (hx : u.H x = none) (hd : u.H dx = none) (ne : dx ≠ x) :
    Nx u ⟨u.F, mput u.M x (.ins C dx []), upd (upd u.H dx (.own x)) x (.ins C dx [])⟩ ∧ Ok K ⟨u.F, mput u.M x (.ins C dx []), upd (upd u.H dx (.own x)) x (.ins C dx [])⟩ := by
  have l1 : Nx u ⟨u.F, u.M, upd u.H dx (.own x)⟩ := nx_grow (Le.put hd)
  have s1 : Ok K ⟨u.F, u.M, upd u.H dx (.own x)⟩ := su.grow (Le.put hd)
  have hx' : upd u.H dx (.own x) x = none := by rw [upd_ne (Ne.symm ne)]; exact hx
  exact ⟨l1.tr (nx_alloc s1 hx'), Sim.alloc s1 hx' (.ins .nil)⟩
theorem le_makeM {K : PySem.W.Frag} {w0 : W3} {C : Addr} {zp : ZSp} {W : WX} {Wz : ZW} {t : TA} {za : ZA} (hW : CtW K w0 Wz W) (ha : LA K w0 t za) : LE K w0 (tMakeW C (spOf K zp) W t) (zMakeM C zp Wz za) := fun w σ δ Qz Q l s rs c h =>
  ha w σ δ _ _ l s rs (fun u ds xs lu su r q => fun x dx hx hd ne => by
    obtain ⟨l2, s2⟩ := made_nx (C := C) su hx hd ne
    refine ⟨⟨u.F, mput u.M x (.ins C dx []), upd (upd u.H dx (.own x)) x (.ins C dx [])⟩, .v (.ref x) :: ds, _, _, rfl, s2, .cons (.v _) r, fun v d y lv sv ry qv => ?_, fun v C d fs lv sv rx qx => hW v C d fs δ σ (l.tr ((lu.tr l2).tr lv)) sv (rs.le ((lu.tr l2).tr lv).le) rx qx, q x dx (su.nM hx)⟩
    obtain ⟨rfl, qv⟩ := qv
    exact ⟨ry.v_inv, c v _ _ ((lu.tr l2).tr lv) sv (.v _) qv⟩) h
theorem drop_nx {w : W3} {a : Addr} : Nx w ⟨w.F, mdel w.M a, w.H⟩ := ⟨Le.rfl' _, fun p o e _ n => ⟨e, by
  show (if p = a then none else w.M p) = none
  rw [n]
  split <;> rfl, id⟩⟩
theorem drop_ok {K : PySem.W.Frag} {w : W3} {a : Addr} (s : Ok K w) : Ok K ⟨w.F, mdel w.M a, w.H⟩ := ⟨s.sub, fun p o e => by
  show (if p = a then none else w.M p) = none
  rw [s.dis p o e]
  split <;> rfl, fun p m e => by
    have e' : (if p = a then none else w.M p) = some m := e
    split at e'
    · cases e'
    · exact s.mu p m e'⟩
/-- what was to be changed is data from now on -/
theorem settle_nx {K : PySem.W.Frag} {w : W3} {a C dx : Addr} {fs : List (Str × D)} (s : Ok K w) (h : w.M a = some (.ins C dx fs)) : ∃ u : W3, Nx w u ∧ Ok K u ∧ u.M = mdel w.M a ∧ u.H = w.H ∧ Rep K u.F (.ins C fs) (.ref a) := by
  obtain ⟨o, e1, e2, e3, e4⟩ := Sim.settle s h
  cases e2 with
  | ins r =>
    refine ⟨⟨upd w.F a (.ins C dx _), mdel w.M a, w.H⟩, ⟨Le.put e3, fun p u ep _ n => ?_⟩, e4, rfl, rfl, .ins upd_same (r.le (Le.put e3))⟩
    have q : p ≠ a := fun q => by
      rw [q, h] at n
      cases n
    refine ⟨ep, ?_, fun f => ?_⟩
    · show (if p = a then none else w.M p) = none
      rw [if_neg q]
      exact n
    · show upd w.F a _ p = none
      rw [upd_ne q]
      exact f
theorem le_make {K : PySem.W.Frag} {w0 : W3} {C : Addr} {zp zm : ZSp} {W : WX} {Wz : ZW} {t : TA} {za : ZA} (hm : MakesAs C zp zm) (hW : CtW K w0 Wz W) (ha : LA K w0 t za) : LE K w0 (tMakeW C (spOf K zp) W t) (zMake zm Wz za) := fun w σ δ Qz Q l s rs c h =>
  ha w σ δ _ _ l s rs (fun u ds xs lu su r q => fun x dx hx hd ne => by
    obtain ⟨l2, s2⟩ := made_nx (C := C) su hx hd ne
    refine ⟨⟨u.F, mput u.M x (.ins C dx []), upd (upd u.H dx (.own x)) x (.ins C dx [])⟩, .v (.ref x) :: ds, _, _, rfl, s2, .cons (.v _) r, fun v d y lv sv ry qv => ?_, fun v C d fs lv sv rx qx => ?_, hm ds u.M _ _ q x dx (su.nM hx)⟩
    · obtain ⟨rfl, fs, e1, qv⟩ := qv
      obtain ⟨v', l3, s3, eM, eH, r3⟩ := settle_nx sv e1
      refine ⟨ry.v_inv, ?_⟩
      rw [← eH]
      exact c v' _ _ (((lu.tr l2).tr lv).tr l3) s3 r3 (by rw [eM]; exact qv)
    · exact hW ⟨v.F, mdel v.M x, v.H⟩ C d fs δ σ (l.tr (((lu.tr l2).tr lv).tr drop_nx)) (drop_ok sv) (rs.le ((lu.tr l2).tr lv).le) rx qx) h
end Zl
namespace Zl
open PySem PySem.Spec PyProof.Rows L2

/-! ### whole numbers -/
def zI0 (g : Int → Int → V) : ZR2 := fun d e M Q => match d, e with | .v (.int i), .v (.int j) => Q (.v (g i j)) M | _, _ => False
def zI (C : Int → Int → Prop) (g : Int → Int → V) : ZR2 := fun d e M Q => match d, e with | .v (.int i), .v (.int j) => C i j ∧ Q (.v (g i j)) M | _, _ => False
def zU (g : Int → V) : ZR1 := fun d M Q => match d with | .v (.int i) => Q (.v (g i)) M | _ => False
section
variable {K : PySem.W.Frag}
theorem lr_I0 {g : Int → Int → V} : LR2 K (rI0 g) (zI0 g) := fun w x y d e Qz Q s rx ry c h => by
  unfold zI0 at h
  split at h
  · exact ⟨_, _, rx.v_inv, ry.v_inv, c.go s (.v _) h⟩
  · exact h.elim
theorem lr_I {C : Int → Int → Prop} {g : Int → Int → V} : LR2 K (rI C g) (zI C g) := fun w x y d e Qz Q s rx ry c h => by
  unfold zI at h
  split at h
  · exact ⟨_, _, rx.v_inv, ry.v_inv, h.1, c.go s (.v _) h.2⟩
  · exact h.elim
theorem lr_U {g : Int → V} : LR1 K (rU g) (zU g) := fun w x d Qz Q s rx c h => by
  unfold zU at h
  split at h
  · exact ⟨_, rx.v_inv, c.go s (.v _) h⟩
  · exact h.elim
theorem lr_ipI {g : Int → Int → Int} : LR2 K (ipI g) (zI0 fun i j => .int (g i j)) := fun w x y d e Qz Q s rx ry c h => by
  unfold zI0 at h
  split at h
  · exact ⟨_, _, rx.v_inv, ry.v_inv, c.go s (.v _) h⟩
  · exact h.elim
end

/-! ### + of numbers, texts, tuples, lists -/
def rAddA (K : PySem.W.Frag) : R2 := fun x y H Q => rI0 (fun i j => .int (i + j)) x y H Q ∨ (∃ i j, x = .str i ∧ y = .str j ∧ i.length + j.length ≤ sizeLine ∧ Q (.str (i ++ j)) H) ∨ rCatA K x y H Q ∨ rCat x y H Q
theorem op_addA {X : Cx} : OpR X (binaryOp .Add) (rAddA X.K) := op_add.or (op_add_str.or (op_catA.or op_cat))
def zAdd : ZR2 := fun d e M Q => match d, e with
  | .v (.int i), .v (.int j) => Q (.v (.int (i + j))) M
  | .v (.str x), .v (.str y) => x.length + y.length ≤ sizeLine ∧ Q (.v (.str (x ++ y))) M
  | .tup xs, .tup ys => xs.length + ys.length ≤ sizeLine ∧ Q (.tup (xs ++ ys)) M
  | .lst xs, .lst ys => xs.length + ys.length ≤ sizeLine ∧ Q (.lst (xs ++ ys)) M
  | _, _ => False
theorem nil_of {K : PySem.W.Frag} {F : Hp} {ds : List D} {xs : List V} (r : Reps K F ds xs) (h : xs = []) : ds = [] := by
  subst h
  cases r
  rfl
theorem lr_add {K : PySem.W.Frag} : LR2 K (rAddA K) zAdd := fun w x y d e Qz Q s rx ry c h => by
  unfold zAdd at h
  split at h
  · exact .inl ⟨_, _, rx.v_inv, ry.v_inv, c.go s (.v _) h⟩
  · exact .inr (.inl ⟨_, _, rx.v_inv, ry.v_inv, h.1, c.go s (.v _) h.2⟩)
  · obtain ⟨a, xs, rfl, q1, r1⟩ := rx.tup_inv
    obtain ⟨b, ys, rfl, q2, r2⟩ := ry.tup_inv
    refine .inr (.inr (.inl ⟨a, b, xs, ys, rfl, rfl, sqT_le s.sub q1, sqT_le s.sub q2, by rw [← r1.len, ← r2.len]; exact h.1, fun e => ?_, fun _ e => ?_, fun _ _ p hp => ?_⟩))
    · have h2 := h.2
      rw [nil_of r1 e, List.nil_append] at h2
      exact c.go s ry h2
    · have h2 := h.2
      rw [nil_of r2 e, List.append_nil] at h2
      exact c.go s rx h2
    · exact c.new s hp (.tup upd_same ((r1.app r2).le (Le.put (s.nF hp)))) h.2
  · obtain ⟨a, xs, rfl, q1, r1⟩ := rx.lst_inv
    obtain ⟨b, ys, rfl, q2, r2⟩ := ry.lst_inv
    exact .inr (.inr (.inr ⟨a, b, xs, ys, rfl, rfl, s.sub _ _ q1, s.sub _ _ q2, by rw [← r1.len, ← r2.len]; exact h.1, fun p hp =>
      c.new s hp (.lst upd_same ((r1.app r2).le (Le.put (s.nF hp)))) h.2⟩))
  · exact h.elim

/-! ### == and != of data, at any depth -/
mutual
def toPy : D → PyData
  | .v .non => .none
  | .v (.bl b) => .bool b
  | .v (.int i) => .int i
  | .v (.str x) => .str x
  | .v _ => .none
  | .tup ds => .tuple (toPys ds)
  | .lst ds => .list (toPys ds)
  | .rd ds => .list (toPys ds)
  | .dct _ => .none
  | .ins _ _ => .none
def toPys : List D → List PyData
  | [] => []
  | d :: ds => toPy d :: toPys ds
end
mutual
/-- data of None, flags, numbers, texts, tuples, lists -/
def plD : D → Bool
  | .v .non => true
  | .v (.bl _) => true
  | .v (.int _) => true
  | .v (.str x) => PyData.strOk x
  | .v _ => false
  | .tup ds => plDs ds
  | .lst ds => plDs ds
  | .rd ds => plDs ds
  | .dct _ => false
  | .ins _ _ => false
def plDs : List D → Bool
  | [] => true
  | d :: ds => plD d && plDs ds
end
mutual
theorem dp_of {K : PySem.W.Frag} {F : Hp} : ∀ {d : D} {x : V}, Rep K F d x → plD d = true → Dp K F x (toPy d)
  | .v .non, _, .v _, _ => .non
  | .v (.bl b), _, .v _, _ => .bl b
  | .v (.int b), _, .v _, _ => .int b
  | .v (.str b), _, .v _, _ => .str b
  | .tup ds, _, .tup a r, h => .tup (SqT.of a) (dps_of r h)
  | .lst ds, _, .lst a r, h => .lst (SqL.of a) (dps_of r h)
  | .rd ds, _, .rd a r, h => .lst a (dps_of r h)
theorem dps_of {K : PySem.W.Frag} {F : Hp} : ∀ {ds : List D} {xs : List V}, Reps K F ds xs → plDs ds = true → DpAll K F xs (toPys ds)
  | [], _, .nil, _ => .nil
  | d :: ds, _, .cons a r, h => .cons (dp_of a (Bool.and_eq_true_iff.mp h).1) (dps_of r (Bool.and_eq_true_iff.mp h).2)
end
mutual
theorem dp_le {K : PySem.W.Frag} {F G : Hp} (l : Le F G) : ∀ {x : V} {d : PyData}, Dp K F x d → Dp K G x d
  | _, _, .non => .non
  | _, _, .bl b => .bl b
  | _, _, .int b => .int b
  | _, _, .str b => .str b
  | _, _, .lst a r => .lst (sqL_le l a) (dps_le l r)
  | _, _, .tup a r => .tup (sqT_le l a) (dps_le l r)
theorem dps_le {K : PySem.W.Frag} {F G : Hp} (l : Le F G) : ∀ {xs : List V} {ds : List PyData}, DpAll K F xs ds → DpAll K G xs ds
  | _, _, .nil => .nil
  | _, _, .cons a r => .cons (dp_le l a) (dps_le l r)
end
def okD (d : D) : Prop := plD d = true ∧ SeqAt.shaped (toPy d) = true
def eqD (d e : D) : Bool := PyData.eqv (toPy d) (toPy e)
def zEq : ZR2 := fun d e M Q => okD d ∧ okD e ∧ Q (.v (.bl (eqD d e))) M
def zNe : ZR2 := fun d e M Q => okD d ∧ okD e ∧ Q (.v (.bl (!eqD d e))) M
section
variable {K : PySem.W.Frag}
theorem lr_eq : LR2 K (rEqD K) zEq := fun w x y d e Qz Q s rx ry c h => ⟨toPy d, toPy e, dp_le s.sub (dp_of rx h.1.1), dp_le s.sub (dp_of ry h.2.1.1), h.1.2, h.2.1.2, c.go s (.v _) h.2.2⟩
theorem lr_ne : LR2 K (rNeD K) zNe := fun w x y d e Qz Q s rx ry c h => ⟨toPy d, toPy e, dp_le s.sub (dp_of rx h.1.1), dp_le s.sub (dp_of ry h.2.1.1), h.1.2, h.2.1.2, c.go s (.v _) h.2.2⟩
end

/-! ### is None -/
def isNon : D → Bool
  | .v .non => true
  | _ => false
theorem isNon_rep {K : PySem.W.Frag} {F : Hp} {d : D} {x : V} (r : Rep K F d x) : decide (x = .non) = isNon d := by
  cases r with
  | v => cases x <;> rfl
  | _ => rfl
def zIsN : ZR2 := fun d e M Q => match e with | .v .non => Q (.v (.bl (isNon d))) M | _ => False
def zIsNotN : ZR2 := fun d e M Q => match e with | .v .non => Q (.v (.bl (!isNon d))) M | _ => False
section
variable {K : PySem.W.Frag}
theorem lr_isN : LR2 K (fun x y H Q => y = .non ∧ Q (.bl (decide (x = .non))) H) zIsN := fun w x y d e Qz Q s rx ry c h => by
  unfold zIsN at h
  split at h
  · exact ⟨ry.v_inv, by rw [isNon_rep rx]; exact c.go s (.v _) h⟩
  · exact h.elim
theorem lr_isNotN : LR2 K (fun x y H Q => y = .non ∧ Q (.bl (!decide (x = .non))) H) zIsNotN := fun w x y d e Qz Q s rx ry c h => by
  unfold zIsNotN at h
  split at h
  · exact ⟨ry.v_inv, by rw [isNon_rep rx]; exact c.go s (.v _) h⟩
  · exact h.elim
end

/-! ### in, not in, of flat things -/
def vOf : D → V
  | .v x => x
  | _ => .non
def isV : D → Bool
  | .v _ => true
  | _ => false
theorem vOf_rep {K : PySem.W.Frag} {F : Hp} {d : D} {x : V} (r : Rep K F d x) (h : isV d = true) : x = vOf d := by
  cases r with
  | v => rfl
  | _ => cases h
theorem vOf_reps {K : PySem.W.Frag} {F : Hp} : ∀ {ds : List D} {xs : List V}, Reps K F ds xs → ds.all isV = true → xs = ds.map vOf
  | _, _, .nil, _ => rfl
  | _, _, .cons a r, h => by
    rw [List.all_cons, Bool.and_eq_true_iff] at h
    rw [vOf_rep a h.1, vOf_reps r h.2]
    rfl
def flD (d : D) : Bool := isV d && flatV (vOf d)
def inD (d : D) (ds : List D) : Bool := inV (vOf d) (ds.map vOf)
def seqOf (M : MS) : D → Option (List D)
  | .tup ds => some ds
  | .lst ds => some ds
  | .rd ds => some ds
  | .v (.ref a) => match M a with | some (.lst ds) => some ds | _ => none
  | _ => none
theorem seqOf_rep {K : PySem.W.Frag} {w : W3} {d : D} {x : V} {ds : List D} (s : Ok K w) (r : Rep K w.F d x) (h : seqOf w.M d = some ds) : ∃ a xs, x = .ref a ∧ (SqL K w.H a xs ∨ SqT K w.H a xs) ∧ Reps K w.F ds xs := by
  unfold seqOf at h
  split at h
  · cases h
    obtain ⟨a, xs, rfl, q, r⟩ := r.tup_inv
    exact ⟨a, xs, rfl, .inr (sqT_le s.sub q), r⟩
  · cases h
    obtain ⟨a, xs, rfl, q, r⟩ := r.lst_inv
    exact ⟨a, xs, rfl, .inl (SqL.of (s.sub _ _ q)), r⟩
  · cases h
    obtain ⟨a, xs, rfl, q, r⟩ := r.rd_inv
    exact ⟨a, xs, rfl, .inl (sqL_le s.sub q), r⟩
  · split at h
    · rename_i a _ es e
      cases h
      obtain ⟨o, e1, e2⟩ := s.mu _ _ e
      cases e2 with
      | lst r' => exact ⟨a, _, r.v_inv, .inl (SqL.of e1), r'⟩
    · cases h
  · cases h
def zIn (neg : Bool) : ZR2 := fun d e M Q => ∃ ds, seqOf M e = some ds ∧ flD d = true ∧ ds.all flD = true ∧ Q (.v (.bl (if neg then !inD d ds else inD d ds))) M
theorem lr_in {K : PySem.W.Frag} {neg : Bool} : LR2 K (rIn K neg) (zIn neg) := fun w x y d e Qz Q s rx ry c h => by
  obtain ⟨ds, e1, h1, h2, q⟩ := h
  obtain ⟨a, xs, rfl, hs, r⟩ := seqOf_rep s ry e1
  have h1' := Bool.and_eq_true_iff.mp h1
  have ex := vOf_rep rx h1'.1
  have exs := vOf_reps r (List.all_eq_true.mpr fun z hz => (Bool.and_eq_true_iff.mp (List.all_eq_true.mp h2 z hz)).1)
  refine ⟨a, xs, rfl, hs, by rw [ex]; exact h1'.2, ?_, ?_⟩
  · rw [exs, List.all_map]
    exact List.all_eq_true.mpr fun z hz => (Bool.and_eq_true_iff.mp (List.all_eq_true.mp h2 z hz)).2
  · have q' := c.go s (.v _) q
    rw [ex, exs]
    cases neg <;> exact q'

/-! ### items -/
def zIx : ZR2 := fun d e M Q => match e with
  | .v (.int i) => (match d with
    | .v (.str z) => z.length ≤ sizeLine ∧ ∃ c, atI z.cps.toList i = some c ∧ Q (.v (.str ⟨#[c]⟩)) M
    | d => ∃ ds f, seqOf M d = some ds ∧ atI ds i = some f ∧ Q f M)
  | _ => False
theorem atI_reps {K : PySem.W.Frag} {F : Hp} {ds : List D} {xs : List V} {i : Int} {d : D} (r : Reps K F ds xs) (h : atI ds i = some d) : ∃ x, atI xs i = some x ∧ Rep K F d x := by
  unfold atI at h ⊢
  rw [← r.len]
  cases e : ixN ds.length i with
  | none => rw [e] at h; cases h
  | some j =>
    rw [e] at h
    exact r.get h
theorem lr_ix {K : PySem.W.Frag} : LR2 K (rIx K) zIx := fun w x y d e Qz Q s rx ry c h => by
  unfold zIx at h
  split at h
  · rename_i i
    have ey := ry.v_inv
    split at h
    · obtain ⟨hz, cc, hc, q⟩ := h
      exact .inr (.inr ⟨_, i, cc, rx.v_inv, ey, hz, hc, c.go s (.v _) q⟩)
    · obtain ⟨ds, f, e1, e2, q⟩ := h
      obtain ⟨a, xs, rfl, hs, r⟩ := seqOf_rep s rx e1
      obtain ⟨z, hz, rz⟩ := atI_reps r e2
      rcases hs with hs | hs
      · exact .inl ⟨a, xs, i, z, rfl, ey, hs, hz, c.go s rz q⟩
      · exact .inr (.inl ⟨a, xs, i, z, rfl, ey, hs, hz, c.go s rz q⟩)
  · exact h.elim
/-- o[i] = v, a list that may change -/
abbrev ZSet := D → D → D → MS → (MS → Prop) → Prop
def zSetL : ZSet := fun o i d M Q => match o, i with
  | .v (.ref a), .v (.int k) => ∃ ds j, M a = some (.lst ds) ∧ ixN ds.length k = some j ∧ Q (mput M a (.lst (ds.set j d)))
  | _, _ => False
def zgSub (zo zi : ZE) (t : ZSet) : ZG := fun d δ M Q => zo δ M fun o M1 => zi δ M1 fun i M2 => t o i d M2 fun M3 => Q δ M3
def LSet (K : PySem.W.Frag) (t : TSet) (z : ZSet) : Prop := ∀ w o i x do_ di d Nz N, Ok K w → Rep K w.F do_ o → Rep K w.F di i → Rep K w.F d x → CtN K w Nz N → z do_ di d w.M Nz → t o i x w.H N
theorem lg_sub {K : PySem.W.Frag} {w0 : W3} {to ti : TE} {zo zi : ZE} {t : TSet} {z : ZSet} (ho : LE K w0 to zo) (hi : LE K w0 ti zi) (hs : LSet K t z) : LG K w0 (gSub to ti t) (zgSub zo zi z) := fun w σ δ x d Nz N l s rs r c h =>
  ho w σ δ _ _ l s rs (fun u o ox lu su ro h1 => hi u σ δ _ _ (l.tr lu) su (rs.le lu.le) (fun v i ix lv sv ri h2 =>
    hs v ox ix x o i d _ _ sv (ro.le lv.le) ri (r.le (lu.tr lv).le) (fun u' lu' su' q => c u' δ σ ((lu.tr lv).tr lu') su' (rs.le ((lu.tr lv).tr lu').le) q) h2) h1) h
theorem lset_list {K : PySem.W.Frag} : LSet K rSetL zSetL := fun w o i x do_ di d Nz N s ro ri r c h => by
  unfold zSetL at h
  split at h
  · rename_i a k
    obtain ⟨ds, j, e1, e2, q⟩ := h
    obtain ⟨ob, e3, e4⟩ := s.mu _ _ e1
    cases e4 with
    | lst r' =>
      rename_i xs
      exact ⟨a, xs, k, j, ro.v_inv, ri.v_inv, e3, by rw [← r'.len]; exact e2, c ⟨w.F, mput w.M a (.lst (ds.set j d)), upd w.H a (.lst (xs.set j x))⟩ (nx_write e1) (Sim.write s e1 (.lst (r'.set r j))) q⟩
  · exact h.elim

/-! ### slices -/
abbrev ZO := ZSt → MS → (Option Int → MS → Prop) → Prop
def LO (K : PySem.W.Frag) (w0 : W3) (t : TO) (z : ZO) : Prop := ∀ w σ δ (Qz : Option Int → MS → Prop) (Q : Option Int → Hp → Prop), Nx w0 w → Ok K w → RepS K w.F δ σ → (∀ u o, Nx w u → Ok K u → Qz o u.M → Q o u.H) → z δ w.M Qz → t σ w.H Q
def zNoPart : ZO := fun _ M Q => Q none M
def zPart (z : ZE) : ZO := fun δ M Q => z δ M fun d M1 => match d with | .v (.int i) => Q (some i) M1 | _ => False
def cutD {α : Type} (xs : List α) (lo hi : Option Int) : List α := (xs.drop (HT.sIx xs.length 0 lo)).take (HT.sIx xs.length xs.length hi - HT.sIx xs.length 0 lo)
def zSl (r : D → Option Int → Option Int → MS → ZQ → Prop) (ze : ZE) (zl zh : ZO) : ZE := fun δ M Q => ze δ M fun d M1 => zl δ M1 fun l M2 => zh δ M2 fun u M3 => r d l u M3 Q
def rSlS (K : PySem.W.Frag) : V → Option Int → Option Int → Hp → VK → Prop := fun x lo hi H Q => rSlL K x lo hi H Q ∨ rSlA K x lo hi H Q
theorem sl_seqA {X : Cx} : SlR X (rSlS X.K) := sl_list.or sl_tupA
def zCut : D → Option Int → Option Int → MS → ZQ → Prop := fun d lo hi M Q => match d with
  | .tup ds => Q (.tup (cutD ds lo hi)) M
  | d => ∃ ds, seqOf M d = some ds ∧ Q (.lst (cutD ds lo hi)) M
section
variable {K : PySem.W.Frag} {w0 : W3} {te : TE} {ze : ZE} {tl th : TO} {zl zh : ZO}
theorem lo_none : LO K w0 tNoPart zNoPart := fun w σ δ Qz Q l s rs c h => c w none (Nx.rf w) s h
theorem lo_some (h1 : LE K w0 te ze) : LO K w0 (tPart te) (zPart ze) := fun w σ δ Qz Q l s rs c h =>
  h1 w σ δ _ _ l s rs (fun u d x lu su r h2 => by
    revert h2
    split
    · exact fun h2 => ⟨_, r.v_inv, c u _ lu su h2⟩
    · exact fun h2 => h2.elim) h
theorem cut_whole {α : Type} {xs : List α} {lo hi : Option Int} (h : HT.sIx xs.length 0 lo = 0 ∧ HT.sIx xs.length xs.length hi = xs.length) : cutD xs lo hi = xs := by
  unfold cutD
  rw [h.1, h.2, List.drop_zero, Nat.sub_zero, List.take_length]
theorem le_cut (h1 : LE K w0 te ze) (h2 : LO K w0 tl zl) (h3 : LO K w0 th zh) : LE K w0 (tSl (rSlS K) te tl th) (zSl zCut ze zl zh) := fun w σ δ Qz Q l s rs c h =>
  h1 w σ δ _ _ l s rs (fun u d x lu su r q1 => h2 u σ δ _ _ (l.tr lu) su (rs.le lu.le) (fun v lo lv sv q2 => h3 v σ δ _ _ (l.tr (lu.tr lv)) sv (rs.le (lu.tr lv).le) (fun u2 hi l3 s3 q3 => by
    have r3 := r.le (lv.tr l3).le
    have cc := c.le ((lu.tr lv).tr l3)
    unfold zCut at q3
    split at q3
    · rename_i ds
      obtain ⟨a, xs, rfl, q, r4⟩ := r3.tup_inv
      refine .inr ⟨a, xs, rfl, sqT_le s3.sub q, fun e => ?_, fun e p hp => ?_⟩
      · rw [← r4.len] at e
        rw [cut_whole e] at q3
        exact cc.go s3 r3 q3
      · refine cc.new s3 hp (.tup upd_same ?_) q3
        have rr := ((r4.drop (HT.sIx xs.length 0 lo)).take (HT.sIx xs.length xs.length hi - HT.sIx xs.length 0 lo)).le (Le.put (o := .tup (cutV xs lo hi)) (s3.nF hp))
        unfold cutD
        rw [r4.len]
        exact rr
    · obtain ⟨ds, e1, q3⟩ := q3
      rename_i nt
      have key : ∃ a xs, x = .ref a ∧ SqL K u2.H a xs ∧ Reps K u2.F ds xs := by
        obtain ⟨a, xs, rfl, hs, r4⟩ := seqOf_rep s3 r3 e1
        rcases hs with hs | hs
        · exact ⟨a, xs, rfl, hs, r4⟩
        · unfold seqOf at e1
          split at e1
          · exact absurd rfl (nt _)
          · cases e1
            obtain ⟨a, xs, e, q, r⟩ := r3.lst_inv
            exact ⟨a, xs, e, SqL.of (s3.sub _ _ q), r⟩
          · cases e1
            obtain ⟨a, xs, e, q, r⟩ := r3.rd_inv
            exact ⟨a, xs, e, sqL_le s3.sub q, r⟩
          · split at e1
            · rename_i b _ es e
              cases e1
              obtain ⟨o, e3, e4⟩ := s3.mu _ _ e
              cases e4 with
              | lst r' => exact ⟨b, _, r3.v_inv, SqL.of e3, r'⟩
            · cases e1
          · cases e1
      obtain ⟨a, xs, rfl, hs, r4⟩ := key
      refine .inl ⟨a, xs, rfl, hs, fun p hp => cc.new s3 hp (.lst upd_same ?_) q3⟩
      have rr := ((r4.drop (HT.sIx xs.length 0 lo)).take (HT.sIx xs.length xs.length hi - HT.sIx xs.length 0 lo)).le (Le.put (o := .lst (cutV xs lo hi)) (s3.nF hp))
      unfold cutD
      rw [r4.len]
      exact rr) q2) q1) h
end

/-! ### built-ins -/
/-- len -/
def lenD (M : MS) : D → Option Nat
  | .v (.str x) => if x.length ≤ sizeLine then some x.length else none
  | .dct ks => some ks.length
  | .v (.ref a) => match M a with | some (.lst ds) => some ds.length | some (.dct ks) => some ks.length | _ => none
  | d => (seqOf M d).map List.length
def rLenA (K : PySem.W.Frag) : List V → Hp → VK → Prop := fun xs H Q => (∃ x n, xs = [x] ∧ LenV K x H n ∧ Q (.int n) H) ∨ (∃ d kvs, xs = [.ref d] ∧ Rd H d (.dK kvs) ∧ Q (.int (kvs.length : Nat)) H)
def zLen : ZRA := fun ds M Q => match ds with | [d] => ∃ n, lenD M d = some n ∧ Q (.v (.int (n : Nat))) M | _ => False
theorem lra_len {K : PySem.W.Frag} : LRA K (rLenA K) zLen := fun w xs ds Qz Q s r c h => by
  unfold zLen at h
  split at h
  · rename_i d
    obtain ⟨n, e, q⟩ := h
    cases r with
    | cons a r =>
      cases r
      have q' := c.go s (.v _) q
      unfold lenD at e
      split at e
      · split at e
        · cases e
          exact .inl ⟨_, _, rfl, by rw [a.v_inv]; exact ⟨by assumption, rfl⟩, q'⟩
        · cases e
      · cases e
        obtain ⟨b, o, ys, rfl, e1, r2⟩ := a.dct_inv
        exact .inr ⟨b, ys, rfl, .inr ⟨o, s.sub _ _ e1⟩, by rw [← r2.len]; exact q'⟩
      · split at e
        · rename_i b _ es em
          cases e
          obtain ⟨o, e1, e2⟩ := s.mu _ _ em
          cases e2 with
          | lst r' => exact .inl ⟨_, _, rfl, by rw [a.v_inv]; exact .inl ⟨_, SqL.of e1, r'.len⟩, q'⟩
        · rename_i b _ es em
          cases e
          obtain ⟨o, e1, e2⟩ := s.mu _ _ em
          cases e2 with
          | dct r' => exact .inr ⟨b, _, by rw [a.v_inv], .inl e1, by rw [← r'.len]; exact q'⟩
        · cases e
      · cases e2 : seqOf w.M d with
        | none => rw [e2] at e; cases e
        | some ds =>
          rw [e2] at e
          cases e
          obtain ⟨b, ys, rfl, hs, r2⟩ := seqOf_rep s a e2
          refine .inl ⟨_, _, rfl, ?_, q'⟩
          rcases hs with hs | hs
          · exact .inl ⟨ys, hs, r2.len⟩
          · exact .inr ⟨ys, hs, r2.len⟩
  · exact h.elim
/-- abs, int -/
def zAbs : ZRA := fun ds M Q => match ds with | [.v (.int i)] => Q (.v (.int (if i < 0 then -i else i))) M | _ => False
def zInt : ZRA := fun ds M Q => match ds with | [.v (.int i)] => Q (.v (.int i)) M | [.v (.bl k)] => Q (.v (.int (if k then 1 else 0))) M | _ => False
def zMax2 : ZRA := fun ds M Q => match ds with | [.v (.int i), .v (.int j)] => Q (.v (.int (if j > i then j else i))) M | _ => False
def zMin2 : ZRA := fun ds M Q => match ds with | [.v (.int i), .v (.int j)] => Q (.v (.int (if j < i then j else i))) M | _ => False
/-- tuple(..), list(..) -/
def zTuple : ZRA := fun ds M Q => match ds with | [d] => ∃ es, seqOf M d = some es ∧ Q (.tup es) M | _ => False
def zList : ZRA := fun ds M Q => match ds with | [d] => ∃ es, seqOf M d = some es ∧ Q (.lst es) M | _ => False
def zListM : ZRA := fun ds M Q => match ds with | [d] => ∃ es, seqOf M d = some es ∧ ∀ p, M p = none → Q (.v (.ref p)) (mput M p (.lst es)) | _ => False
def blsOf : List D → Option (List Bool)
  | [] => some []
  | .v (.bl b) :: r => (blsOf r).map (b :: ·)
  | _ => none
def intsOf : List D → Option (List Int)
  | [] => some []
  | .v (.int b) :: r => (intsOf r).map (b :: ·)
  | _ => none
theorem blsOf_reps {K : PySem.W.Frag} {F : Hp} : ∀ {ds : List D} {xs : List V} {bs : List Bool}, Reps K F ds xs → blsOf ds = some bs → xs = bs.map V.bl := by
  intro ds
  induction ds with
  | nil =>
    intro xs bs r h
    cases h
    cases r
    rfl
  | cons d ds ih =>
    intro xs bs r h
    unfold blsOf at h
    split at h
    · rename_i e; cases e
    · rename_i b r' e
      cases e
      cases r with
      | cons a r =>
        cases h2 : blsOf ds with
        | none => rw [h2] at h; cases h
        | some cs =>
          rw [h2] at h
          cases h
          rw [a.v_inv, ih r h2]
          rfl
    · cases h
theorem intsOf_reps {K : PySem.W.Frag} {F : Hp} : ∀ {ds : List D} {xs : List V} {bs : List Int}, Reps K F ds xs → intsOf ds = some bs → xs = bs.map V.int := by
  intro ds
  induction ds with
  | nil =>
    intro xs bs r h
    cases h
    cases r
    rfl
  | cons d ds ih =>
    intro xs bs r h
    unfold intsOf at h
    split at h
    · rename_i e; cases e
    · rename_i b r' e
      cases e
      cases r with
      | cons a r =>
        cases h2 : intsOf ds with
        | none => rw [h2] at h; cases h
        | some cs =>
          rw [h2] at h
          cases h
          rw [a.v_inv, ih r h2]
          rfl
    · cases h
def lsOf (M : MS) : D → Option (List D)
  | .lst ds => some ds
  | .rd ds => some ds
  | .v (.ref a) => match M a with | some (.lst ds) => some ds | _ => none
  | _ => none
theorem lsOf_rep {K : PySem.W.Frag} {w : W3} {d : D} {x : V} {ds : List D} (s : Ok K w) (r : Rep K w.F d x) (h : lsOf w.M d = some ds) : ∃ a xs, x = .ref a ∧ SqL K w.H a xs ∧ Reps K w.F ds xs := by
  unfold lsOf at h
  split at h
  · cases h
    obtain ⟨a, xs, rfl, q, r⟩ := r.lst_inv
    exact ⟨a, xs, rfl, SqL.of (s.sub _ _ q), r⟩
  · cases h
    obtain ⟨a, xs, rfl, q, r⟩ := r.rd_inv
    exact ⟨a, xs, rfl, sqL_le s.sub q, r⟩
  · split at h
    · rename_i a _ es e
      cases h
      obtain ⟨o, e1, e2⟩ := s.mu _ _ e
      cases e2 with
      | lst r' => exact ⟨a, _, r.v_inv, SqL.of e1, r'⟩
    · cases h
  · cases h
def zAll : ZRA := fun ds M Q => match ds with | [d] => ∃ es bs, lsOf M d = some es ∧ blsOf es = some bs ∧ Q (.v (.bl (bs.all id))) M | _ => False
def zAny : ZRA := fun ds M Q => match ds with | [d] => ∃ es bs, lsOf M d = some es ∧ blsOf es = some bs ∧ Q (.v (.bl (bs.any id))) M | _ => False
def zSum : ZRA := fun ds M Q => match ds with | [d] => ∃ es bs, lsOf M d = some es ∧ intsOf es = some bs ∧ Q (.v (.int bs.sum)) M | _ => False
section
variable {K : PySem.W.Frag}
theorem lra_abs : LRA K (fun xs H Q => ∃ i, xs = [.int i] ∧ Q (.int (if i < 0 then -i else i)) H) zAbs := fun w xs ds Qz Q s r c h => by
  unfold zAbs at h
  split at h
  · cases r with
    | cons a r => cases r; exact ⟨_, by rw [a.v_inv], c.go s (.v _) h⟩
  · exact h.elim
theorem lra_int : LRA K (fun xs H Q => (∃ i, xs = [.int i] ∧ Q (.int i) H) ∨ ∃ k, xs = [.bl k] ∧ Q (.int (if k then 1 else 0)) H) zInt := fun w xs ds Qz Q s r c h => by
  unfold zInt at h
  split at h
  · cases r with
    | cons a r => cases r; exact .inl ⟨_, by rw [a.v_inv], c.go s (.v _) h⟩
  · cases r with
    | cons a r => cases r; exact .inr ⟨_, by rw [a.v_inv], c.go s (.v _) h⟩
  · exact h.elim
theorem lra_max2 : LRA K (fun xs H Q => ∃ i j, xs = [.int i, .int j] ∧ Q (.int (if j > i then j else i)) H) zMax2 := fun w xs ds Qz Q s r c h => by
  unfold zMax2 at h
  split at h
  · cases r with
    | cons a r => cases r with
      | cons b r => cases r; exact ⟨_, _, by rw [a.v_inv, b.v_inv], c.go s (.v _) h⟩
  · exact h.elim
theorem lra_min2 : LRA K (fun xs H Q => ∃ i j, xs = [.int i, .int j] ∧ Q (.int (if j < i then j else i)) H) zMin2 := fun w xs ds Qz Q s r c h => by
  unfold zMin2 at h
  split at h
  · cases r with
    | cons a r => cases r with
      | cons b r => cases r; exact ⟨_, _, by rw [a.v_inv, b.v_inv], c.go s (.v _) h⟩
  · exact h.elim
theorem lra_tuple : LRA K (fun xs H Q => ∃ p ys, xs = [.ref p] ∧ ((SqL K H p ys ∧ ∀ l, H l = none → Q (.ref l) (upd H l (.tup ys))) ∨ (SqT K H p ys ∧ Q (.ref p) H))) zTuple := fun w xs ds Qz Q s r c h => by
  unfold zTuple at h
  split at h
  · rename_i d
    obtain ⟨es, e1, q⟩ := h
    cases r with
    | cons a r =>
      cases r
      by_cases hl : ∃ es', lsOf w.M d = some es'
      · obtain ⟨es', e2⟩ := hl
        obtain ⟨b, ys, rfl, hs, r2⟩ := lsOf_rep s a e2
        have ee : es' = es := by
          unfold lsOf at e2
          unfold seqOf at e1
          cases d with
          | lst z => cases e1; cases e2; rfl
          | rd z => cases e1; cases e2; rfl
          | v y =>
            cases y with
            | ref z => exact Option.some.inj (e2.symm.trans e1)
            | _ => cases e1
          | _ => cases e2
        subst ee
        exact ⟨b, ys, rfl, .inl ⟨hs, fun l hl => c.new s hl (.tup upd_same (r2.le (Le.put (s.nF hl)))) q⟩⟩
      · unfold seqOf at e1
        unfold lsOf at hl
        cases d with
        | tup z =>
          cases e1
          obtain ⟨b, ys, rfl, hs, r2⟩ := a.tup_inv
          exact ⟨b, ys, rfl, .inr ⟨sqT_le s.sub hs, c.go s a q⟩⟩
        | lst z => exact absurd ⟨z, rfl⟩ hl
        | rd z => exact absurd ⟨z, rfl⟩ hl
        | v y =>
          cases y with
          | ref z => exact absurd ⟨_, e1⟩ hl
          | _ => cases e1
        | _ => cases e1
  · exact h.elim
theorem lra_list : LRA K (fun xs H Q => ∃ p ys, xs = [.ref p] ∧ (SqL K H p ys ∨ SqT K H p ys) ∧ ∀ l, H l = none → Q (.ref l) (upd H l (.lst ys))) zList := fun w xs ds Qz Q s r c h => by
  unfold zList at h
  split at h
  · obtain ⟨es, e1, q⟩ := h
    cases r with
    | cons a r =>
      cases r
      obtain ⟨b, ys, rfl, hs, r2⟩ := seqOf_rep s a e1
      exact ⟨b, ys, rfl, hs, fun l hl => c.new s hl (.lst upd_same (r2.le (Le.put (s.nF hl)))) q⟩
  · exact h.elim
theorem lra_listM : LRA K (fun xs H Q => ∃ p ys, xs = [.ref p] ∧ (SqL K H p ys ∨ SqT K H p ys) ∧ ∀ l, H l = none → Q (.ref l) (upd H l (.lst ys))) zListM := fun w xs ds Qz Q s r c h => by
  unfold zListM at h
  split at h
  · obtain ⟨es, e1, q⟩ := h
    cases r with
    | cons a r =>
      cases r
      obtain ⟨b, ys, rfl, hs, r2⟩ := seqOf_rep s a e1
      exact ⟨b, ys, rfl, hs, fun l hl => c.alloc s hl (.lst r2) (q l (s.nM hl))⟩
  · exact h.elim
theorem lra_all : LRA K (rAll K) zAll := fun w xs ds Qz Q s r c h => by
  unfold zAll at h
  split at h
  · obtain ⟨es, bs, e1, e2, q⟩ := h
    cases r with
    | cons a r =>
      cases r
      obtain ⟨b, ys, rfl, hs, r2⟩ := lsOf_rep s a e1
      exact ⟨b, bs, rfl, by rw [← blsOf_reps r2 e2]; exact hs, c.go s (.v _) q⟩
  · exact h.elim
theorem lra_any : LRA K (rAny K) zAny := fun w xs ds Qz Q s r c h => by
  unfold zAny at h
  split at h
  · obtain ⟨es, bs, e1, e2, q⟩ := h
    cases r with
    | cons a r =>
      cases r
      obtain ⟨b, ys, rfl, hs, r2⟩ := lsOf_rep s a e1
      exact ⟨b, bs, rfl, by rw [← blsOf_reps r2 e2]; exact hs, c.go s (.v _) q⟩
  · exact h.elim
theorem lra_sum : LRA K (rSum K) zSum := fun w xs ds Qz Q s r c h => by
  unfold zSum at h
  split at h
  · obtain ⟨es, bs, e1, e2, q⟩ := h
    cases r with
    | cons a r =>
      cases r
      obtain ⟨b, ys, rfl, hs, r2⟩ := lsOf_rep s a e1
      exact ⟨b, bs, rfl, by rw [← intsOf_reps r2 e2]; exact hs, c.go s (.v _) q⟩
  · exact h.elim
end
end Zl
namespace Zl
open PySem PySem.Spec PyProof.Rows L2

/-! ### a def of the text, what it promises -/
structure FunAt (K : PySem.W.Frag) (mg : Str → Option Value) (x qual : Str) (st : Stmt) (ps : List Str) : Prop where
  ex : ∃ (f : Addr) (fd : FuncData), FunD K x qual (defArgs st) (defBody st) (defScope st) [] [] f fd ∧ mg x = some (.ref f) ∧ L2.Binds K fd ps []
structure MethIn (K : PySem.W.Frag) (C : Addr) (m qual : Str) (st : Stmt) (ps : List Str) : Prop where
  ex : ∃ (f : Addr) (fd : FuncData), FunD K m qual (defArgs st) (defBody st) (defScope st) [] [] f fd ∧ Meth K C m f ∧ L2.Binds K fd ps []
structure DefAt (P : Program) (w : World) (K : PySem.W.Frag) (mg : Str → Option Value) (base : Heap) (k : Nat) (x : Str) (ps : List Str) (zp : ZSp) : Prop where
  ex : ∃ (f : Addr) (fd : FuncData), FnOk P w K mg base (L2N.CX P w) k f fd ps (spOf K zp) ∧ mg x = some (.ref f) ∧ PySem.W.keepIn K (.ref f) = true ∧ L2.Binds K fd ps []
structure MethAt (P : Program) (w : World) (K : PySem.W.Frag) (mg : Str → Option Value) (base : Heap) (k : Nat) (C : Addr) (m : Str) (ps : List Str) (zp : ZSp) : Prop where
  ex : ∃ (f : Addr) (fd : FuncData), FnOk P w K mg base (L2N.CX P w) k f fd ps (spOf K zp) ∧ Meth K C m f ∧ L2.Binds K fd ps []
  cl : Cls K C
structure MakeAt (P : Program) (w : World) (K : PySem.W.Frag) (mg : Str → Option Value) (base : Heap) (k : Nat) (x : Str) (C : Addr) (ps : List Str) (zp : ZSp) : Prop where
  ex : ∃ (f : Addr) (fd : FuncData), FnOk P w K mg base (L2N.CX P w) k f fd ps (spOf K zp) ∧ Mk K C f ∧ mg x = some (.ref C) ∧ L2.Binds K fd ps []
section
variable {P : Program} {w : World} {K : PySem.W.Frag} {mg : Str → Option Value} {base : Heap}
theorem DefAt.mono {j k : Nat} {x : Str} {ps : List Str} {zp : ZSp} (d : DefAt P w K mg base j x ps zp) (h : j ≤ k) : DefAt P w K mg base k x ps zp :=
  let ⟨f, fd, F, a, b, c⟩ := d.ex; ⟨f, fd, F.mono h, a, b, c⟩
theorem MethAt.mono {j k : Nat} {C : Addr} {x : Str} {ps : List Str} {zp : ZSp} (d : MethAt P w K mg base j C x ps zp) (h : j ≤ k) : MethAt P w K mg base k C x ps zp :=
  ⟨let ⟨f, fd, F, a, b⟩ := d.ex; ⟨f, fd, F.mono h, a, b⟩, d.cl⟩
theorem MakeAt.mono {j k : Nat} {C : Addr} {x : Str} {ps : List Str} {zp : ZSp} (d : MakeAt P w K mg base j x C ps zp) (h : j ≤ k) : MakeAt P w K mg base k x C ps zp :=
  let ⟨f, fd, F, a, b, c⟩ := d.ex; ⟨f, fd, F.mono h, a, b, c⟩
abbrev zstart (n : Nat) (ds : List D) : ZSt := ds.map some ++ List.replicate (n - ds.length) none
/-- the wish of a def's own body -/
abbrev WB (E : XK) : WX := fun c d _ H => E c d H
abbrev WBz (Ez : ZX) : ZW := fun C fs _ M => Ez C fs M
theorem ctW_of {w0 : W3} {E : XK} {Ez : ZX} (h : CtX K w0 Ez E) : CtW K w0 (WBz Ez) (WB E) := fun u C d fs _ _ l s _ x q => h u C d fs l s x q
theorem zok_core {x qual : Str} {st : Stmt} {N ps : List Str} {k : Nat} {zp : ZSp} {f : Addr} {fd : FuncData} (F : FunD K x qual (defArgs st) (defBody st) (defScope st) [] [] f fd) (S : FnScope N ps (defScope st)) (hl : ∀ ds M Q E, zp ds M Q E → ds.length = ps.length)
    (hb : ∀ (cdv : Value) (A : Around) (outer : List Env) (s : Shared) (H : Hp) (E : XK) (w0 : W3) (Ez : ZX), Room k (A.deeper (envOfC qual (defScope st) s.heap.objs.size f cdv)) → CtW K w0 (WBz Ez) (WB E) →
      ∃ (t : TS) (z : ZS), PSs (cxOf (L2N.CX P w) P w K mg base N qual (defScope st) f cdv A outer s H E) (defBody st) t ∧ LS K w0 t z ∧
        ∀ ds Qz, zp ds w0.M Qz Ez → z { nx := fun _ M' => Qz (.v .non) M', rt := Qz } (zstart N.length ds) w0.M) : FnOk P w K mg base (L2N.CX P w) (k + 1) f fd ps (spOf K zp) := by
  refine FunD.ok F S (fun vs H Q E h => ?_) (fun cdv A outer s H vs Q E hr h => ?_)
  · obtain ⟨w, ds, Qz, Ez, rfl, ok, r, _, _, h⟩ := h
    rw [← r.len]
    exact hl _ _ _ _ h
  · obtain ⟨w0, ds, Qz, Ez, rfl, ok, r, cq, cx, h⟩ := h
    obtain ⟨t, z, hp, hz, hh⟩ := hb cdv A outer s w0.H E w0 Ez hr (ctW_of cx)
    refine ⟨t, hp, hz w0 _ _ { nx := fun _ M' => Qz (.v .non) M', rt := Qz } _ (Nx.rf w0) ok (RepS.start r N.length) ⟨fun u δ σ lu su ru q => cq u _ _ lu su (.v _) q, cq, fun _ _ _ _ _ _ q => q, fun _ _ _ _ _ _ q => q⟩ (hh ds Qz h)⟩
theorem zok {x qual : Str} {st : Stmt} {N ps : List Str} {k : Nat} {zp : ZSp} (T : FunAt K mg x qual st ps) (S : FnScope N ps (defScope st)) (hl : ∀ ds M Q E, zp ds M Q E → ds.length = ps.length)
    (hb : ∀ (f : Addr) (cdv : Value) (A : Around) (outer : List Env) (s : Shared) (H : Hp) (E : XK) (w0 : W3) (Ez : ZX), Room k (A.deeper (envOfC qual (defScope st) s.heap.objs.size f cdv)) → CtW K w0 (WBz Ez) (WB E) →
      ∃ (t : TS) (z : ZS), PSs (cxOf (L2N.CX P w) P w K mg base N qual (defScope st) f cdv A outer s H E) (defBody st) t ∧ LS K w0 t z ∧
        ∀ ds Qz, zp ds w0.M Qz Ez → z { nx := fun _ M' => Qz (.v .non) M', rt := Qz } (zstart N.length ds) w0.M) : DefAt P w K mg base (k + 1) x ps zp := by
  obtain ⟨f, fd, F, e, b⟩ := T.ex
  exact ⟨f, fd, zok_core F S hl (hb f), e, F.kp, b⟩
theorem zokM {C : Addr} {x qual : Str} {st : Stmt} {N ps : List Str} {k : Nat} {zp : ZSp} (T : MethIn K C x qual st ps) (c : Cls K C) (S : FnScope N ps (defScope st)) (hl : ∀ ds M Q E, zp ds M Q E → ds.length = ps.length)
    (hb : ∀ (f : Addr) (cdv : Value) (A : Around) (outer : List Env) (s : Shared) (H : Hp) (E : XK) (w0 : W3) (Ez : ZX), Room k (A.deeper (envOfC qual (defScope st) s.heap.objs.size f cdv)) → CtW K w0 (WBz Ez) (WB E) →
      ∃ (t : TS) (z : ZS), PSs (cxOf (L2N.CX P w) P w K mg base N qual (defScope st) f cdv A outer s H E) (defBody st) t ∧ LS K w0 t z ∧
        ∀ ds Qz, zp ds w0.M Qz Ez → z { nx := fun _ M' => Qz (.v .non) M', rt := Qz } (zstart N.length ds) w0.M) : MethAt P w K mg base (k + 1) C x ps zp := by
  obtain ⟨f, fd, F, e, b⟩ := T.ex
  exact ⟨⟨f, fd, zok_core F S hl (hb f), e, b⟩, c⟩
theorem DefAt.imp {k : Nat} {x : Str} {ps : List Str} {zp zq : ZSp} (d : DefAt P w K mg base k x ps zp) (h : ∀ ds M Q E, zq ds M Q E → zp ds M Q E) : DefAt P w K mg base k x ps zq :=
  let ⟨f, fd, F, a, b, c⟩ := d.ex
  ⟨f, fd, F.imp fun vs H Q E ⟨w, ds, Qz, Ez, e, ok, r, cq, cx, hh⟩ => ⟨w, ds, Qz, Ez, e, ok, r, cq, cx, h _ _ _ _ hh⟩, a, b, c⟩
end
section
variable {X : Cx} {k : Nat} {C : Addr} {ps : List Str} {zp : ZSp} {W : WX} {x m : Str} {p pos apos : Pos} {e o : Expr} {es : List Expr} {ta : TE} {t : TA}
theorem zc_call (d : DefAt X.prog X.w X.K X.mg X.base k x ps zp) (hr : Room k X.A) (hg : Gl X x) (tk : L2N.Takes X W)
    (ha : PA X (e :: es) t) (hdb : (x == ("__debug__" : Str)) = false := by decide) (he : starEach (e :: es) X.env = (false, eval e X.env) :: starEach es X.env := by rfl) (hpl : (backTo pos (starEach es X.env)).any (·.1) = false := by rfl) :
    PE X (.Call (.Name x p) (e :: es) [] pos) (tCallW (spOf X.K zp) W t) :=
  let ⟨_, _, F, a, b, c⟩ := d.ex; pc_call F hr hg a b c tk ha hdb he hpl
theorem zc_call0 (d : DefAt X.prog X.w X.K X.mg X.base k x ps zp) (hr : Room k X.A) (hg : Gl X x) (tk : L2N.Takes X W) (hdb : (x == ("__debug__" : Str)) = false := by decide) :
    PE X (.Call (.Name x p) [] [] pos) (tCallW (spOf X.K zp) W tNil) :=
  let ⟨_, _, F, a, b, c⟩ := d.ex; pc_call0 F hr hg a b c tk hdb
theorem zc_meth {pl : Sem Bool} (d : MethAt X.prog X.w X.K X.mg X.base k C m ps zp) (hr : Room k X.A) (tk : L2N.Takes X W) (he : PE X o ta) (ha : PA X (e :: es) t)
    (hst : starEach (e :: es) X.env = (false, eval e X.env) :: starEach es X.env := by rfl) (hpl : (backTo pos (starEach es X.env)).any (·.1) = false := by rfl)
    (ht : eval (.Call (.Attribute o m apos) (e :: es) [] pos) X.env = (do
      let ov ← eval o X.env
      standAt apos.atName
      let (g, first) ← holding [ov] (getMethod ov m pl)
      callWith pos g first (backTo pos (starEach (e :: es) X.env)) (backToKw pos (keywordEach [] X.env))) := by rfl) :
    PE X (.Call (.Attribute o m apos) (e :: es) [] pos) (tMethW C m (spOf X.K zp) W ta t) :=
  let ⟨_, _, F, a, b⟩ := d.ex; pc_meth he d.cl a F hr b tk ha hst hpl ht
theorem zc_meth0 {pl : Sem Bool} (d : MethAt X.prog X.w X.K X.mg X.base k C m ps zp) (hr : Room k X.A) (tk : L2N.Takes X W) (he : PE X o ta)
    (ht : eval (.Call (.Attribute o m apos) [] [] pos) X.env = (do
      let ov ← eval o X.env
      standAt apos.atName
      let (g, first) ← holding [ov] (getMethod ov m pl)
      callWith pos g first (backTo pos (starEach [] X.env)) (backToKw pos (keywordEach [] X.env))) := by rfl) :
    PE X (.Call (.Attribute o m apos) [] [] pos) (tMethW C m (spOf X.K zp) W ta tNil) :=
  let ⟨_, _, F, a, b⟩ := d.ex; pc_meth0 he d.cl a F hr b tk ht
theorem zc_make (d : MakeAt X.prog X.w X.K X.mg X.base k x C ps zp) (hr : Room (k + 1) X.A) (hg : Gl X x) (tk : L2N.Takes X W)
    (ha : PA X (e :: es) t) (hdb : (x == ("__debug__" : Str)) = false := by decide) (he : starEach (e :: es) X.env = (false, eval e X.env) :: starEach es X.env := by rfl) (hpl : (backTo pos (starEach es X.env)).any (·.1) = false := by rfl) :
    PE X (.Call (.Name x p) (e :: es) [] pos) (tMakeW C (spOf X.K zp) W t) :=
  let ⟨_, _, F, M, a, c⟩ := d.ex; pc_make M F hr hg a c tk ha hdb he hpl
end

/-! ### attributes -/
structure FldOk (K : PySem.W.Frag) (C : Addr) (f : Str) : Prop where
  c : Cls K C
  n : NoAttr K C f
def zFld (K : PySem.W.Frag) (z : ZE) (f : Str) : ZE := fun δ M Q => z δ M fun d M1 => match d with
  | .ins C fs => FldOk K C f ∧ ∃ e, fs.lookup f = some e ∧ Q e M1
  | .v (.ref a) => ∃ C dx fs e, M1 a = some (.ins C dx fs) ∧ FldOk K C f ∧ fs.lookup f = some e ∧ Q e M1
  | _ => False
def zsFld (K : PySem.W.Frag) (zo zv : ZE) (f : Str) : ZS := fun D δ M => zv δ M fun e M1 => zo δ M1 fun o M2 => match o with
  | .v (.ref a) => ∃ C dx fs, M2 a = some (.ins C dx fs) ∧ FldOk K C f ∧ fs.length < 1000 ∧ D.nx δ (mput M2 a (.ins C dx (putD f e fs)))
  | _ => False
section
variable {K : PySem.W.Frag} {w0 : W3} {te tv : TE} {ze zv : ZE} {f : Str}
theorem le_fld (h1 : LE K w0 te ze) : LE K w0 (tFld K te f) (zFld K ze f) := fun w σ δ Qz Q l s rs c h =>
  h1 w σ δ _ _ l s rs (fun u d x lu su r h2 => by
    revert h2
    split
    · rintro ⟨k, e, e1, q⟩
      obtain ⟨a, dx, ys, rfl, e2, r2⟩ := r.ins_inv
      obtain ⟨y, e3, r3⟩ := r2.look.2 e e1
      exact ⟨a, _, dx, ys, y, rfl, su.sub _ _ e2, k.c, k.n, e3, (c.le lu).go su r3 q⟩
    · rintro ⟨C, dx, fs, e, e0, k, e1, q⟩
      obtain ⟨o, e2, e3⟩ := su.mu _ _ e0
      cases e3 with
      | ins r2 =>
        obtain ⟨y, e3, r3⟩ := r2.look.2 e e1
        exact ⟨_, C, dx, _, y, r.v_inv, e2, k.c, k.n, e3, (c.le lu).go su r3 q⟩
    · exact fun h => h.elim) h
theorem ls_fld (h1 : LE K w0 te ze) (h2 : LE K w0 tv zv) : LS K w0 (sFld K te tv f) (zsFld K ze zv f) := fun w σ δ Dz D l s rs c h =>
  h2 w σ δ _ _ l s rs (fun u e y lu su ry h3 => h1 u σ δ _ _ (l.tr lu) su (rs.le lu.le) (fun v o x lv sv rx h4 => by
    revert h4
    split
    · rename_i a
      rintro ⟨C, dx, fs, e0, k, hl, q⟩
      obtain ⟨ob, e2, e3⟩ := sv.mu _ _ e0
      cases e3 with
      | ins r2 =>
        rename_i ys
        refine ⟨a, C, dx, ys, rx.v_inv, e2, k.c, k.n, by rw [← r2.len]; exact hl, ?_⟩
        exact c.nx ⟨v.F, mput v.M a (.ins C dx (putD f e fs)), upd v.H a (.ins C dx (putF f y ys))⟩ _ _ ((lu.tr lv).tr (nx_write e0)) (Sim.write sv e0 (.ins (r2.put (ry.le lv.le)))) (rs.le (lu.tr lv).le) q
    · exact fun h => h.elim) h3) h
end

/-! ### isinstance -/
def tnm (M : MS) : D → Option String
  | .v .non => some "NoneType"
  | .v (.bl _) => some "bool"
  | .v (.int _) => some "int"
  | .v (.str _) => some "str"
  | .tup _ => some "tuple"
  | .lst _ => some "list"
  | .rd _ => some "list"
  | .dct _ => some "dict"
  | .v (.ref a) => match M a with | some (.lst _) => some "list" | some (.dct _) => some "dict" | _ => none
  | _ => none
/-- what of the class at C must be known for isinstance of its instances -/
structure InsC (K : PySem.W.Frag) (C : Addr) : Prop where
  c : Cls K C
  a : PySem.W.findIn K (.ref C) "__class__" = some (some (.builtin "object.__class__"))
  n : PySem.W.specialIn K (.builtin "object.__class__") "__get__" = some (some (.builtin "getset_descriptor.__get__"))
  t : PySem.W.takesIn K (.builtin "object.__class__") = some true
  m : PySem.W.mroIn K C (.type "object") = some true
def tyD (K : PySem.W.Frag) (M : MS) (d : D) (t : Value) : Prop := (∃ n, tnm M d = some n ∧ t = .type n) ∨
  ∃ C, t = .ref C ∧ InsC K C ∧ ((∃ fs, d = .ins C fs) ∨ ∃ a dx fs, d = .v (.ref a) ∧ M a = some (.ins C dx fs))
theorem tyD_rep {K : PySem.W.Frag} {w : W3} {d : D} {x : V} {t : Value} (s : Ok K w) (r : Rep K w.F d x) (h : tyD K w.M d t) : TyX K w.H x t := by
  rcases h with ⟨n, e, rfl⟩ | ⟨C, rfl, ic, ⟨fs, rfl⟩ | ⟨a, dx, fs, rfl, e⟩⟩
  · unfold tnm at e
    split at e
    · cases e; rw [r.v_inv]; exact .base .non
    · cases e; rw [r.v_inv]; exact .base (.bl _)
    · cases e; rw [r.v_inv]; exact .base (.int _)
    · cases e; rw [r.v_inv]; exact .base (.str _)
    · cases e
      obtain ⟨a, xs, rfl, q, _⟩ := r.tup_inv
      rcases sqT_le s.sub q with (q | ⟨o, q⟩) | ⟨o, its, n, q1, q2, _⟩
      · exact .base (.tup q)
      · exact .fTuple q
      · exact .kTuple q1 q2
    · cases e
      obtain ⟨a, xs, rfl, q, _⟩ := r.lst_inv
      exact .base (.lst (s.sub _ _ q))
    · cases e
      obtain ⟨a, xs, rfl, q, _⟩ := r.rd_inv
      rcases sqL_le s.sub q with (q | ⟨o, q⟩) | ⟨o, its, n, q1, q2, _⟩
      · exact .base (.lst q)
      · exact .base (.frz q)
      · exact .kList q1 q2
    · cases e
      obtain ⟨a, o, xs, rfl, q, _⟩ := r.dct_inv
      exact .fDict (s.sub _ _ q)
    · split at e
      · rename_i a _ ds em
        cases e
        obtain ⟨o, e1, e2⟩ := s.mu _ _ em
        cases e2 with
        | lst r' => rw [r.v_inv]; exact .base (.lst e1)
      · rename_i a _ ds em
        cases e
        obtain ⟨o, e1, e2⟩ := s.mu _ _ em
        cases e2 with
        | dct r' => rw [r.v_inv]; exact .base (.dK e1)
      · cases e
    · cases e
  · obtain ⟨a, dx, ys, rfl, e2, _⟩ := r.ins_inv
    exact .base (.ins (s.sub _ _ e2) ic.c ic.a ic.n ic.t ic.m)
  · obtain ⟨o, e1, e2⟩ := s.mu _ _ e
    cases e2 with
    | ins r' => rw [r.v_inv]; exact .base (.ins e1 ic.c ic.a ic.n ic.t ic.m)
def clD : D → Option Value
  | .v (.ty n) => some (.type n)
  | .v (.ref C) => some (.ref C)
  | _ => none
def clDs : List D → Option (List Value)
  | [] => some []
  | d :: ds => (clD d).bind fun v => (clDs ds).map (v :: ·)
theorem clD_rep {K : PySem.W.Frag} {F : Hp} {d : D} {x : V} {u : Value} (r : Rep K F d x) (h : clD d = some u) : ClsV x u := by
  unfold clD at h
  split at h
  · cases h; rw [r.v_inv]; exact .ty _
  · cases h; rw [r.v_inv]; exact .own _
  · cases h
theorem clDs_rep {K : PySem.W.Frag} {F : Hp} : ∀ {ds : List D} {xs : List V} {us : List Value}, Reps K F ds xs → clDs ds = some us → Paired ClsV xs us
  | [], _, us, .nil, h => by
    cases h
    exact .nil
  | d :: ds, _, us, .cons a r, h => by
    unfold clDs at h
    cases e1 : clD d with
    | none => rw [e1] at h; cases h
    | some v =>
      cases e2 : clDs ds with
      | none => rw [e1, e2] at h; cases h
      | some vs =>
        rw [e1, e2] at h
        cases h
        exact .cons (clD_rep a e1) (clDs_rep r e2)
/-- isinstance(x, (A, B)), the tuple wherever it stands -/
def rIsiS (K : PySem.W.Frag) : List V → Hp → VK → Prop := fun xs H Q => ∃ (x : V) (tp : Addr) (cs : List V) (t : Value) (us : List Value) (b : Bool), xs = [x, .ref tp] ∧ SqT K H tp cs ∧ Paired ClsV cs us ∧ TyX K H x t ∧ PySem.W.kitAny K t us = some b ∧ Q (.bl b) H
theorem call_isiS {X : Cx} : CallR X (.builtin "isinstance") (rIsiS X.K) := by
  intro pins s σ H xs us Q I r hh
  obtain ⟨x, tp, cs, t, ws, b, rfl, hT, kk, ty, e, q⟩ := hh
  obtain ⟨u1, u2, rfl, r1, r2⟩ := vals2 r
  cases (show u2 = Value.ref tp from r2)
  obtain ⟨PP, Z, pz, hx⟩ := kit_of I r1 ty
  obtain ⟨its, rv, ⟨o, h1, h2, n, h3⟩, _⟩ := I.tuple hT
  have e3 := ClsV.all kk rv
  subst e3
  obtain ⟨oc, od, dt, sl⟩ := o
  simp only at h2 h3
  subst h2 h3
  exact PySem.W.kia_tup Z I.kIn pz h1 e hx fun tk => ⟨.bl b, H, I.tok tk, rfl, q⟩
def rIsiA (K : PySem.W.Frag) : List V → Hp → VK → Prop := fun xs H Q => rIsi K xs H Q ∨ rIsiS K xs H Q
theorem call_isiA {X : Cx} : CallR X (.builtin "isinstance") (rIsiA X.K) := call_isi.or call_isiS
def zIsi (K : PySem.W.Frag) : ZRA := fun ds M Q => match ds with
  | [d, .tup cs] => ∃ t us b, tyD K M d t ∧ clDs cs = some us ∧ PySem.W.kitAny K t us = some b ∧ Q (.v (.bl b)) M
  | [d, c] => ∃ t u b, tyD K M d t ∧ clD c = some u ∧ PySem.W.kitOne K t u = some b ∧ Q (.v (.bl b)) M
  | _ => False
theorem lra_isi {K : PySem.W.Frag} : LRA K (rIsiA K) (zIsi K) := fun w xs ds Qz Q s r c h => by
  unfold zIsi at h
  split at h
  · obtain ⟨t, us, b, h1, h2, h3, q⟩ := h
    cases r with
    | cons a r => cases r with
      | cons a2 r =>
        cases r
        obtain ⟨tp, ys, rfl, hs, r3⟩ := a2.tup_inv
        exact .inr ⟨_, tp, ys, t, us, b, rfl, sqT_le s.sub hs, clDs_rep r3 h2, tyD_rep s a h1, h3, c.go s (.v _) q⟩
  · obtain ⟨t, u, b, h1, h2, h3, q⟩ := h
    cases r with
    | cons a r => cases r with
      | cons a2 r =>
        cases r
        exact .inl ⟨_, _, t, u, b, rfl, clD_rep a2 h2, tyD_rep s a h1, h3, c.go s (.v _) q⟩
  · exact h.elim

/-! ### methods of lists that may change -/
def zBM (r : D → ZRA) (zo : ZE) (za : ZA) : ZE := fun δ M Q => zo δ M fun d M1 => (∃ a ds, d = .v (.ref a) ∧ M1 a = some (.lst ds)) ∧ za δ M1 fun es M2 => r d es M2 Q
def zBM0 (r : D → ZRA) (zo : ZE) : ZE := fun δ M Q => zo δ M fun d M1 => (∃ a ds, d = .v (.ref a) ∧ M1 a = some (.lst ds)) ∧ r d [] M1 Q
def zAppend : D → ZRA := fun d es M Q => match d, es with
  | .v (.ref a), [e] => ∃ ds, M a = some (.lst ds) ∧ ds.length < sizeLine ∧ Q (.v .non) (mput M a (.lst (ds ++ [e])))
  | _, _ => False
def zExtend : D → ZRA := fun d es M Q => match d, es with
  | .v (.ref a), [.lst fs] => ∃ ds, M a = some (.lst ds) ∧ ds.length + fs.length ≤ sizeLine ∧ Q (.v .non) (mput M a (.lst (ds ++ fs)))
  | _, _ => False
def zPop : D → ZRA := fun d es M Q => match d, es with
  | .v (.ref a), [] => ∃ ds e, M a = some (.lst (ds ++ [e])) ∧ Q e (mput M a (.lst ds))
  | _, _ => False
section
variable {K : PySem.W.Frag} {w0 : W3} {te : TE} {ze : ZE} {aa : TA} {za : ZA}
theorem le_bmL {r : V → List V → Hp → VK → Prop} {rz : D → ZRA} (hr : LRM K r rz) (h1 : LE K w0 te ze) (h2 : LA K w0 aa za) : LE K w0 (tBM K "list" r te aa) (zBM rz ze za) := fun w σ δ Qz Q l s rs c h =>
  h1 w σ δ _ _ l s rs (fun u d x lu su rx ⟨⟨a, ds, e1, e2⟩, h3⟩ => by
    subst e1
    obtain ⟨o, e3, e4⟩ := su.mu _ _ e2
    cases e4 with
    | lst r' =>
      refine ⟨by rw [rx.v_inv]; exact .inl ⟨rfl, _, SqL.of e3⟩, h2 u σ δ _ _ (l.tr lu) su (rs.le lu.le) (fun v es ys lv sv rv h4 => hr v x ys _ es Qz Q sv (rx.le lv.le) rv (c.le (lu.tr lv)) h4) h3⟩) h
theorem le_bmL0 {r : V → List V → Hp → VK → Prop} {rz : D → ZRA} (hr : LRM K r rz) (h1 : LE K w0 te ze) : LE K w0 (tBM0 K "list" r te) (zBM0 rz ze) := fun w σ δ Qz Q l s rs c h =>
  h1 w σ δ _ _ l s rs (fun u d x lu su rx ⟨⟨a, ds, e1, e2⟩, h3⟩ => by
    subst e1
    obtain ⟨o, e3, e4⟩ := su.mu _ _ e2
    cases e4 with
    | lst r' => exact ⟨by rw [rx.v_inv]; exact .inl ⟨rfl, _, SqL.of e3⟩, hr u x [] _ [] Qz Q su rx .nil (c.le lu) h3⟩) h
theorem lrm_append : LRM K rAppend zAppend := fun w x xs d ds Qz Q s rx r c h => by
  unfold zAppend at h
  split at h
  · rename_i a e
    obtain ⟨fs, e1, hl, q⟩ := h
    obtain ⟨o, e2, e3⟩ := s.mu _ _ e1
    cases e3 with
    | lst r' =>
      rename_i ys
      cases r with
      | cons b r =>
        cases r
        rename_i y
        exact ⟨a, ys, y, rx.v_inv, rfl, e2, by rw [← r'.len]; exact hl, c ⟨w.F, mput w.M a (.lst (fs ++ [e])), upd w.H a (.lst (ys ++ [y]))⟩ _ _ (nx_write e1) (Sim.write s e1 (.lst (r'.snoc b))) (.v _) q⟩
  · exact h.elim
theorem lrm_extend : LRM K rExtend zExtend := fun w x xs d ds Qz Q s rx r c h => by
  unfold zExtend at h
  split at h
  · rename_i a es
    obtain ⟨fs, e1, hl, q⟩ := h
    obtain ⟨o, e2, e3⟩ := s.mu _ _ e1
    cases e3 with
    | lst r' =>
      rename_i ys
      cases r with
      | cons b r =>
        cases r
        obtain ⟨p, zs, rfl, q2, r2⟩ := b.lst_inv
        exact ⟨a, p, ys, zs, rx.v_inv, rfl, e2, s.sub _ _ q2, by rw [← r'.len, ← r2.len]; exact hl, c ⟨w.F, mput w.M a (.lst (fs ++ es)), upd w.H a (.lst (ys ++ zs))⟩ _ _ (nx_write e1) (Sim.write s e1 (.lst (r'.app r2))) (.v _) q⟩
  · exact h.elim
theorem lrm_pop : LRM K rPop zPop := fun w x xs d ds Qz Q s rx r c h => by
  unfold zPop at h
  split at h
  · rename_i a
    obtain ⟨fs, e, e1, q⟩ := h
    obtain ⟨o, e2, e3⟩ := s.mu _ _ e1
    cases e3 with
    | lst r' =>
      rename_i ys
      cases r
      have len := r'.len
      rw [List.length_append, List.length_singleton] at len
      obtain ⟨y, hy, ry⟩ := r'.get (i := fs.length) (d := e) (by simp)
      have rd := r'.dropLast
      rw [List.dropLast_concat] at rd
      exact ⟨a, ys, y, rx.v_inv, rfl, e2, by rw [← hy]; congr 1; omega, c ⟨w.F, mput w.M a (.lst fs), upd w.H a (.lst ys.dropLast)⟩ _ _ (nx_write e1) (Sim.write s e1 (.lst rd)) ry q⟩
  · exact h.elim
end

/-! ### a list, a tuple times an int; % and // by op's side -/
def rMulA (K : PySem.W.Frag) : R2 := fun x y H Q => (rI CMul (fun i j => .int (i * j)) x y H Q ∨ rI CMulW (fun i j => .int (i * j)) x y H Q) ∨ rRep x y H Q ∨ rRepT K x y H Q
theorem op_mulA {X : Cx} : OpR X (binaryOp .Mult) (rMulA X.K) := (op_mul.or op_mulW).or (op_rep.or op_repT)
def zMul : ZR2 := fun d e M Q => match d, e with
  | .v (.int i), .v (.int j) => (CMul i j ∨ CMulW i j) ∧ Q (.v (.int (i * j))) M
  | .lst ds, .v (.int k) => 0 ≤ k ∧ k < 2 ^ 63 ∧ ds.length * k.toNat ≤ sizeLine ∧ Q (.lst (List.replicate k.toNat ds).flatten) M
  | .tup ds, .v (.int k) => ds ≠ [] ∧ 2 ≤ k ∧ k ≤ 1000 ∧ ds.length ≤ 1000 ∧ Q (.tup (List.replicate k.toNat ds).flatten) M
  | _, _ => False
theorem lr_mul {K : PySem.W.Frag} : LR2 K (rMulA K) zMul := fun w x y d e Qz Q s rx ry c h => by
  unfold zMul at h
  split at h
  · rcases h.1 with h1 | h1
    · exact .inl (.inl ⟨_, _, rx.v_inv, ry.v_inv, h1, c.go s (.v _) h.2⟩)
    · exact .inl (.inr ⟨_, _, rx.v_inv, ry.v_inv, h1, c.go s (.v _) h.2⟩)
  · obtain ⟨h1, h2, h3, q⟩ := h
    obtain ⟨a, xs, rfl, q1, r1⟩ := rx.lst_inv
    exact .inr (.inl ⟨a, _, xs, rfl, ry.v_inv, s.sub _ _ q1, by omega, h2, by rw [← r1.len]; exact h3, fun p hp => c.new s hp (.lst upd_same ((r1.flatRep _).le (Le.put (s.nF hp)))) q⟩)
  · obtain ⟨h0, h1, h2, h3, q⟩ := h
    obtain ⟨a, xs, rfl, q1, r1⟩ := rx.tup_inv
    exact .inr (.inr ⟨a, _, xs, rfl, ry.v_inv, sqT_le s.sub q1, fun e => h0 (nil_of r1 e), h1, h2, by rw [← r1.len]; exact h3, fun p hp => c.new s hp (.tup upd_same ((r1.flatRep _).le (Le.put (s.nF hp)))) q⟩)
  · exact h.elim
end Zl
namespace Zl
open PySem PySem.Spec PyProof.Rows L2

/-! ### exceptions with fields, made and raised -/
/-- the promise of the __init__ of an exception class that stores its arguments by these names -/
def spXI (C : Addr) (names : List Str) : Sp := fun vs H Q _ => ∃ (a : Addr) (ys : List V), vs = .ref a :: ys ∧ ys.length = names.length ∧ H a = some (exo a C none) ∧
  ∀ dx H', H dx = none → dx ≠ a → H' a = some (exo a C (some dx)) → H' dx = some (exd dx (names.zip ys).reverse) → (∀ b, b ≠ a → b ≠ dx → H' b = H b) → Q .non H'
def zXo (C : Addr) (names : List Str) (za : ZA) : ZSt → MS → ZX → Prop := fun δ M Q => za δ M fun ds M1 => ds.length = names.length ∧ ds.length ≤ 900 ∧ Q C (names.zip ds).reverse M1
theorem repF_zip {K : PySem.W.Frag} {F : Hp} : ∀ {ns : List Str} {ds : List D} {xs : List V}, Reps K F ds xs → RepF K F (ns.zip ds) (ns.zip xs)
  | [], _, _, _ => by
    rw [List.zip_nil_left, List.zip_nil_left]
    exact .nil
  | n :: ns, _, _, .nil => by
    rw [List.zip_nil_right, List.zip_nil_right]
    exact .nil
  | n :: ns, _, _, .cons a r => .cons a (repF_zip r)
theorem repF_app {K : PySem.W.Frag} {F : Hp} {fs gs : List (Str × D)} {xs ys : List (Str × V)} (h : RepF K F fs xs) (g : RepF K F gs ys) : RepF K F (fs ++ gs) (xs ++ ys) := by
  induction fs generalizing xs with
  | nil => cases h; exact g
  | cons d ds ih =>
    cases h with
    | cons a r => exact .cons a (ih r)
theorem repF_rev {K : PySem.W.Frag} {F : Hp} {fs : List (Str × D)} {xs : List (Str × V)} (h : RepF K F fs xs) : RepF K F fs.reverse xs.reverse := by
  induction fs generalizing xs with
  | nil => cases h; exact .nil
  | cons d ds ih =>
    cases h with
    | cons a r =>
      rw [List.reverse_cons, List.reverse_cons]
      exact repF_app (ih r) (.cons a .nil)
theorem lx_mk {K : PySem.W.Frag} {w0 : W3} {C : Addr} {names : List Str} {t : TA} {za : ZA} (ha : LA K w0 t za) : LX K w0 (tMkO C (spXI C names) [] t) (zXo C names za) := fun w σ δ Qz Q l s rs c h =>
  ha w σ δ _ _ l s rs (fun u ds vs lu su r ⟨h1, h2, q⟩ => by
    have len := r.len
    refine ⟨by omega, fun a ha => ⟨a, vs, by rw [List.append_nil], by omega, upd_same, fun dx H' n1 ne e1 e2 e3 => ?_⟩⟩
    have n0 : u.H dx = none := by
      rw [upd_ne ne] at n1
      exact n1
    refine ⟨rfl, dx, _, e1, e2, n0, ?_⟩
    have eH : upd (del H' a) dx (.xd (names.zip vs).reverse) = upd u.H dx (.xd (names.zip vs).reverse) := by
      funext b
      by_cases q1 : b = dx
      · subst q1
        rw [upd_same, upd_same]
      · rw [upd_ne q1, upd_ne q1]
        by_cases q2 : b = a
        · subst q2
          rw [del_same, ha]
        · rw [del_ne q2, e3 b q2 q1, upd_ne q2]
    rw [eH]
    exact c ⟨upd u.F dx (.xd (names.zip vs).reverse), u.M, upd u.H dx (.xd (names.zip vs).reverse)⟩ C (some dx) _ (lu.tr (nx_new su n0)) (su.freeze n0) (.some upd_same (repF_rev ((repF_zip r).le (Le.put (su.nF n0))))) q) h
/-- X(), an own exception class without an __init__ of its own -/
def tX0 (C : Addr) : L2.St → Hp → XK → Prop := fun _ H Q => Q (.ref C) none H
def zX0 (C : Addr) : ZSt → MS → ZX → Prop := fun _ M Q => Q C [] M
theorem pmk_own0 {X : Cx} {C : Addr} {bmB : List Value} {B newId initId : String} {x : Str} {p pos : Pos} (F : ExcBaseFacts B newId initId bmB) (q : PySem.W.excIn X.K C bmB newId = true) (gC : X.mg x = some (.ref C))
    (kC : PySem.W.keepIn X.K (.ref C) = true) (r : Raises X (.ref C)) (hg : Gl X x) (hdb : (x == ("__debug__" : Str)) = false := by decide) : L2N.PMk X (.Call (.Name x p) [] [] pos) (tX0 C) := by
  intro pins s σ H Q I hh
  refine wpAny_Call_Name_kw (ld_glob I hg gC ?_ hdb)
  refine PySem.W.callWith_K0 I.kIn kC ?_
  obtain ⟨bm, N, nm, qn, bs, hdct, sn, sub, ab, col, dd, k0, k1, k2, k3, k5, mN, hC, hN, hni, T⟩ := exc_obj I.kIn q
  exact wpAny_call_exc_subT F T hC hN hni (fun h' e hm => L2N.mk_of I hm r hh (I.hok.gone hm.new)) (Nat.zero_le _)
theorem lx_0 {K : PySem.W.Frag} {w0 : W3} {C : Addr} : LX K w0 (tX0 C) (zX0 C) := fun w σ δ Qz Q l s rs c h => c w C none [] (Nx.rf w) s .none h

/-! ### try .. except X as n -/
def tTryAs (K : PySem.W.Frag) (c : Value) (i : Nat) (ts : Addr → Value → Option Addr → TS) (Wout : WX) (tb : WX → TS) : TS := fun D σ H => tb (wAs K c i ts Wout D) D σ H
def zTryAs (K : PySem.W.Frag) (c : Value) (i : Nat) (zs : Addr → Addr → List (Str × D) → ZS) (Wz : ZW) (zb : ZW → ZS) : ZS := fun D δ M =>
  zb (fun C fs δ' M' => ∃ b, PySem.W.exmOne K (.ref C) c = some b ∧
    (b = true → ∀ a, M' a = none → zs a C fs { nx := fun δ2 M2 => D.nx (δ2.set i none) M2, rt := D.rt, bk := fun δ2 M2 => D.bk (δ2.set i none) M2, ct := fun δ2 M2 => D.ct (δ2.set i none) M2 } (δ'.set i (some (.v (.ref a)))) M') ∧
    (b = false → Wz C fs δ' M')) D δ M
theorem ls_tryAs {K : PySem.W.Frag} {w0 : W3} {c : Value} {i : Nat} {ts : Addr → Value → Option Addr → TS} {zs : Addr → Addr → List (Str × D) → ZS} {Wout : WX} {Wz : ZW} {tb : WX → TS} {zb : ZW → ZS}
    (hW : CtW K w0 Wz Wout) (hs : ∀ w a C d fs, Nx w0 w → XRep K w.F d fs → LS K w (ts a (.ref C) d) (zs a C fs)) (hb : ∀ w W Wz, Nx w0 w → CtW K w Wz W → LS K w (tb W) (zb Wz)) : LS K w0 (tTryAs K c i ts Wout tb) (zTryAs K c i zs Wz zb) := fun w σ δ Dz D l s rs cD h =>
  hb w _ _ l (fun u C d fs δ' σ' lu su ru rx ⟨b, e1, e2, e3⟩ => ⟨b, e1, fun eb a ha =>
    hs u a C d fs (l.tr lu) rx u _ _ { nx := fun δ2 M2 => Dz.nx (δ2.set i none) M2, rt := Dz.rt, bk := fun δ2 M2 => Dz.bk (δ2.set i none) M2, ct := fun δ2 M2 => Dz.ct (δ2.set i none) M2 } { nx := fun σ2 H2 => D.nx (σ2.set i none) H2, rt := D.rt, bk := fun σ2 H2 => D.bk (σ2.set i none) H2, ct := fun σ2 H2 => D.ct (σ2.set i none) H2 } (Nx.rf u) su (ru.set (.v (.ref a)) i)
      ⟨fun v δ2 σ2 lv sv rv q => cD.nx v _ _ (lu.tr lv) sv (rv.unset i) q, cD.rt.le lu, fun v δ2 σ2 lv sv rv q => cD.bk v _ _ (lu.tr lv) sv (rv.unset i) q, fun v δ2 σ2 lv sv rv q => cD.ct v _ _ (lu.tr lv) sv (rv.unset i) q⟩ (e2 eb a (su.nM ha)),
    fun eb => hW u C d fs δ' σ' (l.tr lu) su ru rx (e3 eb)⟩) w σ δ Dz D (Nx.rf w) s rs cD h
/-- err.f -/
def zXf (a : Addr) (C C' : Addr) (fs : List (Str × D)) (f : Str) (z : ZE) : ZE := fun δ M Q => z δ M fun d M1 => d = .v (.ref a) ∧ C = C' ∧ ∃ e, fs.lookup f = some e ∧ Q e M1
theorem le_xf {K : PySem.W.Frag} {w0 : W3} {a C C' : Addr} {d : Option Addr} {fs : List (Str × D)} {f : Str} {te : TE} {ze : ZE} (rx : XRep K w0.F d fs) (h1 : LE K w0 te ze) : LE K w0 (tXf a (.ref C) d C' f te) (zXf a C C' fs f ze) := fun w σ δ Qz Q l s rs c h =>
  h1 w σ δ _ _ l s rs (fun u e x lu su r ⟨e1, e2, y, e3, q⟩ => by
    subst e1 e2
    cases rx with
    | none => cases e3
    | some hF rF =>
      obtain ⟨z, e4, r4⟩ := (rF.le (l.tr lu).le).look.2 y e3
      exact ⟨r.v_inv, rfl, _, _, z, rfl, su.sub _ _ ((l.tr lu).le _ _ hF), e4, (c.le lu).go su r4 q⟩) h
/-- isinstance(err, T) -/
def XHas (d : Option Addr) (H : Hp) : Prop := d = none ∨ ∃ dd xs, d = some dd ∧ H dd = some (.xd xs)
def rIsX (K : PySem.W.Frag) (D a : Addr) (d : Option Addr) : List V → Hp → VK → Prop := fun xs H Q => ∃ (c : V) (u : Value) (b : Bool), xs = [.ref a, c] ∧ ClsV c u ∧ PySem.W.kitOne K (.ref D) u = some b ∧ XHas d H ∧ Q (.bl b) H
structure XcC (K : PySem.W.Frag) (D : Addr) : Prop where
  e : ExcC K D
  i : (PySem.W.clsIn K D).isSome = true
theorem call_isX {X : Cx} {a D : Addr} {oe : Obj} {d : Option Addr} {pn : List (Addr × Obj)} (C : XcC X.K D) (hz : Zc (.ref D) d oe) (hf : ∃ vs, oe.data = .fields vs) : CallR (X.suite a ((a, oe) :: pn)) (.builtin "isinstance") (rIsX X.K D a d) := by
  intro pins s σ H xs us Q I r hh
  obtain ⟨c, u, b, rfl, hc, e, hd, q⟩ := hh
  obtain ⟨u1, u2, rfl, r1, r2⟩ := vals2 r
  cases (show u1 = Value.ref a from r1)
  have e2 := hc.eq r2
  subst e2
  obtain ⟨hget, _⟩ := I.pin (a, oe) (List.mem_append.mpr (.inl List.mem_cons_self))
  obtain ⟨vs, hv⟩ := hf
  have go : ∀ od, PySem.W.InstAt s.heap a oe D od → wpAny (model X.prog X.w) (X.suite a ((a, oe) :: pn)).A (call (.builtin "isinstance") [.ref a, u2]) (EP (X.suite a ((a, oe) :: pn)) pins σ Q) (X.suite a ((a, oe) :: pn)).xe s := fun od J =>
    PySem.W.kia_one (PySem.W.kitx_exc C.i C.e.hg C.e.hk C.e.hs C.e.ha C.e.hn C.e.ht C.e.hm) I.kIn J e (fun z => nomatch z) fun tk => ⟨.bl b, H, I.kept (t' := tk) fun _ _ z => z, rfl, q⟩
  have nc : PySem.W.notCls oe = true := by
    unfold PySem.W.notCls
    rw [hv] <;> rfl
  rcases hd with rfl | ⟨dd, ys, rfl, hH⟩
  · exact go none ⟨hget, hz.1, nc, by rw [hz.2]; trivial⟩
  · obtain ⟨mA, hns, hr⟩ := (show ObjOk X.prog X.w H s.heap dd (.xd ys) from I.hok dd _ hH)
    obtain ⟨od, ho, hl⟩ := lookIn_ns hns
    exact go (some od) ⟨hget, hz.1, nc, by rw [hz.2]; exact ho⟩
def zIsX (K : PySem.W.Frag) (D a : Addr) : ZRA := fun ds M Q => match ds with
  | [.v (.ref b), c] => b = a ∧ ∃ u k, clD c = some u ∧ PySem.W.kitOne K (.ref D) u = some k ∧ Q (.v (.bl k)) M
  | _ => False
theorem le_isX {K : PySem.W.Frag} {w0 : W3} {D a : Addr} {d : Option Addr} {fs : List (Str × Zl.D)} {aa : TA} {za : ZA} (rx : XRep K w0.F d fs) (h1 : LA K w0 aa za) : LE K w0 (tCB (rIsX K D a d) aa) (zCB (zIsX K D a) za) := fun w σ δ Qz Q l s rs c h =>
  h1 w σ δ _ _ l s rs (fun u ds xs lu su r h2 => by
    unfold zIsX at h2
    split at h2
    · obtain ⟨rfl, v, k, e1, e2, q⟩ := h2
      cases r with
      | cons r1 r => cases r with
        | cons r2 r =>
          cases r
          refine ⟨_, v, k, by rw [r1.v_inv], clD_rep r2 e1, e2, ?_, (c.le lu).go su (.v _) q⟩
          cases rx with
          | none => exact .inl rfl
          | some hF rF => exact .inr ⟨_, _, rfl, su.sub _ _ ((l.tr lu).le _ _ hF)⟩
    · exact h2.elim) h

/-! ### several words for the derivations -/
/-- at a def's own body -/
theorem tkB {X : Cx} {E : XK} (hs : X.stack = X.env :: X.outer := by rfl) (hf : X.env.frame = some X.env.locals := by rfl) (hex : X.ex = [] := by rfl)
    (hx : X.xe = fun e s' => wpAny (model X.prog X.w) X.A (leaving X.env e) (fun _ s'' => L2N.CX X.prog X.w X.outer X.H_0 X.s_0 E e s'') (fun e s'' => L2N.CX X.prog X.w X.outer X.H_0 X.s_0 E e s'') s' := by rfl) : L2N.Takes X (WB E) := L2N.takes_of hs hf hex hx
abbrev W0 : WX := fun _ _ _ _ => False
abbrev W0z : ZW := fun _ _ _ _ => False
theorem tk0 {X : Cx} : L2N.Takes X W0 := fun _ _ ⟨_, _, _, _, _, _, _, _, _, _, _, _, _, _, _, _, w⟩ => w.elim
theorem ctW0' {K : PySem.W.Frag} {w0 : W3} : CtW K w0 W0z W0 := ctW0
end Zl
namespace Zl
open PySem PySem.Spec PyProof.Rows L2

/-! ### exception classes of the text -/
structure XcAt (P : Program) (w : World) (K : PySem.W.Frag) (mg : Str → Option Value) (base : Heap) (x : Str) (C : Addr) (names : List Str) : Prop where
  ex : ∃ (f : Addr) (fd : FuncData), PySem.W.findIn K (.ref C) "__init__" = some (some (.ref f)) ∧ PySem.W.typeIn K (.ref f) = some (.type "function") ∧
    FnOk P w K mg base (L2N.CX P w) 1 f fd (("self" : Str) :: names) (spXI C names) ∧ L2.Binds K fd (("self" : Str) :: names) []
  o : OexC K C
  g : mg x = some (.ref C)
structure Xc0At (K : PySem.W.Frag) (mg : Str → Option Value) (x : Str) (C : Addr) : Prop where
  e : PySem.W.excIn K C He.veBase "ValueError.__new__" = true
  k : PySem.W.keepIn K (.ref C) = true
  b : PySem.W.subIn K (.ref C) (.type "BaseException") = some true
  t : PySem.W.typeIn K (.ref C) = some (.type "type")
  g : mg x = some (.ref C)
theorem passN {X : Cx} : Passes (L2N.CX X.prog X.w) X (fun _ _ _ => False) := fun _ _ _ _ _ _ _ ⟨_, _, _, _, _, _, _, _, _, _, _, _, z⟩ => z.elim
section
variable {X : Cx} {e : Expr} {es : List Expr} {ta : TA} {pos : Pos}
/-- C(e, ..), an own exception whose __init__ is walked: its context is None -/
theorem pmk_oexN {CX : CXT} {x : Str} {p : Pos} {C fI : Addr} {k : Nat} {fd : FuncData} {ps : List Str} {sp : Sp} (T : OexC X.K C) (iC : PySem.W.findIn X.K (.ref C) "__init__" = some (some (.ref fI)))
    (tI : PySem.W.typeIn X.K (.ref fI) = some (.type "function")) (F1 : FnOk X.prog X.w X.K X.mg X.base CX k fI fd ps sp) (hr : Room (k + 1) X.A) (hb : L2.Binds X.K fd ps [])
    (hx : Passes CX X (fun _ _ _ => False)) (hg : Gl X x) (hm : X.mg x = some (.ref C)) (ha : PA X (e :: es) ta)
    (hdb : (x == ("__debug__" : Str)) = false := by decide) (hst : starEach (e :: es) X.env = (false, eval e X.env) :: starEach es X.env := by rfl)
    (hpl : (backTo pos (starEach es X.env)).any (·.1) = false := by rfl) : L2N.PMk X (.Call (.Name x p) (e :: es) [] pos) (tMkO C sp [] ta) := by
  rintro pins s σ H Q I h
  obtain ⟨nm, q, N, bs, bm, sn, sub, ab, col, dd, k0, k1, k2, k3, k5, hC, hbm⟩ := T.cls
  apply wpAny_Call_Name_kw
  refine ld_glob I hg hm (PySem.W.callWith_K (h₀ := X.base) I.ok.mod.kin T.kC (thn (ha.run pos pins s σ H _ I h) ?_) hst hpl) hdb
  rintro us ⟨hp, g, dr, tk, os⟩ ⟨vs, H1, I1, r1, hz, q1⟩
  refine ⟨I1.kIn, ?_⟩
  show wpAny _ _ (call (.ref C) us) _ _ _
  have le1 : hp.objs.size ≤ hp.objs.size + 1 := Nat.le_succ _
  have q2 := q1 (hp.objs.size + 1) (I1.hok.fresh le1)
  have stay : ∀ b o, hp.get? b = some o → ((hp.push (PySem.W.kdv_tup us)).push (PySem.HandSPX.excO C hp.objs.size)).get? b = some o :=
    fun b o z => Heap.get?_push_of_some _ (Heap.get?_push_of_some _ z)
  have there : ((hp.push (PySem.W.kdv_tup us)).push (PySem.HandSPX.excO C hp.objs.size)).get? (hp.objs.size + 1) = some (PySem.HandSPX.excO C hp.objs.size) := by
    heap_get
  have J := I1.laid (t' := tk) (a := hp.objs.size + 1) (o := exo (hp.objs.size + 1) C none) stay le1 (exo_ok there)
  have rr : Vals (V.ref (hp.objs.size + 1) :: (vs ++ [])) (Value.ref (hp.objs.size + 1) :: (us ++ [])) := .cons rfl (r1.append .nil)
  have ll : (Value.ref (hp.objs.size + 1) :: us ++ []).length = ps.length := ((F1.len _ _ _ _ q2).symm.trans rr.length).symm
  have lu : us.length ≤ sizeLine := by
    rw [sizeLine_eq, ← Paired.length r1]
    omega
  have bb := hb _ (Value.ref (hp.objs.size + 1) :: us) J.kIn ll
  rw [List.cons_append] at bb
  have cb := codeAny_mono (F1.run _ X.stack _ _ ⟨Value.ref (hp.objs.size + 1) :: us, []⟩ (Value.ref (hp.objs.size + 1) :: (us ++ [])) _ _ (fun _ _ _ => False) (hr.make C us []) (J.env0.make C us [])
    bb rr q2) (R' := fun r s' => match r with
      | .ok (.ret u) => u = .none ∧ L2N.MkP X pins σ Q (.ref (hp.objs.size + 1)) s'
      | .ok _ => False
      | .error er => X.xe er s') fun r s' z => ?_
  · refine wpAny_call (PySem.HandSPX.call_own F.excBase_ValueError (fun Y => PySem.HandSPX.refsVE_contains Y bm hbm) (I1.kIn _ _ hC) (PySem.W.looks_findIn I1.kIn iC) (fun self => PySem.W.bind_fn I1.kIn self tI) lu (codeAny_mono cb fun r s' z => ?_))
    match r, z with
    | .error er, z => exact z
    | .ok (.ret u), z => exact z
  · match r, z with
    | .error er, z => exact hx pins σ _ _ er s' J z
    | .ok (.ret u), z =>
      obtain ⟨v, H2, o2, b2, u2, k2, rv, ev, d, fs, ea, ed, d1, z2⟩ := z
      subst ev
      obtain ⟨h2, g2, d2, t2, o'⟩ := s'
      obtain ⟨t0, G, J2, kG, ge, hoe, na⟩ := mk_end0 (d2 := d2) (t2 := t2) I1 le1 stay u2 k2 o2 b2 ea ed d1
      exact ⟨rv, _, _, _, ⟨G, g2, d2, t2, o'⟩, _, .ref C, some d, rfl, J2, kG, ge, hoe, ⟨rfl, rfl, fun vs z => by cases z; rfl⟩, rfl, rfl, na, rfl, b2, raises_own T.exC T.tyC, z2⟩
    | .ok .next, z => exact False.elim z
    | .ok .brk, z => exact False.elim z
    | .ok .cont, z => exact False.elim z
end
section
variable {X : Cx} {C : Addr} {names : List Str} {W : WX} {x : Str} {p pos pos' : Pos} {e : Expr} {es : List Expr} {t : TA} {k : Nat}
theorem zc_raise (d : XcAt X.prog X.w X.K X.mg X.base x C names) (hr : Room (k + 2) X.A) (hc : X.calm = true) (hg : Gl X x) (tk : L2N.Takes X W) (ha : PA X (e :: es) t)
    (hdb : (x == ("__debug__" : Str)) = false := by decide) (he : starEach (e :: es) X.env = (false, eval e X.env) :: starEach es X.env := by rfl) (hpl : (backTo pos (starEach es X.env)).any (·.1) = false := by rfl) :
    PS X (.Raise (some (.Call (.Name x p) (e :: es) [] pos)) none pos') (tRz W (tMkO C (spXI C names) [] t)) :=
  let ⟨_, _, i, ty, F, b⟩ := d.ex; pc_raise hc tk (pmk_oexN d.o i ty F (hr.mono (by omega)) b passN hg d.g ha hdb he hpl)
theorem zc_raise0 (d : Xc0At X.K X.mg x C) (hc : X.calm = true) (hg : Gl X x) (tk : L2N.Takes X W) (hdb : (x == ("__debug__" : Str)) = false := by decide) :
    PS X (.Raise (some (.Call (.Name x p) [] [] pos)) none pos') (tRz W (tX0 C)) :=
  pc_raise hc tk (pmk_own0 PySem.F.excBase_ValueError d.e d.g d.k (raises_own d.b d.t) hg hdb)
end
/-- the __init__ of such a class -/
theorem zx_init {P : Program} {w : World} {K : PySem.W.Frag} {mg : Str → Option Value} {base : Heap} {st : Stmt} {qual : Str} {N ps : List Str} {f C : Addr} {fd : FuncData} {names : List Str} {T : TS}
    (F : FunD K "__init__" qual (defArgs st) (defBody st) (defScope st) [] [] f fd) (S : FnScope N ps (defScope st)) (hps : ps.length = names.length + 1)
    (hb : ∀ (cdv : Value) (A : Around) (outer : List Env) (s : Shared) (H : Hp) (E : XK), PSs (cxOf (L2N.CX P w) P w K mg base N qual (defScope st) f cdv A outer s H E) (defBody st) T)
    (hT : ∀ vs H Q, spXI C names vs H Q (fun _ _ _ => False) → T { nx := fun _ H' => Q .non H', rt := Q } (L2.start N vs) H) : FnOk P w K mg base (L2N.CX P w) 1 f fd ps (spXI C names) := by
  refine FunD.ok F S (fun vs H Q E h => ?_) (fun cdv A outer s H vs Q E hr h => ⟨T, hb cdv A outer s H E, hT vs H Q h⟩)
  obtain ⟨a, ys, rfl, l, _⟩ := h
  rw [List.length_cons, l, hps]
theorem xinit1 {K : PySem.W.Frag} {C : Addr} {n : Str} {N : List Str} (T : OexC K C) (h1 : NoAttr K C n) (hN : N.length = 2) (vs : List V) (H : Hp) (Q : VK) (h : spXI C [n] vs H Q (fun _ _ _ => False)) :
    tOst K n (tVar 0) (tVar 1) { nx := fun _ H' => Q .non H', rt := Q } (L2.start N vs) H := by
  obtain ⟨a, ys, rfl, l, e, k⟩ := h
  match ys, l with
  | [y], _ =>
    have es : L2.start N [V.ref a, y] = [some (.ref a), some y] := by
      unfold L2.start
      rw [hN]
      rfl
    rw [es]
    refine ⟨y, rfl, _, rfl, a, C, rfl, T, h1, .inl ⟨e, fun dx hd ne => ?_⟩⟩
    refine k dx _ hd ne upd_same (by rw [upd_ne ne, upd_same]; rfl) fun b n1 n2 => by rw [upd_ne n1, upd_ne n2]
theorem xinit2 {K : PySem.W.Frag} {C : Addr} {n m : Str} {N : List Str} (T : OexC K C) (h1 : NoAttr K C n) (h2 : NoAttr K C m) (hN : N.length = 3) (vs : List V) (H : Hp) (Q : VK) (h : spXI C [n, m] vs H Q (fun _ _ _ => False)) :
    tSeq (tOst K n (tVar 0) (tVar 1)) (tOst K m (tVar 0) (tVar 2)) { nx := fun _ H' => Q .non H', rt := Q } (L2.start N vs) H := by
  obtain ⟨a, ys, rfl, l, e, k⟩ := h
  match ys, l with
  | [y, z], _ =>
    have es : L2.start N [V.ref a, y, z] = [some (.ref a), some y, some z] := by
      unfold L2.start
      rw [hN]
      rfl
    rw [es]
    refine ⟨y, rfl, _, rfl, a, C, rfl, T, h1, .inl ⟨e, fun dx hd ne => ?_⟩⟩
    refine ⟨z, rfl, _, rfl, a, C, rfl, T, h2, .inr ⟨dx, [(n, y)], upd_same, by rw [upd_ne ne, upd_same], (by show 1 ≤ 900; decide), ?_⟩⟩
    refine k dx _ hd ne (by rw [upd_ne (Ne.symm ne), upd_same]) upd_same fun b n1 n2 => by rw [upd_ne n2, upd_ne n1, upd_ne n2]
def oexB (K : PySem.W.Frag) (C : Addr) : Bool := (match K.lookup C with
  | some ⟨.type "type", _, .cls cd, sl⟩ => (match cd.mro, sl.toList with
    | .ref C' :: bm, [_, _, _, _, some (.builtin n), _] => C' == C && (n == "ValueError.__new__" && (!cd.hasDel && (cd.hasDict && PySem.HandSPX.refsVE bm)))
    | _, _ => false)
  | _ => false) && (decide (PySem.W.findIn K (.ref C) "__setattr__" = some (some (.builtin "object.__setattr__"))) && (decide (PySem.W.subIn K (.ref C) (.type "BaseException") = some true) && (decide (PySem.W.typeIn K (.ref C) = some (.type "type")) && PySem.W.keepIn K (.ref C))))
theorem oexB_ok {K : PySem.W.Frag} {C : Addr} (h : oexB K C = true) : OexC K C := by
  unfold oexB at h
  simp only [Bool.and_eq_true, decide_eq_true_eq] at h
  obtain ⟨q, h1, h2, h3, h4⟩ := h
  refine ⟨?_, h1, h2, h3, h4⟩
  split at q
  · rename_i dd cd sl ho
    split at q
    · rename_i C' bm k0 k1 k2 k3 n k5 hm hs
      simp only [Bool.and_eq_true, beq_iff_eq, Bool.not_eq_true'] at q
      obtain ⟨rfl, rfl, hdel, hdi, ht⟩ := q
      obtain ⟨nm, bs, mro, ns, qn, hd, sn, sub, ab, col, del⟩ := cd
      dsimp only at hm hdel hdi
      subst hm hdel hdi
      have hsl : sl = #[k0, k1, k2, k3, some (.builtin "ValueError.__new__"), k5] := by
        obtain ⟨l⟩ := sl
        simp only at hs
        rw [hs]
      subst hsl
      exact ⟨nm, qn, ns, bs, bm, sn, sub, ab, col, dd, k0, k1, k2, k3, k5, ho, ht⟩
    · cases q
  · cases q
def insB (K : PySem.W.Frag) (C : Addr) : Bool := decide (PySem.W.findIn K (.ref C) "__class__" = some (some (.builtin "object.__class__"))) && (decide (PySem.W.specialIn K (.builtin "object.__class__") "__get__" = some (some (.builtin "getset_descriptor.__get__"))) &&
  (decide (PySem.W.takesIn K (.builtin "object.__class__") = some true) && decide (PySem.W.mroIn K C (.type "object") = some true)))
theorem insB_ok {K : PySem.W.Frag} {C : Addr} (c : Cls K C) (h : insB K C = true) : InsC K C := by
  unfold insB at h
  simp only [Bool.and_eq_true, decide_eq_true_eq] at h
  exact ⟨c, h.1, h.2.1, h.2.2.1, h.2.2.2⟩
def xccB (K : PySem.W.Frag) (D : Addr) : Bool := decide (PySem.W.findIn K (.ref D) "__getattribute__" = some (some (.builtin "BaseException.__getattribute__"))) && (decide (PySem.W.findIn K (.ref D) "__getattr__" = some none) &&
  (decide (PySem.W.subIn K (.ref D) (.type "BaseException") = some true) && (PySem.W.hasDictIn K D && (insB K D && (PySem.W.clsIn K D).isSome))))
theorem xccB_ok {K : PySem.W.Frag} {D : Addr} (h : xccB K D = true) : XcC K D ∧ XfC K D := by
  unfold xccB insB at h
  simp only [Bool.and_eq_true, decide_eq_true_eq] at h
  obtain ⟨h1, h2, h3, h4, ⟨h5, h6, h7, h8⟩, h9⟩ := h
  exact ⟨⟨⟨h1, h2, h3, h4, h5, h6, h7, h8⟩, h9⟩, ⟨h1, h2, h3, h4⟩⟩
/-- isinstance's answer, class by class -/
def kitE (K : PySem.W.Frag) (t c : Value) (b : Bool) : Bool := decide (PySem.W.kitOne K t c = some b)
theorem kitE_ok {K : PySem.W.Frag} {t c : Value} {b : Bool} (h : kitE K t c b = true) : PySem.W.kitOne K t c = some b := of_decide_eq_true h
def initB (K : PySem.W.Frag) (C f : Addr) : Bool := decide (PySem.W.findIn K (.ref C) "__init__" = some (some (.ref f))) && decide (PySem.W.typeIn K (.ref f) = some (.type "function"))

/-! ### names of the module -/
section
variable {X : Cx} {x : Str} {p : Pos}
theorem zp_int {i : Int} (h : ∃ t, X.mg x = some (.int i t)) (hg : Gl X x) (hd : (x == ("__debug__" : Str)) = false := by decide) : PE X (.Name x p) (tC (.int i)) :=
  let ⟨t, h⟩ := h; pe_glob hg h ⟨t, rfl⟩ hd
theorem zp_str {i : Str} (h : ∃ t, X.mg x = some (.str i t)) (hg : Gl X x) (hd : (x == ("__debug__" : Str)) = false := by decide) : PE X (.Name x p) (tC (.str i)) :=
  let ⟨t, h⟩ := h; pe_glob hg h ⟨t, rfl⟩ hd
theorem zp_ref {a : Addr} (h : X.mg x = some (.ref a)) (hg : Gl X x) (hd : (x == ("__debug__" : Str)) = false := by decide) : PE X (.Name x p) (tC (.ref a)) := pe_glob hg h rfl hd
theorem zp_ty {n : String} (h : X.mg x = none) (hv : bootBuiltins x = some (.type n)) (hg : Gl X x) (hn : x ≠ "__name__" := by decide) (hd : (x == ("__debug__" : Str)) = false := by decide) : PE X (.Name x p) (tC (.ty n)) := pe_bltn hg h hv rfl hn hd
theorem call_lenDR : CallR X (.builtin "len") (fun xs H Q => ∃ a kvs, xs = [V.ref a] ∧ Rd H a (.dK kvs) ∧ Q (.int kvs.length) H) := by
  intro pins s σ H xs us Q I r h
  obtain ⟨a, kvs, rfl, ha, q⟩ := h
  obtain ⟨u, rfl, ru⟩ := vals1 r
  cases ru
  exact d_len I ha fun t s' I' => ⟨.int kvs.length, H, I', ⟨t, rfl⟩, q⟩
theorem call_lenA : CallR X (.builtin "len") (rLenA X.K) := call_len.or call_lenDR
end

/-! ### three names at once -/
def zPar3 (i j k : Nat) (za : ZA) : ZS := fun D δ M => za δ M fun ds M1 => match ds with | [d, e, f] => D.nx (((δ.set i (some d)).set j (some e)).set k (some f)) M1 | _ => False
theorem ls_par3 {K : PySem.W.Frag} {w0 : W3} {aa : TA} {za' : ZA} {i j k : Nat} (h1 : LA K w0 aa za') : LS K w0 (tPar3 i j k aa) (zPar3 i j k za') := fun w σ δ Dz D l s rs c h =>
  h1 w σ δ _ _ l s rs (fun w1 ds xs l1 s1 r1 h3 => by
    match ds, r1, h3 with
    | [d, e, f], .cons a (.cons b (.cons b' .nil)), h3 => exact ⟨_, _, _, rfl, c.nx w1 _ _ l1 s1 ((((rs.le l1.le).set a i).set b j).set b' k) h3⟩) h

/-! ### the end of a law -/
def spLaw : ZSp := fun ds M Q _ => ∃ ns : List Int, ds = [.rd (ns.map fun n => .v (.int n))] ∧ ns.length ≤ 63 ∧ (∀ z ∈ ns, Builtin.Int.intBits z ≤ 1048576) ∧ M = (fun _ => none) ∧ ∀ M', Q (.v (.bl true)) M'
theorem reps_ints {K : PySem.W.Frag} {F : Hp} : ∀ ns : List Int, Reps K F (ns.map fun n => .v (.int n)) (ns.map V.int)
  | [] => .nil
  | n :: ns => .cons (.v _) (reps_ints ns)
theorem walk_law {l : PySem.W.OpenLaw} {k : Nat} {q : Program} {loose : List Str} {XP : (Str → Option Value) → Heap → Prop} {YP : World → Heap → Prop} {d : DefRec}
    (hn : l.most = some 63) (hdf : d.params.defaults = []) (hr : Room k callerA)
    (F : ∀ (w : World) (mg : Str → Option Value) (fa : Addr) (h : Heap), YP w h → h.Ns mainGlobals mg → mg d.name = some (.ref fa) →
      ∃ (K : PySem.W.Frag) (fd : FuncData), K.In h ∧ (∀ (s : Shared) (u : Value), BindsTo s fd ⟨[u], []⟩ [("script", u)]) ∧
        ∀ base : Heap, K.In base → base.Ns mainGlobals mg → FnOk l.prog w K mg base (L2N.CX l.prog w) k fa fd ["script"] (spOf K spLaw)) :
    PySem.W.WalkO q loose XP YP l.row.toRowW d [] (fun f vs => PySem.call f vs) := by
  refine Att.attach_callB hn hdf fun w s₀ s₁ mg mb fa o pm cd doc a vs ns G Y ho hd hcd hmg hobj hints hlen hbits hg => ?_
  obtain ⟨K, fd, KX, hb, hF⟩ := F w mg fa _ Y G.T.g hmg
  refine law_call KX G.T.g G.T.b G.T.builtins G.T.nolimit hg hobj hints (Nat.le_trans hlen (by decide)) hr hF hb (fun H hO hS => ?_) fun H e s' z => ?_
  · refine ⟨⟨H, fun _ => none, H⟩, [.rd (ns.map fun n => .v (.int n))], fun d _ => d = .v (.bl true), fun _ _ _ => False, rfl, ⟨Le.rfl' H, fun _ _ _ => rfl, fun _ _ z => nomatch z⟩, .cons (.rd hS (reps_ints ns)) .nil, fun u d x _ _ r e => ?_, fun _ _ _ _ _ _ _ z => z, ns, rfl, hlen, hbits, rfl, fun _ => rfl⟩
    subst e
    exact r.v_inv
  · obtain ⟨_, _, _, _, _, _, _, _, _, _, _, _, z⟩ := z
    exact z.elim
end Zl
namespace Zl
open PySem PySem.Spec PyProof.Rows L2 HT
/-! ### t[::-1], t a tuple -/
section
variable {prog : Program} {w : World} {A : Around} {E : Value → Shared → Prop} {s : Shared}
theorem rev_adjust (n : Nat) : Builtin.Slice.sliceAdjust none none (-1) (n : Int) = ((n : Int) - 1, -1) := by
  unfold Builtin.Slice.sliceAdjust
  simp
theorem rev_places (n : Nat) : Builtin.Slice.slicePlaces ((n : Int) - 1) (-1) (-1) = n := by
  unfold Builtin.Slice.slicePlaces
  simp
  split <;> omega
theorem fm_map {α β : Type} {f : α → Option β} {g : α → β} : ∀ {l : List α}, (∀ m ∈ l, f m = some (g m)) → l.filterMap f = l.map g
  | [], _ => rfl
  | a :: l, h => by
    rw [List.filterMap_cons_some (h a List.mem_cons_self), fm_map fun m hm => h m (List.mem_cons_of_mem _ hm)]
    rfl
theorem rev_pick (xs : Array Value) : ((List.range xs.size).filterMap fun (m : Nat) => xs[((xs.size : Int) - 1 + (m : Int) * -1).toNat]?).toArray = xs.toList.reverse.toArray := by
  congr 1
  apply List.ext_getElem?
  intro i
  have e : ((List.range xs.size).filterMap fun (m : Nat) => xs[((xs.size : Int) - 1 + (m : Int) * -1).toNat]?) = (List.range xs.size).map fun m => xs.toList.getD (xs.size - 1 - m) .none := by
    refine fm_map fun m hm => ?_
    have hm := List.mem_range.mp hm
    have e1 : ((xs.size : Int) - 1 + (m : Int) * -1).toNat = xs.size - 1 - m := by omega
    rw [e1]
    simp [List.getD, Array.getElem?_eq_getElem (show xs.size - 1 - m < xs.size by omega)]
  rw [e]
  by_cases h : i < xs.size
  · rw [List.getElem?_map, List.getElem?_range h, List.getElem?_reverse (by simpa using h)]
    simp [List.getD, Array.getElem?_eq_getElem (show xs.size - 1 - i < xs.size by omega)]
  · rw [List.getElem?_eq_none (by simpa using h), List.getElem?_eq_none (by simpa using h)]
theorem rev_applied {sl : Addr} {t : Tok} {n : Nat} {Q : Int × Int × Nat → Shared → Prop} (hs : s.heap.IsSliceOf sl .none .none (.int (-1) t)) (h : Q ((n : Int) - 1, -1, n) s) :
    wpAny (model prog w) A (Builtin.Slice.sliceApplied (.ref sl) (pure (n : Int))) Q E s := by
  obtain ⟨os, hos, hcs, hds⟩ := id hs
  unfold Builtin.Slice.sliceApplied Builtin.Slice.sliceFields
  refine wpAny_bind (wpAny_bind (wpAny_field hos hds (x := .none) rfl (wpAny_bind (wpAny_field hos hds (x := .none) rfl (wpAny_bind (wpAny_field hos hds (x := .int (-1) t) rfl (wpAny_pure ?_)))))))
  refine wpAny_bind (slicePart_int ?_)
  show wpAny _ _ (if ((-1 : Int) == 0) = true then _ else _) _ _ s
  rw [if_neg (by decide)]
  refine wpAny_bind (slicePart_none (wpAny_bind (slicePart_none (wpAny_bind (wpAny_pure ?_)))))
  show wpAny _ _ (match Builtin.Slice.sliceAdjust none none (-1) (n : Int) with | (lo, hi) => pure (lo, (-1 : Int), Builtin.Slice.slicePlaces lo hi (-1))) _ _ s
  rw [rev_adjust n]
  show wpAny _ _ (pure ((n : Int) - 1, (-1 : Int), Builtin.Slice.slicePlaces ((n : Int) - 1) (-1) (-1))) _ _ s
  rw [rev_places]
  exact wpAny_pure h
theorem rev_item {t sl : Addr} {items : Array Value} {u : Tok} {Q : Value → Shared → Prop} (ht : IsTup s.heap t items) (hs : s.heap.IsSliceOf sl .none .none (.int (-1) u))
    (h : Q (.ref s.heap.objs.size) { s with heap := s.heap.push { cls := .type "tuple", data := .seq items.toList.reverse.toArray } }) (hsz : items.size ≤ sizeLine) : wpAny (model prog w) A (getItem (.ref t) (.ref sl)) Q E s := by
  have hok : sizeOk (.seq items.toList.reverse.toArray) := by
    show items.toList.reverse.toArray.size ≤ sizeLine
    rw [List.size_toArray, List.length_reverse, Array.length_toList]
    exact hsz
  have hT : s.TypeIs (.ref sl) "slice" := let ⟨os, h1, h2, _⟩ := hs; ⟨os, h1, h2⟩
  unfold getItem
  try with_reducible refine wpAny_holding ?_
  first | refine wpAny_bind (wpAny_pure ?_) | skip
  refine wpAny_bind (wpAny_sequenceKey ht.typeIs (by decide) (wpAny_bind (wpAny_callSpecial?_slot (name := Str.ofString "__getitem__") ht.typeIs PyProof.Rows.slot_tuple_getitem (wpAny_call_entry PyProof.Rows.slot_tuple_getitem ht.typeIs entry_tuple_getitem ?_ (args_tuple_getitem _ _)))))
  show wpAny _ _ (Builtin.Tuple.tupleItemsOf (.ref t) >>= _) _ _ s
  refine wpAny_bind (tupleItemsOf_ ht (wpAny_bind (wpAny_typeOf hT ?_)))
  rw [if_pos (by decide)]
  refine wpAny_bind (rev_applied hs ?_)
  have hno : ¬ ((((items.size : Int) - 1) == 0 && (-1 : Int) == 1 && items.size == items.size) = true) := by
    rw [Bool.and_eq_true, Bool.and_eq_true]
    rintro ⟨⟨_, q⟩, _⟩
    exact absurd q (by decide)
  show wpAny _ _ (if (((items.size : Int) - 1) == 0 && (-1 : Int) == 1 && items.size == items.size) = true then _ else _) _ _ s
  rw [if_neg hno, rev_pick]
  first
    | exact wpAny_bind (wpAny_bind (m := Builtin.Tuple.tupleExact _) (wpAny_newObj_type (wpAny_pure ⟨_, rfl, wpAny_pure h⟩) hok))
    | exact wpAny_bind (m := Builtin.Tuple.tupleExact _) (wpAny_newObj_type (wpAny_pure ⟨_, rfl, wpAny_pure h⟩) hok)
    | exact wpAny_bind (m := Builtin.Tuple.tupleExact _) (wpAny_newObj_type (wpAny_bind (wpAny_pure (wpAny_pure ⟨_, rfl, wpAny_pure h⟩))) hok)
    | exact wpAny_bind (wpAny_bind (m := Builtin.Tuple.tupleExact _) (wpAny_newObj_type (wpAny_pure (wpAny_pure ⟨_, rfl, wpAny_pure h⟩)) hok))
end
def tRevT (K : PySem.W.Frag) (te : TE) : TE := fun σ H Q => te σ H fun x H1 => ∃ a xs, x = .ref a ∧ SqT K H1 a xs ∧ ∀ p, H1 p = none → Q (.ref p) (upd H1 p (.tup xs.reverse))
theorem pe_revT {X : Cx} {e : Expr} {te : TE} {k : Nat} {p1 p2 p3 pos : Pos} (he : PE X e te) : PE X (.Subscript e (.Slice none none (some (.UnaryOp .USub (.Constant (.int 1) k p1) p2)) p3) pos) (tRevT X.K te) := by
  refine ⟨fun pins s σ H Q I h => Subscript_ (thn (he.run pins s σ H _ I h) fun v s1 ⟨x, H1, I1, r1, a, xs, ex, hx, q⟩ => ?_)⟩
  subst ex
  cases r1
  have hst : PO X (some (.UnaryOp .USub (.Constant (.int 1) k p1) p2)) (tPart (tUn (rU fun i => .int (-i)) (tC (.int 1)))) := po_some (pe_un un_neg pe_int)
  refine wpAny_Slice (thn (po_none.run pins s1 σ H1 (fun o H2 => o = none ∧ H2 = H1) I1 ⟨rfl, rfl⟩) fun vl s2 ⟨l, H2, I2, pl, el, e2⟩ => thn (po_none.run pins s2 σ H2 (fun o H3 => o = none ∧ H3 = H2) I2 ⟨rfl, rfl⟩) fun vu s3 ⟨u, H3, I3, pu, eu, e3⟩ => ?_)
  subst el e2 eu e3
  refine thn (hst.run pins s3 σ H3 (fun o H4 => o = some (-1) ∧ H4 = H3) I3 ⟨1, rfl, -1, rfl, rfl, rfl⟩) fun vs s4 ⟨o, H4, I4, ps, eo, e4⟩ => ?_
  subst eo e4
  cases pl
  cases pu
  cases ps with
  | int _ tk =>
  have I5 : Inv X pins σ H4 { s4 with heap := s4.heap.push { cls := .type "slice", data := .fields #[.none, .none, .int (-1) tk] } } := I4.kept (t' := s4.toks) fun b ob q => Heap.get?_push_of_some _ q
  obtain ⟨its, r, ht, hz⟩ := I5.tuple hx
  show wpAny (model X.prog X.w) X.A (subscriptTail e (.Slice none none (some (.UnaryOp .USub (.Constant (.int 1) k p1) p2)) p3) (.ref a) (.ref s4.heap.objs.size)) (EP X pins σ Q) X.xe { s4 with heap := s4.heap.push { cls := .type "slice", data := .fields #[.none, .none, .int (-1) tk] } }
  refine tail_any (ops := [.ref a, .ref s4.heap.objs.size]) ht.typeIs (PyProof.Rows.slot_tuple_getitem.lookup) ?_ (by with_unfolding_all rfl)
  refine rev_item ht (Heap.IsSliceOf.new _ .none .none (.int (-1) tk)) ?_ (by rw [List.size_toArray, ← r.length]; exact hz)
  refine ⟨.ref _, _, I5.laid (t' := s4.toks) (o := .tup xs.reverse) (fun b ob q => Heap.get?_push_of_some _ q) (Nat.le_refl _) ?_, rfl, q _ (I5.hok.fresh (Nat.le_refl _))⟩
  exact ⟨by rw [List.length_reverse]; exact hz, _, r.reverse, IsTup.new _ _⟩
end Zl
namespace Zl
open PySem PySem.Spec PyProof.Rows L2
/-! ### == and != by an own __eq__ -/
section
variable {prog : Program} {w : World} {A : Around} {E : Value → Shared → Prop} {s : Shared} {K : PySem.W.Frag} {x C L f : Addr} {h₀ : Heap} {m : Str → Option Value} {ox : Obj} {od : Option Obj} {b tb : Value}
theorem neCheck {M : Model} {Q : Unit → Shared → Prop} (hi : PySem.W.Looks M s.heap (isInstance (.ref x) (.type "object")) true) (hq : Q () s) : wpAny M A (checkBuiltinCall "object.__ne__" ⟨[.ref x, b], []⟩) Q E s := by
  have ha := PySem.F.cmpArgs_ne (.ref x) b
  simp only [checkBuiltinCall, PySem.F.cmpKind_ne, PySem.F.cmpSplit_ne]
  refine wpAny_bind (hi.here ?_)
  rw [if_neg (by decide)]
  cases hsig : Manifest.signature? "object.__ne__" with
  | none => exact wpAny_pure hq
  | some sig =>
    simp only [argsOk, hsig] at ha
    have h2 : Bind.checkArgs "object.__ne__" sig ⟨[.ref x, b], []⟩ = pure () := ha
    show wpAny M A (Bind.checkArgs "object.__ne__" sig ⟨[.ref x, b], []⟩) Q E _
    rw [h2]
    exact wpAny_pure hq
theorem neBound {M : Model} {args : List Value} {Q : Option Value → Shared → Prop} (X : K.In s.heap) (I : PySem.W.InstAt s.heap x ox C od) (hs : PySem.W.findIn K (.ref C) "__ne__" = some (some (.builtin "object.__ne__")))
    (h : wpAny M A (call (.builtin "object.__ne__") (.ref x :: args)) (fun v => Q (some v)) E s) : wpAny M A (callSpecialIfBound? (.ref x) "__ne__" args) Q E s := by
  simp only [callSpecialIfBound?, bindSpecialIfBound?]
  refine wpAny_holding (wpAny_bind (wpAny_bind (wpAny_bind (I.type.here ((PySem.W.looks_findIn X hs).here ?_)))))
  simp only [PySem.F.cmp_object.ne.bind]
  refine wpAny_bind (wpAny_askSetting (wpAny_ite ?_))
  have fin : wpAny M A (call (.builtin "object.__ne__") ([.ref x] ++ args) >>= fun v => pure (some v)) Q E s := wpAny_bind (wpAny_mono h (fun v s' h' => wpAny_pure h') fun _ _ h' => h')
  split
  · exact wpAny_bind (wpAny_pure (by exact wpAny_pure fin))
  · exact wpAny_tryCatch (wpAny_bind (wpAny_pure (by exact wpAny_pure fin)))
theorem neBody {Q : Fin → Shared → Prop} (X : K.In s.heap) (I : PySem.W.InstAt s.heap x ox C od) (hs : PySem.W.findIn K (.ref C) "__eq__" = some (some (.ref f))) (hf : PySem.W.isFn K (.ref f) = true) (hu : A.units < cLine)
    (h : wpAny (model prog w) A (call (.ref f) [.ref x, b]) (fun v s' => ∃ k, v = .bool k ∧ Q (.done (.ret (.bool (!k)))) s') E s) : wpAny (model prog w) A (Builtin.«object.__ne__» ⟨[.ref x, b], []⟩) Q E s := by
  unfold Builtin.«object.__ne__»
  repeat (first
    | with_reducible refine wpAny_cRoomFor hu ?_
    | (refine wpAny_bind (m := callSpecialIfBound? (.ref x) (Str.ofString "__eq__") [b])
        (PySem.W.ifBound_K X I hs hf (wpAny_mono h (fun r s' hr => by
          obtain ⟨k, rfl, hq⟩ := hr
          repeat (first | exact hq | exact wpAny_pure hq | exact wpAny_truthy_bool hq | (refine wpAny_bind (m := truthy (.bool _)) (wpAny_truthy_bool ?_)) | wp_step)) fun _ _ e => e)))
    | wp_step)
theorem ne_own {Q : Value → Shared → Prop} (hu : A.units + 1 < cLine) (F : Fr h₀ L s.heap m) (X₀ : K.In h₀) (I : PySem.W.InstAt s.heap x ox C od) (hb : PySem.W.Looks (model prog w) s.heap (typeOf b) tb) (hn : PySem.W.notFirst K C tb = true)
    (hne : PySem.W.findIn K (.ref C) "__ne__" = some (some (.builtin "object.__ne__"))) (hob : PySem.W.mroIn K C (.type "object") = some true) (hs : PySem.W.findIn K (.ref C) "__eq__" = some (some (.ref f))) (hf : PySem.W.isFn K (.ref f) = true)
    (h : wpAny (model prog w) A.in1 (call (.ref f) [.ref x, b]) (fun v s' => ∃ k, v = .bool k ∧ Q (.bool (!k)) s') E s) : wpAny (model prog w) A (richCompare .NotEq (.ref x) b) Q E s := by
  have X := X₀.keeps F.keep
  have one : wpAny (model prog w) A (tryCompare (.ref x) "__ne__" b) (fun r s' => ∃ v, r = some v ∧ Q v s') E s := by
    unfold tryCompare
    refine wpAny_bind (neBound X I hne (wpAny_call (codeAny_call_builtin PySem.F.cmp_object.ne.plain PySem.F.cmpEntry_ne (neCheck (I.type.andThen (PySem.W.looks_mroIn X hob)) (neBody (A := A.in1) X I hs hf (by have : A.in1.units = A.units + 1 := rfl; omega) (wpAny_mono h (fun v s' hv => ?_) fun _ _ e => e))))))
    obtain ⟨k, rfl, hq⟩ := hv
    exact ⟨k, rfl, wpAny_pure ⟨_, rfl, hq⟩⟩
  unfold richCompare
  simp only [oneThing_ref]
  refine wpAny_holding (wpAny_bind (wpAny_cRoomFor (by omega) ?_))
  rw [cmpInfo_NotEq]
  dsimp only
  refine wpAny_bind (I.type.here (wpAny_bind (hb.here ?_)))
  split
  · rename_i q
    have e : PySem.W.subIn K tb (.ref C) = some false := by
      rcases Bool.or_eq_true_iff.mp hn with e | e
      · rw [beq_iff_eq.mp e] at q; simp at q
      · exact beq_iff_eq.mp e
    refine wpAny_bind ((PySem.W.looks_subIn X e).here ?_)
    simp only [Bool.false_eq_true, if_false]
    refine wpAny_bind (wpAny_mono one (fun r s' ⟨v, e, hq⟩ => ?_) fun _ _ e => e)
    subst e
    exact wpAny_pure hq
  · refine wpAny_bind (wpAny_pure ?_)
    simp only [Bool.false_eq_true, if_false]
    refine wpAny_bind (wpAny_mono one (fun r s' ⟨v, e, hq⟩ => ?_) fun _ _ e => e)
    subst e
    exact wpAny_pure hq
end
/-- of two instances of the class at C -/
def rOwn (C : Addr) (g : Bool → Bool) (sp : Sp) : R2 := fun x y H Q => ∃ a b dx dy fs gs, x = .ref a ∧ y = .ref b ∧ H a = some (.ins C dx fs) ∧ H b = some (.ins C dy gs) ∧
  sp [x, y] H (fun v H' => ∃ k, v = .bl k ∧ Q (.bl (g k)) H') fun _ _ _ => False
structure NeC (K : PySem.W.Frag) (C : Addr) : Prop where
  n : PySem.W.findIn K (.ref C) "__ne__" = some (some (.builtin "object.__ne__"))
  m : PySem.W.mroIn K C (.type "object") = some true
section
variable {X : Cx} {k : Nat} {C f : Addr} {fd : FuncData} {ps : List Str} {sp : Sp}
theorem Inv.env1 {pins : List (Addr × Obj)} {s : Shared} {σ : L2.St} {H : Hp} (I : Inv X pins σ H s) : Env0 X.prog X.w X.K X.mg X.base X.A.in1 X.stack s H := by
  have e := I.env0
  exact ⟨e.frames, e.mod, e.bs, e.bsz, e.funs, e.frf, e.hok, e.bare⟩
theorem op_ownEq (F : FnOk X.prog X.w X.K X.mg X.base (L2N.CX X.prog X.w) k f fd ps sp) (hr : Room (k + 1) X.A) (hm : Meth X.K C "__eq__" f) (hb : Binds X.K fd ps []) : OpR X (compareOp .Eq) (rOwn C id sp) := by
  intro pins s σ H x y v u Q I rx ry h
  obtain ⟨a, b, dx, dy, fs, gs, rfl, rfl, ha, hb', hh⟩ := h
  cases rx
  cases ry
  obtain ⟨mA, J, _⟩ := ins_get I.hok ha
  obtain ⟨mB, J', _⟩ := ins_get I.hok hb'
  obtain ⟨od, J, _⟩ := J.look
  obtain ⟨od', J', _⟩ := J'.look
  obtain ⟨m, hF⟩ := I.fr
  unfold compareOp
  refine PySem.W.cmp_K (op := .Eq) (tb := .ref C) (hr.units0) hF I.ok.mod.kin J J'.type (by simp [PySem.W.notFirst]) hm.at_ hm.fn ?_
  refine wpAny_mono (run_fnS (us := [.ref a, .ref b]) (vs := [.ref a, .ref b]) (E := WE W0) F (hr.mono (by omega)) hb (L2N.passAt tk0 σ) I (.cons rfl (.cons rfl .nil)) hh) (fun r s' hq => ?_) fun _ _ z => z
  obtain ⟨v, H', I', rv, k, rfl, q⟩ := hq
  cases rv
  exact ⟨.bl k, H', I', rfl, q⟩
theorem op_ownNe (F : FnOk X.prog X.w X.K X.mg X.base (L2N.CX X.prog X.w) k f fd ps sp) (hr : Room (k + 1) X.A) (hm : Meth X.K C "__eq__" f) (hn : NeC X.K C) (hb : Binds X.K fd ps []) : OpR X (compareOp .NotEq) (rOwn C (!·) sp) := by
  intro pins s σ H x y v u Q I rx ry h
  obtain ⟨a, b, dx, dy, fs, gs, rfl, rfl, ha, hb', hh⟩ := h
  cases rx
  cases ry
  obtain ⟨mA, J, _⟩ := ins_get I.hok ha
  obtain ⟨mB, J', _⟩ := ins_get I.hok hb'
  obtain ⟨od, J, _⟩ := J.look
  obtain ⟨od', J', _⟩ := J'.look
  obtain ⟨m, hF⟩ := I.fr
  have hl := F.len _ _ _ _ hh
  unfold compareOp
  refine ne_own (by have := hr.un; omega) hF I.ok.mod.kin J J'.type (by simp [PySem.W.notFirst]) hn.n hn.m hm.at_ hm.fn ?_
  refine wpAny_call (codeAny_mono (F.run X.A.in1 X.stack s H ⟨[.ref a, .ref b], []⟩ [.ref a, .ref b] [.ref a, .ref b] _ (fun _ _ _ => False) hr.in1 (Inv.env1 I) (by
    have := hb s [.ref a, .ref b] I.kIn (by simpa using hl)
    simpa using this) (.cons rfl (.cons rfl .nil)) hh) fun r s' hq => ?_)
  cases r with
  | error e => exact L2N.passAt tk0 σ pins H s e s' I hq
  | ok fl =>
    cases fl with
    | ret w =>
      obtain ⟨z, H', I', rz, k, rfl, q⟩ := I.after hq
      cases rz
      exact ⟨k, rfl, .bl (!k), H', I', rfl, q⟩
    | next => exact False.elim hq
    | brk => exact False.elim hq
    | cont => exact False.elim hq
end
/-- the deep data is such an instance -/
def insOf (C : Addr) (M : MS) : D → Prop
  | .ins C' _ => C' = C
  | .v (.ref a) => ∃ dx fs, M a = some (.ins C dx fs)
  | _ => False
theorem insOf_rep {K : PySem.W.Frag} {w : W3} {C : Addr} {d : D} {x : V} (s : Ok K w) (r : Rep K w.F d x) (h : insOf C w.M d) : ∃ a dx fs, x = .ref a ∧ w.H a = some (.ins C dx fs) := by
  unfold insOf at h
  split at h
  · subst h
    obtain ⟨a, dx, ys, e, e2, _⟩ := r.ins_inv
    exact ⟨a, dx, ys, e, s.sub _ _ e2⟩
  · obtain ⟨dx, fs, e⟩ := h
    obtain ⟨o, e1, e2⟩ := s.mu _ _ e
    cases e2 with
    | ins r' => exact ⟨_, dx, _, r.v_inv, e1⟩
  · exact h.elim
def zOwn (C : Addr) (g : Bool → Bool) (zp : ZSp) : ZR2 := fun d e M Q => insOf C M d ∧ insOf C M e ∧ zp [d, e] M (fun r M' => ∃ k, r = .v (.bl k) ∧ Q (.v (.bl (g k))) M') fun _ _ _ => False
theorem lr_own {K : PySem.W.Frag} {C : Addr} {g : Bool → Bool} {zp : ZSp} : LR2 K (rOwn C g (spOf K zp)) (zOwn C g zp) := fun w x y d e Qz Q s rx ry c h => by
  obtain ⟨h1, h2, q⟩ := h
  obtain ⟨a, dx, fs, rfl, ea⟩ := insOf_rep s rx h1
  obtain ⟨b, dy, gs, rfl, eb⟩ := insOf_rep s ry h2
  refine ⟨a, b, dx, dy, fs, gs, rfl, rfl, ea, eb, w, [d, e], _, _, rfl, s, .cons rx (.cons ry .nil), fun u f v lu su r ⟨k, e1, q1⟩ => ?_, fun u C' d' fs' lu su r z => z, q⟩
  subst e1
  exact ⟨k, r.v_inv, c u _ _ lu su (.v _) q1⟩
section
variable {X : Cx} {k : Nat} {C : Addr} {ps : List Str} {zp : ZSp}
theorem zc_eq (d : MethAt X.prog X.w X.K X.mg X.base k C "__eq__" ps zp) (hr : Room (k + 1) X.A) : OpR X (compareOp .Eq) (rOwn C id (spOf X.K zp)) :=
  let ⟨_, _, F, a, b⟩ := d.ex; op_ownEq F hr a b
theorem zc_ne (d : MethAt X.prog X.w X.K X.mg X.base k C "__eq__" ps zp) (hr : Room (k + 1) X.A) (hn : NeC X.K C) : OpR X (compareOp .NotEq) (rOwn C (!·) (spOf X.K zp)) :=
  let ⟨_, _, F, a, b⟩ := d.ex; op_ownNe F hr a hn b
end
end Zl
namespace Zl
open PySem PySem.Spec PyProof.Rows L2
abbrev rAbs : List V → Hp → VK → Prop := fun xs H Q => ∃ i, xs = [.int i] ∧ Q (.int (if i < 0 then -i else i)) H
abbrev rInt1 : List V → Hp → VK → Prop := fun xs H Q => (∃ i, xs = [.int i] ∧ Q (.int i) H) ∨ ∃ k, xs = [.bl k] ∧ Q (.int (if k then 1 else 0)) H
abbrev rMax2 : List V → Hp → VK → Prop := fun xs H Q => ∃ i j, xs = [.int i, .int j] ∧ Q (.int (if j > i then j else i)) H
abbrev rMin2 : List V → Hp → VK → Prop := fun xs H Q => ∃ i j, xs = [.int i, .int j] ∧ Q (.int (if j < i then j else i)) H
abbrev rTuple (K : PySem.W.Frag) : List V → Hp → VK → Prop := fun xs H Q => ∃ p ys, xs = [.ref p] ∧ ((SqL K H p ys ∧ ∀ l, H l = none → Q (.ref l) (upd H l (.tup ys))) ∨ (SqT K H p ys ∧ Q (.ref p) H))
abbrev rListOf (K : PySem.W.Frag) : List V → Hp → VK → Prop := fun xs H Q => ∃ p ys, xs = [.ref p] ∧ (SqL K H p ys ∨ SqT K H p ys) ∧ ∀ l, H l = none → Q (.ref l) (upd H l (.lst ys))
def zYes : ZT := fun _ M Q => Q true M
section
variable {K : PySem.W.Frag} {w0 : W3} {t u : TE} {z zv : ZE}
theorem lt_yes : LT K w0 tYes zYes := fun w σ δ Qz Q _ s rs c h => c w true (Nx.rf w) s h
/-! ### isinstance of what is caught, its class told by the wish -/
def rIsXc (K : PySem.W.Frag) (cls : Value) (D a : Addr) (d : Option Addr) : List V → Hp → VK → Prop := fun xs H Q => cls = .ref D ∧ rIsX K D a d xs H Q
theorem call_isXc {X : Cx} {a D : Addr} {oe : Obj} {cls : Value} {d : Option Addr} {pn : List (Addr × Obj)} (C : XcC X.K D) (hz : Zc cls d oe) (hf : ∃ vs, oe.data = .fields vs) : CallR (X.suite a ((a, oe) :: pn)) (.builtin "isinstance") (rIsXc X.K cls D a d) := by
  intro pins s σ H xs us Q I r ⟨e, hh⟩
  subst e
  exact call_isX C hz hf pins s σ H xs us Q I r hh
def zIsXc (K : PySem.W.Frag) (C D a : Addr) : ZRA := fun ds M Q => C = D ∧ zIsX K D a ds M Q
theorem le_isXc {D a C : Addr} {d : Option Addr} {fs : List (Str × Zl.D)} {aa : TA} {za : ZA} (rx : XRep K w0.F d fs) (h1 : LA K w0 aa za) : LE K w0 (tCB (rIsXc K (.ref C) D a d) aa) (zCB (zIsXc K C D a) za) := fun w σ δ Qz Q l s rs c h =>
  h1 w σ δ _ _ l s rs (fun u ds xs lu su r ⟨h2, h3⟩ => by
    subst h2
    unfold zIsX at h3
    split at h3
    · obtain ⟨rfl, v, k, e1, e2, q⟩ := h3
      cases r with
      | cons r1 r => cases r with
        | cons r2 r =>
          cases r
          refine ⟨rfl, _, v, k, by rw [r1.v_inv], clD_rep r2 e1, e2, ?_, (c.le lu).go su (.v _) q⟩
          cases rx with
          | none => exact .inl rfl
          | some hF rF => exact .inr ⟨_, _, rfl, su.sub _ _ ((l.tr lu).le _ _ hF)⟩
    · exact h3.elim) h
/-! ### t[::-1] -/
def zRevT (z : ZE) : ZE := fun δ M Q => z δ M fun d M1 => match d with | .tup ds => Q (.tup ds.reverse) M1 | _ => False
theorem reps_rev {F : Hp} : ∀ {ds : List D} {xs : List V}, Reps K F ds xs → Reps K F ds.reverse xs.reverse
  | _, _, .nil => .nil
  | _, _, .cons a r => by
    rw [List.reverse_cons, List.reverse_cons]
    exact (reps_rev r).snoc a
theorem le_revT (h1 : LE K w0 t z) : LE K w0 (tRevT K t) (zRevT z) := fun w σ δ Qz Q l s rs c h =>
  h1 w σ δ _ _ l s rs (fun u d x lu su r h2 => by
    cases d with
    | tup ds =>
      obtain ⟨a, xs, rfl, q, r'⟩ := r.tup_inv
      exact ⟨a, xs, rfl, sqT_le su.sub q, fun p hp => (c.le lu).new su hp (.tup upd_same ((reps_rev r').le (Le.put (su.nF hp)))) h2⟩
    | _ => exact h2.elim) h
/-! ### dict displays -/
/-! what was changed is data from now on -/
theorem settled {K : PySem.W.Frag} {u : W3} {p : Addr} {m : MO} {o o' : HO} (s : Ok K u) (e : u.M p = some m) (hH : u.H p = some o) : Nx u ⟨upd u.F p o', mdel u.M p, upd u.H p o'⟩ ∧ Ok K ⟨upd u.F p o', mdel u.M p, upd u.H p o'⟩ := by
  have hF : u.F p = none := by
    cases e2 : u.F p with
    | none => rfl
    | some o => rw [s.dis _ _ e2] at e; cases e
  refine ⟨⟨Le.put hF, fun b v eb _ n => ?_⟩, fun b v eb => ?_, fun b v eb => ?_, fun b v eb => ?_⟩
  · have nb : b ≠ p := fun q => by rw [q, e] at n; cases n
    refine ⟨by show upd u.H p _ b = _; rw [upd_ne nb]; exact eb, ?_, fun f => ?_⟩
    · show (if b = p then none else u.M b) = none
      rw [if_neg nb]; exact n
    · show upd u.F p _ b = none
      rw [upd_ne nb]; exact f
  · have eb' : upd u.F p o' b = some v := eb
    show upd u.H p o' b = some v
    by_cases q : b = p
    · subst q; rw [upd_same] at eb' ⊢; exact eb'
    · rw [upd_ne q] at eb' ⊢; exact s.sub _ _ eb'
  · have eb' : upd u.F p o' b = some v := eb
    show (if b = p then none else u.M b) = none
    by_cases q : b = p
    · rw [if_pos q]
    · rw [upd_ne q] at eb'; rw [if_neg q]; exact s.dis _ _ eb'
  · have eb' : (if b = p then none else u.M b) = some v := eb
    by_cases q : b = p
    · rw [if_pos q] at eb'; cases eb'
    · rw [if_neg q] at eb'
      obtain ⟨o2, e3, e4⟩ := s.mu _ _ eb'
      exact ⟨o2, by show upd u.H p o' b = _; rw [upd_ne q]; exact e3, e4.le (Le.put hF)⟩
/-- a dict: locked for good -/
def tLk (t : TE) : TE := fun σ H Q => t σ H fun x H1 => ∃ d kvs, x = .ref d ∧ H1 d = some (.dK kvs) ∧ ∀ od, Q x (upd H1 d (.frz od (.dK kvs)))
theorem pe_lk {X : Cx} {e : Expr} {t : TE} (h : PE X e t) : PE X e (tLk t) := ⟨fun pins s σ H Q I hw => thn (h.run pins s σ H _ I hw) fun v s1 ⟨x, H1, I1, r, d, kvs, ex, hd, q⟩ => by
  obtain ⟨od, I2⟩ := I1.lock hd True.intro
  exact ⟨x, _, I2, r, q od⟩⟩
def zLk (z : ZE) : ZE := fun δ M Q => z δ M fun d M1 => match d with
  | .v (.ref a) => ∃ kvs, M1 a = some (.dct kvs) ∧ Q (.dct kvs) (mdel M1 a)
  | _ => False
theorem le_lk {K : PySem.W.Frag} {w0 : W3} {t : TE} {z : ZE} (h1 : LE K w0 t z) : LE K w0 (tLk t) (zLk z) := fun w σ δ Qz Q l s rs c h =>
  h1 w σ δ _ _ l s rs (fun u d x lu su r h2 => by
    split at h2
    · rename_i a
      obtain ⟨kvs, e1, q⟩ := h2
      obtain ⟨o, e2, e3⟩ := su.mu _ _ e1
      cases e3 with
      | @dct _ xs rr =>
        refine ⟨a, xs, r.v_inv, e2, fun od => ?_⟩
        obtain ⟨n1, s1⟩ := settled (o' := .frz od (.dK xs)) su e1 e2
        have ex := r.v_inv
        subst ex
        exact c ⟨upd u.F a (.frz od (.dK xs)), mdel u.M a, upd u.H a (.frz od (.dK xs))⟩ _ _ (lu.tr n1) s1 (.dct upd_same (rr.le n1.le)) q
    · exact h2.elim) h
def zDnewM : ZE := fun δ M Q => ∀ p, M p = none → Q (.v (.ref p)) (mput M p (.dct []))
theorem le_dnewM : LE K w0 tDNewK zDnewM := fun w σ δ Qz Q l s rs c h => fun p hp => c.alloc s hp (.dct .nil) (h p (s.nM hp))
def zDnew : ZE := fun δ M Q => Q (.dct []) M
theorem mdel_mput' {M : MS} {p : Addr} {m : MO} (h : M p = none) : mdel (mput M p m) p = M := by
  funext b
  show (if b = p then none else if b = p then _ else _) = M b
  split
  · rename_i e; rw [e, h]
  · rfl
theorem le_dnew : LE K w0 (tLk tDNewK) zDnew := fun w σ δ Qz Q l s rs c h => le_lk le_dnewM w σ δ Qz Q l s rs c fun p hp => ⟨[], mput_same, by rw [mdel_mput' hp]; exact h⟩
def tD1 (k : Int) (t : TE) : TE := tDisp [(tC (.int k), t)]
theorem zp_d1 {X : Cx} {k : Int} {kk : Nat} {p0 pos : Pos} {v : Expr} (hv : PE X v t) : PE X (.Dict [some (.Constant (.int k) kk p0)] [v] pos) (tD1 k t) := pe_disp (pps_cons pe_int hv pps_nil) rfl rfl (by simp) (by simp)
def zD1M (k : Int) (z : ZE) : ZE := fun δ M Q => ∀ p, M p = none → z δ (mput M p (.dct [])) fun d M1 => M1 p = some (.dct []) ∧ Q (.v (.ref p)) (mput M1 p (.dct [(.inl k, d)]))
theorem le_d1M {k : Int} (h1 : LE K w0 t z) : LE K w0 (tD1 k t) (zD1M k z) := fun w σ δ Qz Q l s rs c h => fun p hp => by
  have la : Nx w ⟨w.F, mput w.M p (.dct []), upd w.H p (.dK [])⟩ := nx_alloc s hp
  have sa : Ok K ⟨w.F, mput w.M p (.dct []), upd w.H p (.dK [])⟩ := Sim.alloc s hp (.dct .nil)
  refine h1 ⟨w.F, mput w.M p (.dct []), upd w.H p (.dK [])⟩ σ δ _ _ (l.tr la) sa (rs.le la.le) (fun u d x lu su r ⟨e1, q⟩ => ?_) (h p (s.nM hp))
  obtain ⟨o, e2, e3⟩ := su.mu _ _ e1
  cases e3 with
  | dct r0 =>
    cases r0
    refine ⟨e2, [(.inl k, x)], rfl, by simp, ?_⟩
    have l1 : Nx u ⟨u.F, mput u.M p (.dct [(.inl k, d)]), upd u.H p (.dK [(.inl k, x)])⟩ := nx_write e1
    exact c ⟨u.F, mput u.M p (.dct [(.inl k, d)]), upd u.H p (.dK [(.inl k, x)])⟩ _ _ (la.tr (lu.tr l1)) (Sim.write su e1 (.dct (.cons r .nil))) (.v _) q
def zD1 (k : Int) (z : ZE) : ZE := zLk (zD1M k z)
theorem le_d1 {k : Int} (h1 : LE K w0 t z) : LE K w0 (tLk (tD1 k t)) (zD1 k z) := le_lk (le_d1M h1)
theorem mdel_mputA {M : MS} {p : Addr} {m : MO} : mdel (mput M p m) p = mdel M p := by
  funext b
  show (if b = p then none else if b = p then _ else _) = (if b = p then none else _)
  split <;> rfl
/-! ### tuple(range(..)), list(range(..)) -/
def rgD (a b : Int) : List D := (List.range (b - a).toNat).map fun i => .v (.int (a + (i : Nat)))
theorem rg_reps {F : Hp} (a b : Int) : Reps K F (rgD a b) (rgV a b) := by
  unfold rgD rgV
  induction List.range (b - a).toNat with
  | nil => exact .nil
  | cons i r ih => exact .cons (.v _) ih
def zTupRg1 (z : ZE) : ZE := fun δ M Q => z δ M fun d M1 => match d with | .v (.int j) => RgOk 0 j ∧ Q (.tup (rgD 0 j)) M1 | _ => False
def zTupRg2 (z zv : ZE) : ZE := fun δ M Q => z δ M fun d M1 => zv δ M1 fun e M2 => match d, e with | .v (.int i), .v (.int j) => RgOk i j ∧ Q (.tup (rgD i j)) M2 | _, _ => False
def zLstRg1M (z : ZE) : ZE := fun δ M Q => z δ M fun d M1 => match d with | .v (.int j) => RgOk 0 j ∧ ∀ p, M1 p = none → Q (.v (.ref p)) (mput M1 p (.lst (rgD 0 j))) | _ => False
def zLstRg1 (z : ZE) : ZE := fun δ M Q => z δ M fun d M1 => match d with | .v (.int j) => RgOk 0 j ∧ Q (.lst (rgD 0 j)) M1 | _ => False
theorem le_tupRg1 (h1 : LE K w0 t z) : LE K w0 (tTupRg (tRg1 t)) (zTupRg1 z) := fun w σ δ Qz Q l s rs c h =>
  h1 w σ δ _ _ l s rs (fun u d x lu su r h2 => by
    split at h2
    · obtain ⟨g, q⟩ := h2
      exact ⟨_, r.v_inv, g, fun p hp => (c.le lu).new su hp (.tup upd_same ((rg_reps _ _).le (Le.put (su.nF hp)))) q⟩
    · exact h2.elim) h
theorem le_lstRg1 (h1 : LE K w0 t z) : LE K w0 (tLstRg (tRg1 t)) (zLstRg1 z) := fun w σ δ Qz Q l s rs c h =>
  h1 w σ δ _ _ l s rs (fun u d x lu su r h2 => by
    split at h2
    · obtain ⟨g, q⟩ := h2
      exact ⟨_, r.v_inv, g, fun p hp => (c.le lu).new su hp (.lst upd_same ((rg_reps _ _).le (Le.put (su.nF hp)))) q⟩
    · exact h2.elim) h
theorem le_lstRg1M (h1 : LE K w0 t z) : LE K w0 (tLstRg (tRg1 t)) (zLstRg1M z) := fun w σ δ Qz Q l s rs c h =>
  h1 w σ δ _ _ l s rs (fun u d x lu su r h2 => by
    split at h2
    · obtain ⟨g, q⟩ := h2
      exact ⟨_, r.v_inv, g, fun p hp => (c.le lu).alloc su hp (.lst (rg_reps _ _)) (q p (su.nM hp))⟩
    · exact h2.elim) h
theorem le_tupRg2 (h1 : LE K w0 t z) (h2 : LE K w0 u zv) : LE K w0 (tTupRg (tRg2 t u)) (zTupRg2 z zv) := fun w σ δ Qz Q l s rs c h =>
  h1 w σ δ _ _ l s rs (fun u1 d x lu su r h3 => h2 u1 σ δ _ _ (l.tr lu) su (rs.le lu.le) (fun u2 e y lv sv ry h4 => by
    split at h4
    · obtain ⟨g, q⟩ := h4
      exact ⟨_, _, r.v_inv, ry.v_inv, g, fun p hp => (c.le (lu.tr lv)).new sv hp (.tup upd_same ((rg_reps _ _).le (Le.put (sv.nF hp)))) q⟩
    · exact h4.elim) h3) h
/-! ### is True, is not True -/
def zIsB (g : Bool → Bool) : ZR2 := fun d e M Q => match d, e with | .v (.bl a), .v (.bl b) => Q (.v (.bl (g (decide (a = b))))) M | _, _ => False
theorem lr_isBl : LR2 K rIsB (zIsB id) := fun w x y d e Qz Q s rx ry c h => by
  unfold zIsB at h
  split at h
  · exact ⟨_, _, rx.v_inv, ry.v_inv, c.go s (.v _) h⟩
  · exact h.elim
theorem lr_notBl : LR2 K rNotB (zIsB (!·)) := fun w x y d e Qz Q s rx ry c h => by
  unfold zIsB at h
  split at h
  · exact ⟨_, _, rx.v_inv, ry.v_inv, c.go s (.v _) h⟩
  · exact h.elim
end
end Zl
namespace Zl
open PySem PySem.Spec PyProof.Rows L2

/-! ### words for the z-proofs -/
def onB (d : D) (f : Bool → Prop) : Prop := match d with | .v (.bl b) => f b | _ => False
theorem onB_bl {b : Bool} {f : Bool → Prop} : onB (.v (.bl b)) f = f b := rfl
section
variable {δ : ZSt} {M : MS} {Q : ZQ} {z w : ZE} {QT : Bool → MS → Prop} {zt wt : ZT}
theorem e_bT : bT z δ M QT = z δ M fun d M1 => onB d fun b => QT b M1 := by
  unfold bT onB
  congr 1
theorem e_andV : zAndV z w δ M Q = z δ M fun d M1 => onB d fun b => if b = true then w δ M1 Q else Q (.v (.bl false)) M1 := by
  unfold zAndV onB
  congr 1
  funext d M1
  split
  · exact (if_pos rfl).symm
  · exact (if_neg Bool.false_ne_true).symm
  · rename_i h1 h2
    split
    · rename_i b
      cases b
      · exact (h2 rfl).elim
      · exact (h1 rfl).elim
    · rfl
theorem e_orV : zOrV z w δ M Q = z δ M fun d M1 => onB d fun b => if b = true then Q (.v (.bl true)) M1 else w δ M1 Q := by
  unfold zOrV onB
  congr 1
  funext d M1
  split
  · exact (if_pos rfl).symm
  · exact (if_neg Bool.false_ne_true).symm
  · rename_i h1 h2
    split
    · rename_i b
      cases b
      · exact (h2 rfl).elim
      · exact (h1 rfl).elim
    · rfl
theorem e_notV : zNotV z δ M Q = z δ M fun d M1 => onB d fun b => Q (.v (.bl (!b))) M1 := by
  unfold zNotV onB
  congr 1
theorem e_chain {r r' : ZR2} {a b c : ZE} : zChain r r' a b c δ M Q = a δ M fun d M1 => b δ M1 fun e M2 => r d e M2 fun k M3 => onB k fun b => if b = true then c δ M3 fun f M4 => r' e f M4 Q else Q (.v (.bl false)) M3 := by
  unfold zChain onB
  congr 1
  funext d M1
  congr 1
  funext e M2
  congr 1
  funext k M3
  split
  · exact (if_pos rfl).symm
  · exact (if_neg Bool.false_ne_true).symm
  · rename_i h1 h2
    split
    · rename_i b
      cases b
      · exact (h2 rfl).elim
      · exact (h1 rfl).elim
    · rfl
theorem e_I0 {g : Int → Int → V} {i j : Int} : zI0 g (.v (.int i)) (.v (.int j)) M Q = Q (.v (g i j)) M := rfl
theorem e_I {C : Int → Int → Prop} {g : Int → Int → V} {i j : Int} : zI C g (.v (.int i)) (.v (.int j)) M Q = (C i j ∧ Q (.v (g i j)) M) := rfl
theorem e_U {g : Int → V} {i : Int} : zU g (.v (.int i)) M Q = Q (.v (g i)) M := rfl
theorem e_addI {i j : Int} : zAdd (.v (.int i)) (.v (.int j)) M Q = Q (.v (.int (i + j))) M := rfl
theorem e_addS {i j : Str} : zAdd (.v (.str i)) (.v (.str j)) M Q = (i.length + j.length ≤ sizeLine ∧ Q (.v (.str (i ++ j))) M) := rfl
theorem e_addT {i j : List D} : zAdd (.tup i) (.tup j) M Q = (i.length + j.length ≤ sizeLine ∧ Q (.tup (i ++ j)) M) := rfl
theorem e_addL {i j : List D} : zAdd (.lst i) (.lst j) M Q = (i.length + j.length ≤ sizeLine ∧ Q (.lst (i ++ j)) M) := rfl
theorem e_mulI {i j : Int} : zMul (.v (.int i)) (.v (.int j)) M Q = ((CMul i j ∨ CMulW i j) ∧ Q (.v (.int (i * j))) M) := rfl
theorem e_mulL {ds : List D} {k : Int} : zMul (.lst ds) (.v (.int k)) M Q = (0 ≤ k ∧ k < 2 ^ 63 ∧ ds.length * k.toNat ≤ sizeLine ∧ Q (.lst (List.replicate k.toNat ds).flatten) M) := rfl
theorem e_mulT {ds : List D} {k : Int} : zMul (.tup ds) (.v (.int k)) M Q = (ds ≠ [] ∧ 2 ≤ k ∧ k ≤ 1000 ∧ ds.length ≤ 1000 ∧ Q (.tup (List.replicate k.toNat ds).flatten) M) := rfl
theorem e_ixT {ds : List D} {i : Int} : zIx (.tup ds) (.v (.int i)) M Q = ∃ f, atI ds i = some f ∧ Q f M := by
  show (∃ ds' f, seqOf M (.tup ds) = some ds' ∧ atI ds' i = some f ∧ Q f M) = _
  simp [seqOf]
theorem e_ixL {ds : List D} {i : Int} : zIx (.lst ds) (.v (.int i)) M Q = ∃ f, atI ds i = some f ∧ Q f M := by
  show (∃ ds' f, seqOf M (.lst ds) = some ds' ∧ atI ds' i = some f ∧ Q f M) = _
  simp [seqOf]
theorem e_ixM {a : Addr} {i : Int} : zIx (.v (.ref a)) (.v (.int i)) M Q = ∃ ds, M a = some (.lst ds) ∧ ∃ f, atI ds i = some f ∧ Q f M := by
  show (∃ ds' f, seqOf M (.v (.ref a)) = some ds' ∧ atI ds' i = some f ∧ Q f M) = _
  unfold seqOf
  cases e : M a with
  | none => simp [e]
  | some o => cases o <;> simp [e]
theorem e_setM {a : Addr} {k : Int} {d : D} {Qn : MS → Prop} : zSetL (.v (.ref a)) (.v (.int k)) d M Qn = ∃ ds, M a = some (.lst ds) ∧ ∃ j, ixN ds.length k = some j ∧ Qn (mput M a (.lst (ds.set j d))) := by
  show (∃ ds j, M a = some (.lst ds) ∧ ixN ds.length k = some j ∧ Qn (mput M a (.lst (ds.set j d)))) = _
  simp only [exists_and_left]
theorem e_isN {d : D} : zIsN d (.v .non) M Q = Q (.v (.bl (isNon d))) M := rfl
theorem e_isNotN {d : D} : zIsNotN d (.v .non) M Q = Q (.v (.bl (!isNon d))) M := rfl
theorem e_eqI {i j : Int} : zEq (.v (.int i)) (.v (.int j)) M Q = Q (.v (.bl (decide (i = j)))) M := by
  have e : eqD (.v (.int i)) (.v (.int j)) = decide (i = j) := by
    unfold eqD toPy
    show (i == j) = decide (i = j)
    by_cases h : i = j
    · simp [h]
    · simp [h]
  unfold zEq okD
  rw [e]
  have sh : ∀ n : Int, SeqAt.shaped (PyData.int n) = true := fun n => rfl
  simp [plD, toPy, sh]
theorem e_neI {i j : Int} : zNe (.v (.int i)) (.v (.int j)) M Q = Q (.v (.bl (!decide (i = j)))) M := by
  have e : eqD (.v (.int i)) (.v (.int j)) = decide (i = j) := by
    unfold eqD toPy
    show (i == j) = decide (i = j)
    by_cases h : i = j
    · simp [h]
    · simp [h]
  unfold zNe okD
  rw [e]
  have sh : ∀ n : Int, SeqAt.shaped (PyData.int n) = true := fun n => rfl
  simp [plD, toPy, sh]
theorem e_lenT {ds : List D} : zLen [.tup ds] M Q = Q (.v (.int ds.length)) M := by
  show (∃ n, (seqOf M (.tup ds)).map List.length = some n ∧ _) = _
  simp [seqOf]
theorem e_lenL {ds : List D} : zLen [.lst ds] M Q = Q (.v (.int ds.length)) M := by
  show (∃ n, (seqOf M (.lst ds)).map List.length = some n ∧ _) = _
  simp [seqOf]
theorem e_lenR {ds : List D} : zLen [.rd ds] M Q = Q (.v (.int ds.length)) M := by
  show (∃ n, (seqOf M (.rd ds)).map List.length = some n ∧ _) = _
  simp [seqOf]
theorem e_intI {i : Int} : zInt [.v (.int i)] M Q = Q (.v (.int i)) M := rfl
theorem e_absI {i : Int} : zAbs [.v (.int i)] M Q = Q (.v (.int (if i < 0 then -i else i))) M := rfl
theorem e_tupL {ds : List D} : zTuple [.lst ds] M Q = Q (.tup ds) M := by
  show (∃ es, seqOf M (.lst ds) = some es ∧ _) = _
  simp [seqOf]
theorem e_tupT {ds : List D} : zTuple [.tup ds] M Q = Q (.tup ds) M := by
  show (∃ es, seqOf M (.tup ds) = some es ∧ _) = _
  simp [seqOf]
theorem e_lstL {ds : List D} : zList [.lst ds] M Q = Q (.lst ds) M := by
  show (∃ es, seqOf M (.lst ds) = some es ∧ _) = _
  simp [seqOf]
theorem e_lstT {ds : List D} : zList [.tup ds] M Q = Q (.lst ds) M := by
  show (∃ es, seqOf M (.tup ds) = some es ∧ _) = _
  simp [seqOf]
theorem e_gtup {n : Nat} {gs : ZGs} {ds : List D} {Qn : ZSt → MS → Prop} : zgTup n gs (.tup ds) δ M Qn = (ds.length = n ∧ gs ds δ M Qn) := rfl
theorem e_gcons {g : ZG} {gs : ZGs} {d : D} {ds : List D} {Qn : ZSt → MS → Prop} : zgCons g gs (d :: ds) δ M Qn = g d δ M fun δ1 M1 => gs ds δ1 M1 Qn := rfl
theorem e_gnil {Qn : ZSt → MS → Prop} : zgNil [] δ M Qn = Qn δ M := rfl
theorem e_par {i j : Nat} {za : ZA} {D : ZEnds} : zPar i j za D δ M = za δ M fun ds M1 => ∃ d e, ds = [d, e] ∧ D.nx ((δ.set i (some d)).set j (some e)) M1 := by
  unfold zPar
  congr 1
  funext ds M1
  match ds with
  | [] => simp
  | [a] => simp
  | [a, b] => exact propext ⟨fun h => ⟨a, b, rfl, h⟩, fun ⟨_, _, e, h⟩ => by cases e; exact h⟩
  | a :: b :: c :: r => simp
theorem e_par3 {i j k : Nat} {za : ZA} {D : ZEnds} : zPar3 i j k za D δ M = za δ M fun ds M1 => ∃ d e f, ds = [d, e, f] ∧ D.nx (((δ.set i (some d)).set j (some e)).set k (some f)) M1 := by
  unfold zPar3
  congr 1
  funext ds M1
  match ds with
  | [] => simp
  | [a] => simp
  | [a, b] => simp
  | [a, b, c] => exact propext ⟨fun h => ⟨a, b, c, rfl, h⟩, fun ⟨_, _, _, e, h⟩ => by cases e; exact h⟩
  | a :: b :: c :: d :: r => simp
theorem zat_nat {α : Type} {xs : List α} {j : Nat} : atI xs (j : Int) = xs[j]? := by
  unfold atI ixN
  rw [if_pos (by omega)]
  by_cases h : (j : Int) < xs.length
  · rw [if_pos h]
    rfl
  · rw [if_neg h, List.getElem?_eq_none (by omega)]
    rfl
theorem ixN_nat {n j : Nat} (h : j < n) : ixN n (j : Int) = some j := by
  unfold ixN
  rw [if_pos (by omega), if_pos (by omega)]
  rfl
section
variable {α : Type} {a b c d e f : α} {r : List α}
theorem e_at0 : atI (a :: r) 0 = some a := by rw [show (0 : Int) = ((0 : Nat) : Int) from rfl, zat_nat] <;> rfl
theorem e_at1 : atI (a :: b :: r) 1 = some b := by rw [show (1 : Int) = ((1 : Nat) : Int) from rfl, zat_nat] <;> rfl
theorem e_at2 : atI (a :: b :: c :: r) 2 = some c := by rw [show (2 : Int) = ((2 : Nat) : Int) from rfl, zat_nat] <;> rfl
theorem e_at3 : atI (a :: b :: c :: d :: r) 3 = some d := by rw [show (3 : Int) = ((3 : Nat) : Int) from rfl, zat_nat] <;> rfl
theorem e_at4 : atI (a :: b :: c :: d :: e :: r) 4 = some e := by rw [show (4 : Int) = ((4 : Nat) : Int) from rfl, zat_nat] <;> rfl
theorem e_at5 : atI (a :: b :: c :: d :: e :: f :: r) 5 = some f := by rw [show (5 : Int) = ((5 : Nat) : Int) from rfl, zat_nat] <;> rfl
theorem e_atn : atI r (-1) = if r = [] then none else r[r.length - 1]? := by
  unfold atI ixN
  rw [if_neg (by omega)]
  cases r with
  | nil => rfl
  | cons a r =>
    rw [if_pos (by simp; omega), if_neg (by simp)]
    show ((a :: r)[((-1 : Int) + ((a :: r).length : Nat)).toNat]?) = _
    congr 1
    simp
    omega
theorem e_set0 {n : Nat} : ixN (n + 1) 0 = some 0 := ixN_nat (j := 0) (by omega)
theorem e_set1 {n : Nat} : ixN (n + 2) 1 = some 1 := ixN_nat (j := 1) (by omega)
theorem e_set2 {n : Nat} : ixN (n + 3) 2 = some 2 := ixN_nat (j := 2) (by omega)
theorem e_set3 {n : Nat} : ixN (n + 4) 3 = some 3 := ixN_nat (j := 3) (by omega)
theorem e_set4 {n : Nat} : ixN (n + 5) 4 = some 4 := ixN_nat (j := 4) (by omega)
end
end

/-! ### loops -/
section
variable {g : ZG} {b : ZS} {D : ZEnds} {ds : List Zl.D}
/-- a for loop, what holds told by the place -/
theorem zloop (I : Nat → ZSt → MS → Prop) (step : ∀ i d δ M (k : ZSt → MS → Prop), ds[i]? = some d → I i δ M → (∀ δ M, I (i + 1) δ M → k δ M) → g d δ M fun δ1 M1 => b { D with nx := k, ct := k, bk := D.nx } δ1 M1)
    (fin : ∀ δ M, I ds.length δ M → D.nx δ M) {δ : ZSt} {M : MS} (h0 : I 0 δ M) : zLoop g b D ds δ M := by
  have go : ∀ (r : List Zl.D) (i : Nat), ds.drop i = r → i ≤ ds.length → ∀ δ M, I i δ M → zLoop g b D r δ M := by
    intro r
    induction r with
    | nil =>
      intro i e hi δ M h
      have : ds.length ≤ i := List.drop_eq_nil_iff.mp e
      have : i = ds.length := by omega
      subst this
      exact fin δ M h
    | cons d r ih =>
      intro i e hi δ M h
      have hd : ds[i]? = some d := by
        have := congrArg (fun l : List Zl.D => l[0]?) e
        simpa using this
      have hlt : i < ds.length := by
        rcases Nat.lt_or_ge i ds.length with h | h
        · exact h
        · rw [List.getElem?_eq_none h] at hd; cases hd
      have hr : ds.drop (i + 1) = r := by
        have e2 := List.drop_eq_getElem_cons hlt
        rw [e] at e2
        exact (List.cons.inj e2).2.symm
      exact step i d δ M _ hd h fun δ M h' => ih (i + 1) hr hlt δ M h'
  exact go ds 0 rfl (Nat.zero_le _) δ M h0
end
section
variable {g : ZG} {zt : ZT} {ze : ZE} {δ : ZSt} {Q : List D → MS → Prop} {ds : List D}
/-- a comprehension -/
theorem zlc (I : Nat → List D → MS → Prop) (hl : ds.length ≤ sizeLine)
    (step : ∀ i d acc M (k1 : D → MS → Prop) (k2 : MS → Prop), ds[i]? = some d → I i acc M → (∀ e M', I (i + 1) (acc ++ [e]) M' → k1 e M') → (∀ M', I (i + 1) acc M' → k2 M') →
      g d δ M fun δ1 M1 => zt δ1 M1 fun b M2 => if b = true then ze δ1 M2 k1 else k2 M2)
    (fin : ∀ acc M, I ds.length acc M → acc.length ≤ ds.length → Q acc M) {M : MS} (h0 : I 0 [] M) : zLcL g zt ze δ Q ds [] M := by
  have go : ∀ (r : List D) (i : Nat) (acc : List D), ds.drop i = r → i ≤ ds.length → acc.length ≤ i → ∀ M, I i acc M → zLcL g zt ze δ Q r acc M := by
    intro r
    induction r with
    | nil =>
      intro i acc e hi ha M h
      have : ds.length ≤ i := List.drop_eq_nil_iff.mp e
      have : i = ds.length := by omega
      subst this
      exact fin acc M h ha
    | cons d r ih =>
      intro i acc e hi ha M h
      have hd : ds[i]? = some d := by
        have := congrArg (fun l : List D => l[0]?) e
        simpa using this
      have hlt : i < ds.length := by
        rcases Nat.lt_or_ge i ds.length with h | h
        · exact h
        · rw [List.getElem?_eq_none h] at hd; cases hd
      have hr : ds.drop (i + 1) = r := by
        have e2 := List.drop_eq_getElem_cons hlt
        rw [e] at e2
        exact (List.cons.inj e2).2.symm
      have s := step i d acc M (fun e M' => acc.length < sizeLine ∧ zLcL g zt ze δ Q r (acc ++ [e]) M') (fun M' => zLcL g zt ze δ Q r acc M') hd h
        (fun e M' h' => ⟨by omega, ih (i + 1) (acc ++ [e]) hr hlt (by rw [List.length_append]; show acc.length + 1 ≤ i + 1; omega) M' h'⟩) (fun M' h' => ih (i + 1) acc hr hlt (by omega) M' h')
      exact s
  exact go ds 0 [] rfl (Nat.zero_le _) (Nat.zero_le _) M h0
/-- a comprehension that maps, nothing changing -/
theorem zlc_map (f : Nat → D → D) {M : MS} (hl : ds.length ≤ sizeLine)
    (step : ∀ i d (k1 : D → MS → Prop) (k2 : MS → Prop), ds[i]? = some d → k1 (f i d) M → g d δ M fun δ1 M1 => zt δ1 M1 fun b M2 => if b = true then ze δ1 M2 k1 else k2 M2)
    (h : Q ((List.range ds.length).map fun i => f i (ds.getD i (.v .non))) M) : zLcL g zt ze δ Q ds [] M := by
  refine zlc (fun i acc M' => M' = M ∧ acc = (List.range i).map fun i => f i (ds.getD i (.v .non))) hl (fun i d acc M' k1 k2 hd hI h1 h2 => ?_) (fun acc M' hI _ => ?_) ⟨rfl, rfl⟩
  · obtain ⟨rfl, rfl⟩ := hI
    refine step i d k1 k2 hd (h1 _ _ ⟨rfl, ?_⟩)
    rw [List.range_succ, List.map_append, List.map_singleton, List.getD_eq_getElem?_getD, hd]
    rfl
  · obtain ⟨rfl, rfl⟩ := hI
    exact h
theorem map_range_getD {α : Type} {f : D → α} : ∀ {ds : List D}, (List.range ds.length).map (fun i => f (ds.getD i (.v .non))) = ds.map f := by
  intro ds
  apply List.ext_getElem?
  intro i
  by_cases h : i < ds.length
  · simp [h, List.getD_eq_getElem?_getD]
  · simp [h]
end
end Zl
namespace Zl
open PySem PySem.Spec PyProof.Rows L2

/-! ### the type's name of deep data -/
def tn : D → String
  | .v .non => "NoneType"
  | .v (.bl _) => "bool"
  | .v (.int _) => "int"
  | .v (.str _) => "str"
  | .tup _ => "tuple"
  | .lst _ => "list"
  | .rd _ => "list"
  | .dct _ => "dict"
  | _ => ""
def nice (d : D) : Bool := tn d != ""
def isT (n m : String) : Bool := n == m || (n == "bool" && m == "int")
def kT (m : String) : Bool := m == "bool" || m == "int" || m == "tuple" || m == "list" || m == "str" || m == "dict"
theorem kT_cases {m : String} (h : kT m = true) : m = "bool" ∨ m = "int" ∨ m = "tuple" ∨ m = "list" ∨ m = "str" ∨ m = "dict" := by
  unfold kT at h
  simp only [Bool.or_eq_true, beq_iff_eq] at h
  rcases h with ((((h | h) | h) | h) | h) | h <;> simp [h]
theorem nice_cases {d : D} (h : nice d = true) : (tn d = "NoneType" ∨ tn d = "bool" ∨ tn d = "int" ∨ tn d = "str" ∨ tn d = "tuple" ∨ tn d = "list" ∨ tn d = "dict") ∧ ∀ M, tnm M d = some (tn d) := by
  unfold nice tn at h
  unfold tn tnm
  split at h <;> simp_all
theorem kit_tt {K : PySem.W.Frag} {n m : String} (hn : n = "NoneType" ∨ n = "bool" ∨ n = "int" ∨ n = "str" ∨ n = "tuple" ∨ n = "list" ∨ n = "dict") (hm : m = "bool" ∨ m = "int" ∨ m = "tuple" ∨ m = "list" ∨ m = "str" ∨ m = "dict") :
    PySem.W.kitOne K (.type n) (.type m) = some (isT n m) := by
  rcases hn with rfl | rfl | rfl | rfl | rfl | rfl | rfl <;> rcases hm with rfl | rfl | rfl | rfl | rfl | rfl <;> kernel_rfl
theorem tyD_nice {K : PySem.W.Frag} {M : MS} {d : D} {t : Value} (h : nice d = true) : tyD K M d t ↔ t = .type (tn d) := by
  obtain ⟨hc, hm⟩ := nice_cases h
  unfold tyD
  constructor
  · rintro (⟨n, e, rfl⟩ | ⟨C, rfl, ic, ⟨fs, rfl⟩ | ⟨a, dx, fs, rfl, e⟩⟩)
    · rw [hm M] at e
      cases e
      rfl
    · cases h
    · cases h
  · rintro rfl
    exact .inl ⟨_, hm M, rfl⟩
section
variable {K : PySem.W.Frag} {M : MS} {Q : ZQ} {d : D}
theorem e_isi (h : nice d = true) {m : String} (hm : kT m = true) : zIsi K [d, .v (.ty m)] M Q = Q (.v (.bl (isT (tn d) m))) M := by
  unfold zIsi
  simp only [tyD_nice h, clD]
  refine propext ⟨?_, fun q => ⟨_, _, _, rfl, rfl, kit_tt (nice_cases h).1 (kT_cases hm), q⟩⟩
  rintro ⟨t, u, b, rfl, e, e2, q⟩
  cases e
  rw [kit_tt (nice_cases h).1 (kT_cases hm)] at e2
  cases e2
  exact q
theorem e_isi2 (h : nice d = true) {m n : String} (hm : kT m = true) (hn : kT n = true) : zIsi K [d, .tup [.v (.ty m), .v (.ty n)]] M Q = Q (.v (.bl (isT (tn d) m || isT (tn d) n))) M := by
  unfold zIsi
  simp only [tyD_nice h]
  have e1 : clDs [D.v (V.ty m), D.v (V.ty n)] = some [.type m, .type n] := rfl
  have e2 : PySem.W.kitAny K (.type (tn d)) [.type m, .type n] = some (isT (tn d) m || isT (tn d) n) := by
    unfold PySem.W.kitAny
    rw [kit_tt (nice_cases h).1 (kT_cases hm)]
    cases isT (tn d) m
    · show PySem.W.kitAny K (.type (tn d)) [.type n] = _
      unfold PySem.W.kitAny
      rw [kit_tt (nice_cases h).1 (kT_cases hn)]
      cases isT (tn d) n <;> rfl
    · rfl
  refine propext ⟨?_, fun q => ⟨_, _, _, rfl, e1, e2, q⟩⟩
  rintro ⟨t, u, b, rfl, e, e3, q⟩
  rw [e1] at e
  cases e
  rw [e2] at e3
  cases e3
  exact q
theorem clD_ref {C : Addr} : clD (.v (.ref C)) = some (.ref C) := rfl
/-- isinstance of nice data and an own class -/
theorem e_isiC (h : nice d = true) {C : Addr} (hk : ∀ n, n = "NoneType" ∨ n = "bool" ∨ n = "int" ∨ n = "str" ∨ n = "tuple" ∨ n = "list" ∨ n = "dict" → PySem.W.kitOne K (.type n) (.ref C) = some false) :
    zIsi K [d, .v (.ref C)] M Q = Q (.v (.bl false)) M := by
  unfold zIsi
  simp only [tyD_nice h, clD]
  refine propext ⟨?_, fun q => ⟨_, _, _, rfl, rfl, hk _ (nice_cases h).1, q⟩⟩
  rintro ⟨t, u, b, rfl, e, e2, q⟩
  cases e
  rw [hk _ (nice_cases h).1] at e2
  cases e2
  exact q
theorem e_isiI {C C' : Addr} {fs : List (Str × D)} {b : Bool} (ic : InsC K C) (hk : PySem.W.kitOne K (.ref C) (.ref C') = some b) : zIsi K [.ins C fs, .v (.ref C')] M Q = Q (.v (.bl b)) M := by
  unfold zIsi
  simp only [clD]
  refine propext ⟨?_, fun q => ⟨_, _, _, .inr ⟨C, rfl, ic, .inl ⟨fs, rfl⟩⟩, rfl, hk, q⟩⟩
  rintro ⟨t, u, b', ht, e, e2, q⟩
  cases e
  unfold tyD at ht
  rcases ht with ⟨n, e, rfl⟩ | ⟨C2, rfl, _, ⟨fs, e⟩ | ⟨a, dx, fs, e, _⟩⟩
  · cases e
  · cases e
    rw [hk] at e2
    cases e2
    exact q
  · cases e
end

/-! ### plain data without flags: == is equality -/
mutual
def nb : D → Bool
  | .v .non => true
  | .v (.int _) => true
  | .v (.str x) => PyData.strOk x
  | .tup ds => nbs ds
  | .lst ds => nbs ds
  | _ => false
def nbs : List D → Bool
  | [] => true
  | d :: ds => nb d && nbs ds
end
mutual
def dpD : D → Nat
  | .tup ds => dpDs ds + 1
  | .lst ds => dpDs ds + 1
  | _ => 0
def dpDs : List D → Nat
  | [] => 0
  | d :: ds => max (dpD d) (dpDs ds)
end
mutual
theorem nb_pl : ∀ {d : D}, nb d = true → plD d = true ∧ (toPy d).canLay0 = true ∧ (toPy d).depth = dpD d
  | .v .non, _ => ⟨rfl, rfl, rfl⟩
  | .v (.int _), _ => ⟨rfl, rfl, rfl⟩
  | .v (.str x), h => ⟨h, h, rfl⟩
  | .tup ds, h => by
    obtain ⟨h1, h2, h3⟩ := nbs_pl (ds := ds) h
    exact ⟨h1, h2, by show PyData.depthAll (toPys ds) + 1 = dpDs ds + 1; rw [h3]⟩
  | .lst ds, h => by
    obtain ⟨h1, h2, h3⟩ := nbs_pl (ds := ds) h
    exact ⟨h1, h2, by show PyData.depthAll (toPys ds) + 1 = dpDs ds + 1; rw [h3]⟩
theorem nbs_pl : ∀ {ds : List D}, nbs ds = true → plDs ds = true ∧ PyData.canLayAll0 (toPys ds) = true ∧ PyData.depthAll (toPys ds) = dpDs ds
  | [], _ => ⟨rfl, rfl, rfl⟩
  | d :: ds, h => by
    have h' := Bool.and_eq_true_iff.mp h
    obtain ⟨a1, a2, a3⟩ := nb_pl h'.1
    obtain ⟨b1, b2, b3⟩ := nbs_pl h'.2
    refine ⟨by show (plD d && plDs ds) = true; rw [a1, b1]; rfl, by show (PyData.canLay0 (toPy d) && PyData.canLayAll0 (toPys ds)) = true; rw [a2, b2]; rfl, ?_⟩
    show max (PyData.depth (toPy d)) (PyData.depthAll (toPys ds)) = max (dpD d) (dpDs ds)
    rw [a3, b3]
end
theorem nb_ok {d : D} (h : nb d = true) (hd : dpD d ≤ 64) : okD d := by
  obtain ⟨h1, h2, h3⟩ := nb_pl h
  refine ⟨h1, ?_⟩
  show (PyData.canLay0 (toPy d) && decide ((toPy d).depth ≤ 64)) = true
  rw [h2, h3, decide_eq_true hd]
  rfl
mutual
theorem eqD_iff : ∀ {d e : D}, nb d = true → nb e = true → (eqD d e = true ↔ d = e)
  | .v .non, .v .non, _, _ => ⟨fun _ => rfl, fun _ => rfl⟩
  | .v .non, .v (.int _), _, _ => ⟨(fun h => nomatch h), (fun h => nomatch h)⟩
  | .v .non, .v (.str _), _, _ => ⟨(fun h => nomatch h), (fun h => nomatch h)⟩
  | .v .non, .tup _, _, _ => ⟨(fun h => nomatch h), (fun h => nomatch h)⟩
  | .v .non, .lst _, _, _ => ⟨(fun h => nomatch h), (fun h => nomatch h)⟩
  | .v (.int i), .v .non, _, _ => ⟨(fun h => nomatch h), (fun h => nomatch h)⟩
  | .v (.int i), .v (.int j), _, _ => by
    show (i == j) = true ↔ _
    simp
  | .v (.int i), .v (.str _), _, _ => ⟨(fun h => nomatch h), (fun h => nomatch h)⟩
  | .v (.int i), .tup _, _, _ => ⟨(fun h => nomatch h), (fun h => nomatch h)⟩
  | .v (.int i), .lst _, _, _ => ⟨(fun h => nomatch h), (fun h => nomatch h)⟩
  | .v (.str x), .v .non, _, _ => ⟨(fun h => nomatch h), (fun h => nomatch h)⟩
  | .v (.str x), .v (.int _), _, _ => ⟨(fun h => nomatch h), (fun h => nomatch h)⟩
  | .v (.str x), .v (.str y), _, _ => by
    show (x == y) = true ↔ _
    simp
  | .v (.str x), .tup _, _, _ => ⟨(fun h => nomatch h), (fun h => nomatch h)⟩
  | .v (.str x), .lst _, _, _ => ⟨(fun h => nomatch h), (fun h => nomatch h)⟩
  | .tup ds, .v .non, _, _ => ⟨(fun h => nomatch h), (fun h => nomatch h)⟩
  | .tup ds, .v (.int _), _, _ => ⟨(fun h => nomatch h), (fun h => nomatch h)⟩
  | .tup ds, .v (.str _), _, _ => ⟨(fun h => nomatch h), (fun h => nomatch h)⟩
  | .tup ds, .lst _, _, _ => ⟨(fun h => nomatch h), (fun h => nomatch h)⟩
  | .tup ds, .tup es, h1, h2 => by
    show PyData.eqvAll (toPys ds) (toPys es) = true ↔ _
    rw [eqDs_iff h1 h2]
    exact ⟨fun h => by rw [h], fun h => by cases h; rfl⟩
  | .lst ds, .v .non, _, _ => ⟨(fun h => nomatch h), (fun h => nomatch h)⟩
  | .lst ds, .v (.int _), _, _ => ⟨(fun h => nomatch h), (fun h => nomatch h)⟩
  | .lst ds, .v (.str _), _, _ => ⟨(fun h => nomatch h), (fun h => nomatch h)⟩
  | .lst ds, .tup _, _, _ => ⟨(fun h => nomatch h), (fun h => nomatch h)⟩
  | .lst ds, .lst es, h1, h2 => by
    show PyData.eqvAll (toPys ds) (toPys es) = true ↔ _
    rw [eqDs_iff h1 h2]
    exact ⟨fun h => by rw [h], fun h => by cases h; rfl⟩
theorem eqDs_iff : ∀ {ds es : List D}, nbs ds = true → nbs es = true → (PyData.eqvAll (toPys ds) (toPys es) = true ↔ ds = es)
  | [], [], _, _ => ⟨fun _ => rfl, fun _ => rfl⟩
  | [], _ :: _, _, _ => ⟨(fun h => nomatch h), (fun h => nomatch h)⟩
  | _ :: _, [], _, _ => ⟨(fun h => nomatch h), (fun h => nomatch h)⟩
  | d :: ds, e :: es, h1, h2 => by
    have a := Bool.and_eq_true_iff.mp h1
    have b := Bool.and_eq_true_iff.mp h2
    show (PyData.eqv (toPy d) (toPy e) && PyData.eqvAll (toPys ds) (toPys es)) = true ↔ _
    rw [Bool.and_eq_true_iff, eqDs_iff a.2 b.2]
    have := eqD_iff a.1 b.1
    unfold eqD at this
    rw [this]
    exact ⟨fun h => by rw [h.1, h.2], fun h => by cases h; exact ⟨rfl, rfl⟩⟩
end
theorem nbs_all {ds : List D} : nbs ds = ds.all nb := by
  induction ds with
  | nil => rfl
  | cons d ds ih => rw [List.all_cons, ← ih]; rfl
theorem dpDs_le {ds : List D} {n : Nat} (h : ∀ d ∈ ds, dpD d ≤ n) : dpDs ds ≤ n := by
  induction ds with
  | nil => exact Nat.zero_le _
  | cons d ds ih =>
    show max (dpD d) (dpDs ds) ≤ n
    have h1 := h d List.mem_cons_self
    have h2 := ih fun e he => h e (List.mem_cons_of_mem _ he)
    omega
/-- a tuple of dInts -/
def dInts (xs : List Int) : List D := xs.map fun i => .v (.int i)
abbrev rowD (xs : List Int) : D := .tup (dInts xs)
abbrev rowsD (xs : List (List Int)) : D := .tup (xs.map rowD)
theorem ints_nb (xs : List Int) : nbs (dInts xs) = true := by
  induction xs with
  | nil => rfl
  | cons x xs ih => exact ih
theorem ints_dp (xs : List Int) : dpDs (dInts xs) = 0 := by
  induction xs with
  | nil => rfl
  | cons x xs ih => show max 0 (dpDs (dInts xs)) = 0; rw [ih]; rfl
theorem rows_nb (xs : List (List Int)) : nbs (xs.map rowD) = true := by
  induction xs with
  | nil => rfl
  | cons x xs ih => show (nbs (dInts x) && nbs (xs.map rowD)) = true; rw [ints_nb, ih]; rfl
theorem rows_dp (xs : List (List Int)) : dpDs (xs.map rowD) ≤ 1 := dpDs_le fun d hd => by
  obtain ⟨x, _, rfl⟩ := List.mem_map.mp hd
  show dpDs (dInts x) + 1 ≤ 1
  rw [ints_dp]
  exact Nat.le_refl _
theorem ints_inj {xs ys : List Int} (h : dInts xs = dInts ys) : xs = ys := by
  induction xs generalizing ys with
  | nil => cases ys with
    | nil => rfl
    | cons y ys => cases h
  | cons x xs ih => cases ys with
    | nil => cases h
    | cons y ys =>
      have h' := List.cons.inj h
      rw [ih h'.2]
      cases h'.1
      rfl
theorem ints_len (xs : List Int) : (dInts xs).length = xs.length := List.length_map ..
theorem ints_get (xs : List Int) (i : Nat) : (dInts xs)[i]? = (xs[i]?).map fun i => D.v (.int i) := List.getElem?_map ..
theorem ints_nice {xs : List Int} {d : D} (h : d ∈ dInts xs) : ∃ i, i ∈ xs ∧ d = .v (.int i) := by
  obtain ⟨i, hi, rfl⟩ := List.mem_map.mp h
  exact ⟨i, hi, rfl⟩
section
variable {M : MS} {Q : ZQ} {d e : D}
theorem e_eqN (h1 : nb d = true) (h2 : nb e = true) (hd : dpD d ≤ 64) (he : dpD e ≤ 64) : zEq d e M Q ↔ Q (.v (.bl (eqD d e))) M := by
  unfold zEq
  exact ⟨fun h => h.2.2, fun h => ⟨nb_ok h1 hd, nb_ok h2 he, h⟩⟩
theorem e_eqS (h1 : nb d = true) (hd : dpD d ≤ 64) : zEq d d M Q ↔ Q (.v (.bl true)) M := by
  rw [e_eqN h1 h1 hd hd, (eqD_iff h1 h1).mpr rfl]
theorem e_eqF (h1 : nb d = true) (h2 : nb e = true) (hd : dpD d ≤ 64) (he : dpD e ≤ 64) (ne : d ≠ e) : zEq d e M Q ↔ Q (.v (.bl false)) M := by
  rw [e_eqN h1 h2 hd he]
  have : eqD d e = false := by
    cases hh : eqD d e with
    | false => rfl
    | true => exact absurd ((eqD_iff h1 h2).mp hh) ne
  rw [this]
end
/-! ### sides -/
theorem cmul_r {i j : Int} (h1 : -18446744073709551616 < j) (h2 : j < 18446744073709551616) : (CMul i j ∨ CMulW i j) = True := eq_true (Or.inl (Or.inr ⟨h1, h2⟩))
theorem cmul_l {i j : Int} (h1 : -18446744073709551616 < i) (h2 : i < 18446744073709551616) : (CMul i j ∨ CMulW i j) = True := eq_true (Or.inl (Or.inl ⟨h1, h2⟩))
theorem cmul_mod {x j m : Int} (h1 : 0 < m) (h2 : m < 18446744073709551616) : (CMul (x % m) j ∨ CMulW (x % m) j) = True :=
  eq_true (Or.inl (Or.inl ⟨by have := Int.emod_nonneg x (by omega : m ≠ 0); omega, by have := Int.emod_lt_of_pos x h1; omega⟩))
theorem cdw2 {i j : Int} (h1 : 0 < j) (h2 : j.natAbs.log2 < 9000) : CDivW i j = True := eq_true ⟨h1, h2⟩
theorem log2_small {n : Nat} (h : n < 2 ^ 62) : n.log2 < 9000 := by
  by_cases h0 : n = 0
  · subst h0
    exact (by decide : (0 : Nat) < 9000)
  · have := (Nat.log2_lt h0).mpr h
    omega
theorem cdw {i j : Int} (h1 : 0 < j) (h2 : j < 4611686018427387904) : CDivW i j = True := eq_true ⟨h1, log2_small (by omega)⟩
theorem kT_bool : kT "bool" = true := rfl
theorem kT_int : kT "int" = true := rfl
theorem kT_tuple : kT "tuple" = true := rfl
theorem kT_list : kT "list" = true := rfl
theorem kT_str : kT "str" = true := rfl
theorem kT_dict : kT "dict" = true := rfl
section
variable {i : Int} {b : Bool} {x : Str} {ds : List D} {ks : List (Key × D)}
theorem nice_non : nice (.v .non) = true := id (Eq.refl true)
theorem nice_bl : nice (.v (.bl b)) = true := id (Eq.refl true)
theorem nice_int : nice (.v (.int i)) = true := id (Eq.refl true)
theorem nice_str : nice (.v (.str x)) = true := id (Eq.refl true)
theorem nice_tup : nice (.tup ds) = true := id (Eq.refl true)
theorem nice_lst : nice (.lst ds) = true := id (Eq.refl true)
theorem nice_rd : nice (.rd ds) = true := id (Eq.refl true)
theorem nice_dct : nice (.dct ks) = true := id (Eq.refl true)
theorem tn_non : tn (.v .non) = "NoneType" := rfl
theorem tn_bl : tn (.v (.bl b)) = "bool" := rfl
theorem tn_int : tn (.v (.int i)) = "int" := rfl
theorem tn_str : tn (.v (.str x)) = "str" := rfl
theorem tn_tup : tn (.tup ds) = "tuple" := rfl
theorem tn_lst : tn (.lst ds) = "list" := rfl
theorem tn_rd : tn (.rd ds) = "list" := rfl
theorem tn_dct : tn (.dct ks) = "dict" := rfl
end
theorem isT_e {n m : String} {b : Bool} (h : (n == m || (n == "bool" && m == "int")) = b) : isT n m = b := h
theorem cpow18 : CPow 10 18 = True := eq_true ⟨by decide, by decide, by decide⟩
theorem cpow11 : CPow 10 11 = True := eq_true ⟨by decide, by decide, by decide⟩
theorem ten18 : (10 : Int) ^ (18 : Int).toNat = 1000000000000000000 := by decide +kernel
theorem ten11 : (10 : Int) ^ (11 : Int).toNat = 100000000000 := by decide +kernel
/-! ### the hand that draws -/
/-- it stands at h -/
def Hd (M : MS) (h : Addr) : Prop := ∃ (cells : List D) (l : Nat) (dg m n : Int), M h = some (.lst [.lst cells, .v (.int l), .v (.int dg), .v (.int m), .v (.int n)]) ∧ ∀ c ∈ cells, ∃ i : Int, c = .v (.int i)
/-- nothing but the hand at h is another -/
def Hx (h : Addr) (M M' : MS) : Prop := Hd M' h ∧ ∀ a, a ≠ h → M' a = M a
theorem Hx.rf {h : Addr} {M : MS} (k : Hd M h) : Hx h M M := ⟨k, fun _ _ => rfl⟩
theorem Hx.tr {h : Addr} {M M1 M2 : MS} (a : Hx h M M1) (b : Hx h M1 M2) : Hx h M M2 := ⟨b.1, fun x n => (b.2 x n).trans (a.2 x n)⟩
theorem Hd.put {h : Addr} {M : MS} {cells : List D} {l : Nat} {dg m n : Int} (hc : ∀ c ∈ cells, ∃ i : Int, c = .v (.int i)) : Hx h M (mput M h (.lst [.lst cells, .v (.int l), .v (.int dg), .v (.int m), .v (.int n)])) :=
  ⟨⟨cells, l, dg, m, n, mput_same, hc⟩, fun a k => mput_ne k⟩
end Zl
namespace Zl
open PySem PySem.Spec PyProof.Rows L2
/-- no promise yet -/
def zpNo : ZSp := fun _ _ _ _ => False
theorem DefAt.never {P : Program} {w : World} {K : PySem.W.Frag} {mg : Str → Option Value} {base : Heap} {x qual : Str} {st : Stmt} {ps : List Str} (T : FunAt K mg x qual st ps) : DefAt P w K mg base 0 x ps zpNo := by
  obtain ⟨f, fd, F, e, b⟩ := T.ex
  refine ⟨f, fd, ⟨fun vs H Q E ⟨_, _, _, _, _, _, _, _, _, z⟩ => z.elim, ?_⟩, e, F.kp, b⟩
  intros
  rename_i h
  obtain ⟨_, _, _, _, _, _, _, _, _, z⟩ := h
  exact z.elim
def neB (K : PySem.W.Frag) (C : Addr) : Bool := decide (PySem.W.findIn K (.ref C) "__ne__" = some (some (.builtin "object.__ne__"))) && decide (PySem.W.mroIn K C (.type "object") = some true)
theorem neB_ok {K : PySem.W.Frag} {C : Addr} (h : neB K C = true) : NeC K C := by
  unfold neB at h
  simp only [Bool.and_eq_true, decide_eq_true_eq] at h
  exact ⟨h.1, h.2⟩
theorem initB_ok {K : PySem.W.Frag} {C f : Addr} (h : initB K C f = true) : PySem.W.findIn K (.ref C) "__init__" = some (some (.ref f)) ∧ PySem.W.typeIn K (.ref f) = some (.type "function") := by
  unfold initB at h
  simp only [Bool.and_eq_true, decide_eq_true_eq] at h
  exact h

section
variable {K : PySem.W.Frag} {M : MS} {Q : ZQ} {d : D}
theorem e_isi_int (h : nice d = true) : zIsi K [d, .v (.ty "int")] M Q = Q (.v (.bl (isT (tn d) "int"))) M := e_isi h rfl
theorem e_isi_bool (h : nice d = true) : zIsi K [d, .v (.ty "bool")] M Q = Q (.v (.bl (isT (tn d) "bool"))) M := e_isi h rfl
theorem e_isi_tuple (h : nice d = true) : zIsi K [d, .v (.ty "tuple")] M Q = Q (.v (.bl (isT (tn d) "tuple"))) M := e_isi h rfl
theorem e_isi_list (h : nice d = true) : zIsi K [d, .v (.ty "list")] M Q = Q (.v (.bl (isT (tn d) "list"))) M := e_isi h rfl
theorem e_isi_str (h : nice d = true) : zIsi K [d, .v (.ty "str")] M Q = Q (.v (.bl (isT (tn d) "str"))) M := e_isi h rfl
theorem e_isi_dict (h : nice d = true) : zIsi K [d, .v (.ty "dict")] M Q = Q (.v (.bl (isT (tn d) "dict"))) M := e_isi h rfl
theorem e_isi_tl (h : nice d = true) : zIsi K [d, .tup [.v (.ty "tuple"), .v (.ty "list")]] M Q = Q (.v (.bl (isT (tn d) "tuple" || isT (tn d) "list"))) M := e_isi2 h rfl rfl
end
theorem isT_tt : isT "tuple" "tuple" = true := by decide
theorem isT_ll : isT "list" "list" = true := by decide
theorem isT_ii : isT "int" "int" = true := by decide
theorem isT_bb : isT "bool" "bool" = true := by decide
theorem isT_bi : isT "bool" "int" = true := by decide
theorem isT_ss : isT "str" "str" = true := by decide
theorem isT_dd : isT "dict" "dict" = true := by decide
theorem isT_tl : isT "tuple" "list" = false := by decide
theorem isT_lt : isT "list" "tuple" = false := by decide
theorem isT_it : isT "int" "tuple" = false := by decide
theorem isT_il : isT "int" "list" = false := by decide
theorem isT_ib : isT "int" "bool" = false := by decide
theorem isT_nt : isT "NoneType" "tuple" = false := by decide
theorem isT_nl : isT "NoneType" "list" = false := by decide
theorem isT_ni : isT "NoneType" "int" = false := by decide
theorem isT_nb : isT "NoneType" "bool" = false := by decide
theorem isT_st : isT "str" "tuple" = false := by decide
theorem isT_sl : isT "str" "list" = false := by decide
theorem isT_si : isT "str" "int" = false := by decide
theorem isT_sb : isT "str" "bool" = false := by decide
theorem isT_ti : isT "tuple" "int" = false := by decide
theorem isT_tb : isT "tuple" "bool" = false := by decide
theorem isT_li : isT "list" "int" = false := by decide
theorem isT_lb : isT "list" "bool" = false := by decide
theorem isT_di : isT "dict" "int" = false := by decide
theorem isT_db : isT "dict" "bool" = false := by decide
theorem isT_dt : isT "dict" "tuple" = false := by decide
theorem isT_dl : isT "dict" "list" = false := by decide
theorem isT_bt : isT "bool" "tuple" = false := by decide
theorem isT_bl : isT "bool" "list" = false := by decide
/-! ### ints within -/
def isI (d : D) : Bool := tn d == "int"
def isW (lo hi : Int) : D → Bool
  | .v (.int i) => decide (lo ≤ i) && decide (i ≤ hi)
  | _ => false
theorem isI_cases (d : D) : (∃ i, d = .v (.int i)) ∨ (isI d = false ∧ ∀ lo hi, isW lo hi d = false) := by
  cases d with
  | v x => cases x <;> first | exact .inl ⟨_, rfl⟩ | exact .inr ⟨rfl, fun _ _ => rfl⟩
  | _ => exact .inr ⟨rfl, fun _ _ => rfl⟩
theorem isW_int {lo hi : Int} {d : D} (h : isW lo hi d = true) : ∃ i, d = .v (.int i) ∧ lo ≤ i ∧ i ≤ hi := by
  rcases isI_cases d with ⟨i, rfl⟩ | ⟨_, q⟩
  · unfold isW at h
    simp only [Bool.and_eq_true, decide_eq_true_eq] at h
    exact ⟨i, rfl, h⟩
  · rw [q] at h
    cases h
section
variable {M : MS} {Q : ZQ}
theorem isI_t {d : D} (h : nice d = true) : (isT (tn d) "int" && !isT (tn d) "bool") = isI d := by
  unfold isI
  rcases (nice_cases h).1 with e | e | e | e | e | e | e <;> rw [e] <;> rfl
theorem e_allM {α : Type} {p : α → Bool} {ds : List α} : zAll [.lst (ds.map fun d => .v (.bl (p d)))] M Q = Q (.v (.bl (ds.all p))) M := by
  have e : ∀ ds : List α, blsOf (ds.map fun d => D.v (.bl (p d))) = some (ds.map p) := by
    intro ds
    induction ds with
    | nil => rfl
    | cons d ds ih => show (blsOf (ds.map _)).map (p d :: ·) = _; rw [ih]; rfl
  show (∃ es bs, lsOf M (.lst _) = some es ∧ blsOf es = some bs ∧ Q (.v (.bl (bs.all id))) M) = _
  refine propext ⟨?_, fun q => ⟨_, _, rfl, e ds, ?_⟩⟩
  · rintro ⟨es, bs, e1, e2, q⟩
    cases e1
    rw [e] at e2
    cases e2
    rw [List.all_map] at q
    exact q
  · rw [List.all_map]
    exact q
theorem e_anyM {α : Type} {p : α → Bool} {ds : List α} : zAny [.lst (ds.map fun d => .v (.bl (p d)))] M Q = Q (.v (.bl (ds.any p))) M := by
  have e : ∀ ds : List α, blsOf (ds.map fun d => D.v (.bl (p d))) = some (ds.map p) := by
    intro ds
    induction ds with
    | nil => rfl
    | cons d ds ih => show (blsOf (ds.map _)).map (p d :: ·) = _; rw [ih]; rfl
  show (∃ es bs, lsOf M (.lst _) = some es ∧ blsOf es = some bs ∧ Q (.v (.bl (bs.any id))) M) = _
  refine propext ⟨?_, fun q => ⟨_, _, rfl, e ds, ?_⟩⟩
  · rintro ⟨es, bs, e1, e2, q⟩
    cases e1
    rw [e] at e2
    cases e2
    rw [List.any_map] at q
    exact q
  · rw [List.any_map]
    exact q
theorem e_neB {a b : Bool} : zNe (.v (.bl a)) (.v (.bl b)) M Q = Q (.v (.bl (!(a == b)))) M := by
  have sh : ∀ n : Bool, SeqAt.shaped (PyData.bool n) = true := fun n => rfl
  have e : eqD (.v (.bl a)) (.v (.bl b)) = (a == b) := rfl
  unfold zNe okD
  rw [e]
  simp [plD, toPy, sh]
theorem e_eqB {a b : Bool} : zEq (.v (.bl a)) (.v (.bl b)) M Q = Q (.v (.bl (a == b))) M := by
  have sh : ∀ n : Bool, SeqAt.shaped (PyData.bool n) = true := fun n => rfl
  have e : eqD (.v (.bl a)) (.v (.bl b)) = (a == b) := rfl
  unfold zEq okD
  rw [e]
  simp [plD, toPy, sh]
theorem zlc_map1 {g : ZG} {zt : ZT} {ze : ZE} {δ : ZSt} {Q : List D → MS → Prop} {ds : List D} (f : D → D) {M : MS} (hl : ds.length ≤ sizeLine)
    (step : ∀ d (k1 : D → MS → Prop) (k2 : MS → Prop), d ∈ ds → k1 (f d) M → g d δ M fun δ1 M1 => zt δ1 M1 fun b M2 => if b = true then ze δ1 M2 k1 else k2 M2)
    (h : Q (ds.map f) M) : zLcL g zt ze δ Q ds [] M := by
  refine zlc_map (fun _ => f) hl (fun i d k1 k2 hd hk => step d k1 k2 (List.mem_of_getElem? hd) hk) ?_
  rw [map_range_getD]
  exact h
end
theorem enumD_get {ds : List D} {i : Nat} {d : D} (h : (enumD ds)[i]? = some d) : ∃ e, ds[i]? = some e ∧ d = .tup [.v (.int (i : Nat)), e] := by
  unfold enumD at h
  rw [List.getElem?_map] at h
  by_cases hi : i < ds.length
  · rw [List.getElem?_range hi] at h
    cases h
    refine ⟨ds[i], List.getElem?_eq_getElem hi, ?_⟩
    show D.tup [.v (.int (i : Nat)), ds.getD i (.v .non)] = _
    rw [List.getD_eq_getElem?_getD, List.getElem?_eq_getElem hi]
    rfl
  · rw [List.getElem?_eq_none (by simpa using hi)] at h
    cases h
theorem enumD_len {ds : List D} : (enumD ds).length = ds.length := by
  unfold enumD
  rw [List.length_map, List.length_range]
/-- the first place at which p is not so -/
def firstBad {α : Type} (p : Nat → α → Bool) : List α → Nat → Option Nat
  | [], _ => none
  | d :: r, i => if p i d = true then firstBad p r (i + 1) else some i
theorem firstBad_step {α : Type} {p : Nat → α → Bool} {ds : List α} {i : Nat} {d : α} (h : ds[i]? = some d) (e : firstBad p ds 0 = firstBad p (ds.drop i) i) :
    (p i d = true → firstBad p ds 0 = firstBad p (ds.drop (i + 1)) (i + 1)) ∧ (p i d = false → firstBad p ds 0 = some i) := by
  have hlt : i < ds.length := by
    rcases Nat.lt_or_ge i ds.length with h' | h'
    · exact h'
    · rw [List.getElem?_eq_none h'] at h; cases h
  have e2 := List.drop_eq_getElem_cons hlt
  have e3 : ds[i] = d := by
    rw [List.getElem?_eq_getElem hlt] at h
    exact Option.some.inj h
  rw [e3] at e2
  rw [e2, show firstBad p (d :: ds.drop (i + 1)) i = if p i d = true then firstBad p (ds.drop (i + 1)) (i + 1) else some i from rfl] at e
  refine ⟨fun q => ?_, fun q => ?_⟩
  · rw [if_pos q] at e
    exact e
  · rw [if_neg (by rw [q]; decide)] at e
    exact e
theorem firstBad_end {α : Type} {p : Nat → α → Bool} {ds : List α} (e : firstBad p ds 0 = firstBad p (ds.drop ds.length) ds.length) : firstBad p ds 0 = none := by
  rw [e, List.drop_length]
  rfl
/-- plain data, not deep -/
inductive Pl : Nat → D → Prop
  | non {n : Nat} : Pl n (.v .non)
  | int {n : Nat} {i : Int} : Pl n (.v (.int i))
  | str {n : Nat} {x : Str} (h : PyData.strOk x = true) : Pl n (.v (.str x))
  | tup {n : Nat} {ds : List D} (hl : ds.length ≤ 16777216) (h : ∀ d ∈ ds, Pl n d) : Pl (n + 1) (.tup ds)
  | lst {n : Nat} {ds : List D} (hl : ds.length ≤ 16777216) (h : ∀ d ∈ ds, Pl n d) : Pl (n + 1) (.lst ds)
theorem Pl.mono {n m : Nat} {d : D} (h : Pl n d) (l : n ≤ m) : Pl m d := by
  induction h generalizing m with
  | non => exact .non
  | int => exact .int
  | str h => exact .str h
  | tup hl h ih =>
    cases m with
    | zero => omega
    | succ m => exact .tup hl fun d hd => ih d hd (by omega)
  | lst hl h ih =>
    cases m with
    | zero => omega
    | succ m => exact .lst hl fun d hd => ih d hd (by omega)
theorem Pl.nb {n : Nat} {d : D} (h : Pl n d) : Zl.nb d = true ∧ dpD d ≤ n ∧ nice d = true := by
  induction h with
  | non => exact ⟨rfl, Nat.zero_le _, rfl⟩
  | int => exact ⟨rfl, Nat.zero_le _, rfl⟩
  | str h => exact ⟨h, Nat.zero_le _, rfl⟩
  | @tup n ds hl h ih => exact ⟨by show nbs ds = true; rw [nbs_all, List.all_eq_true]; exact fun d hd => (ih d hd).1, Nat.succ_le_succ (dpDs_le fun d hd => (ih d hd).2.1), rfl⟩
  | @lst n ds hl h ih => exact ⟨by show nbs ds = true; rw [nbs_all, List.all_eq_true]; exact fun d hd => (ih d hd).1, Nat.succ_le_succ (dpDs_le fun d hd => (ih d hd).2.1), rfl⟩
theorem pl_row {n : Nat} {xs : List Int} (h : xs.length ≤ 16777216) : Pl (n + 1) (rowD xs) := .tup (by rw [ints_len]; exact h) fun d hd => by
  obtain ⟨i, _, rfl⟩ := ints_nice hd
  exact .int
theorem pl_rows {n : Nat} {xs : List (List Int)} (h : xs.length ≤ 16777216) (h2 : ∀ r ∈ xs, r.length ≤ 16777216) : Pl (n + 2) (rowsD xs) := .tup (by rw [List.length_map]; exact h) fun d hd => by
  obtain ⟨r, hr, rfl⟩ := List.mem_map.mp hd
  exact pl_row (h2 r hr)
theorem mdel_mput {M : MS} {p : Addr} {m : MO} (h : M p = none) : mdel (mput M p m) p = M := by
  funext b
  show (if b = p then none else if b = p then some m else M b) = M b
  by_cases q : b = p
  · rw [if_pos q, q, h]
  · rw [if_neg q, if_neg q]
theorem Hx.at {h : Addr} {M M' : MS} {a : Addr} {m : Option MO} (k : Hx h M M') (n : a ≠ h) (e : M a = m) : M' a = m := (k.2 a n).trans e
end Zl
namespace Zl
open PySem PySem.Spec PyProof.Rows L2
theorem isNon_e0 : isNon (.v .non) = true := rfl
theorem isNon_e1 {i : Int} : isNon (.v (.int i)) = false := rfl
theorem isNon_e2 {ds : List D} : isNon (.tup ds) = false := rfl
theorem isNon_e3 {C : Addr} {fs : List (Str × D)} : isNon (.ins C fs) = false := rfl
theorem cut_mem {α : Type} {xs : List α} {lo hi : Option Int} {x : α} (h : x ∈ Zl.cutD xs lo hi) : x ∈ xs := List.mem_of_mem_drop (List.mem_of_mem_take h)
theorem cut_len {α : Type} {xs : List α} {lo hi : Option Int} : (Zl.cutD xs lo hi).length ≤ xs.length := by
  unfold Zl.cutD
  rw [List.length_take, List.length_drop]
  omega
theorem flat_len {α : Type} {n : Nat} {xs : List α} : (List.replicate n xs).flatten.length = n * xs.length := by
  induction n with
  | zero => simp
  | succ n ih => rw [List.replicate_succ, List.flatten_cons, List.length_append, ih, Nat.succ_mul, Nat.add_comm]
theorem flat_mem {α : Type} {n : Nat} {xs : List α} {x : α} (h : x ∈ (List.replicate n xs).flatten) : x ∈ xs := by
  obtain ⟨l, h1, h2⟩ := List.mem_flatten.mp h
  rw [(List.mem_replicate.mp h1).2] at h2
  exact h2
theorem rg_nice {a b : Int} {d : D} (h : d ∈ rgD a b) : ∃ i, d = .v (.int i) := by
  obtain ⟨i, _, rfl⟩ := List.mem_map.mp h
  exact ⟨_, rfl⟩
theorem rg_len {a b : Int} : (rgD a b).length = (b - a).toNat := by
  unfold rgD
  rw [List.length_map, List.length_range]
/-! ### the readings, one step each, told outermost first -/
section
variable {δ : ZSt} {M : MS} {Q : ZQ} {D : ZEnds} {z w z1 z2 z3 : ZE} {c c2 : ZT} {za zr : ZA} {s s2 : ZS} {g : ZG} {QT : Bool → MS → Prop} {QA : List Zl.D → MS → Prop} {QS : ZSt → MS → Prop} {QO : Option Int → MS → Prop}
theorem u_ret : zRet z D δ M = z δ M D.rt := rfl
theorem u_retN : zRetN D δ M = D.rt (.v .non) M := rfl
theorem u_seq : zSeq s s2 D δ M = s { D with nx := s2 D } δ M := rfl
theorem u_asg : zAsg z g D δ M = z δ M fun d M1 => g d δ M1 D.nx := rfl
theorem u_ifs : zIfS c s s2 D δ M = c δ M fun b M1 => if b = true then s D δ M1 else s2 D δ M1 := rfl
theorem u_drop : zDrop z D δ M = z δ M fun _ M1 => D.nx δ M1 := rfl
theorem u_next : zNext D δ M = D.nx δ M := rfl
theorem u_break : zBreak D δ M = D.bk δ M := rfl
theorem u_cont : zCont D δ M = D.ct δ M := rfl
theorem u_never : zNever D δ M = False := rfl
theorem u_c {d : Zl.D} : zC d δ M Q = Q d M := rfl
theorem u_op {r : ZR2} : zOp r z w δ M Q = z δ M fun d M1 => w δ M1 fun e M2 => r d e M2 Q := rfl
theorem u_un {r : ZR1} : zUn r z δ M Q = z δ M fun d M1 => r d M1 Q := rfl
theorem u_nil : zNil δ M QA = QA [] M := rfl
theorem u_cons : zCons z zr δ M QA = z δ M fun d M1 => zr δ M1 fun ds M2 => QA (d :: ds) M2 := rfl
theorem u_tup : zTup za δ M Q = za δ M fun ds M1 => ds.length ≤ sizeLine ∧ Q (.tup ds) M1 := rfl
theorem u_lst : zLst za δ M Q = za δ M fun ds M1 => ds.length ≤ sizeLine ∧ Q (.lst ds) M1 := rfl
theorem u_lstM : zLstM za δ M Q = za δ M fun ds M1 => ds.length ≤ sizeLine ∧ ∀ p, M1 p = none → Q (.v (.ref p)) (mput M1 p (.lst ds)) := rfl
theorem u_cb {r : ZRA} : zCB r za δ M Q = za δ M fun ds M1 => r ds M1 Q := rfl
theorem u_and : zAnd c c2 δ M QT = c δ M fun b M1 => if b = true then c2 δ M1 QT else QT false M1 := rfl
theorem u_or : zOr c c2 δ M QT = c δ M fun b M1 => if b = true then QT true M1 else c2 δ M1 QT := rfl
theorem u_not : zNot c δ M QT = c δ M fun b M1 => QT (!b) M1 := rfl
theorem u_yes : zYes δ M QT = QT true M := rfl
theorem u_if : zIf c z w δ M Q = c δ M fun b M1 => if b = true then z δ M1 Q else w δ M1 Q := rfl
theorem u_call {zp : ZSp} {Wz : ZW} : zCall zp Wz za δ M Q = za δ M fun ds M1 => zp ds M1 Q fun C fs M2 => Wz C fs δ M2 := rfl
theorem u_make {zp : ZSp} {Wz : ZW} : zMake zp Wz za δ M Q = za δ M fun ds M1 => zp ds M1 Q fun C fs M2 => Wz C fs δ M2 := rfl
theorem u_aug {i : Nat} {r : ZR2} : zAug i z r D δ M = zVar i δ M fun d _ => z δ M fun e M1 => r d e M1 fun f M2 => zgName i f δ M2 D.nx := by
  unfold zAug zVar
  rfl
theorem u_par {i j : Nat} : zPar i j (zCons z (zCons w zNil)) D δ M = z δ M fun d M1 => w δ M1 fun e M2 => zgName i d δ M2 fun δ1 M3 => zgName j e δ1 M3 D.nx := rfl
theorem u_par3 {i j k : Nat} : zPar3 i j k (zCons z (zCons w (zCons z1 zNil))) D δ M = z δ M fun d M1 => w δ M1 fun e M2 => z1 δ M2 fun f M3 => zgName i d δ M3 fun δ1 M4 => zgName j e δ1 M4 fun δ2 M5 => zgName k f δ2 M5 D.nx := rfl
theorem u_tupRg1 : zTupRg1 z δ M Q = z δ M fun d M1 => match d with | .v (.int j) => RgOk 0 j ∧ Q (.tup (rgD 0 j)) M1 | _ => False := rfl
theorem u_lstRg1 : zLstRg1 z δ M Q = z δ M fun d M1 => match d with | .v (.int j) => RgOk 0 j ∧ Q (.lst (rgD 0 j)) M1 | _ => False := rfl
theorem u_lstRg1M : zLstRg1M z δ M Q = z δ M fun d M1 => match d with | .v (.int j) => RgOk 0 j ∧ ∀ p, M1 p = none → Q (.v (.ref p)) (mput M1 p (.lst (rgD 0 j))) | _ => False := rfl
theorem u_tupRg2 : zTupRg2 z w δ M Q = z δ M fun d M1 => w δ M1 fun e M2 => match d, e with | .v (.int i), .v (.int j) => RgOk i j ∧ Q (.tup (rgD i j)) M2 | _, _ => False := rfl
theorem u_gsub {t : ZSet} {d : Zl.D} : zgSub z w t d δ M QS = z δ M fun o M1 => w δ M1 fun i M2 => t o i d M2 fun M3 => QS δ M3 := rfl
theorem u_for {zi : ZI} : zFor zi g s D δ M = zi δ M fun ds M1 => zLoop g s D ds δ M1 := rfl
theorem u_lc {zi : ZI} {vs : List Nat} : zLc zi g c z vs δ M Q = zi δ M fun ds M1 => zLcL g c z (zwipe δ vs) (fun es M2 => Q (.lst es) M2) ds [] M1 := rfl
theorem u_lcM {zi : ZI} {vs : List Nat} : zLcM zi g c z vs δ M Q = zi δ M fun ds M1 => zLcL g c z (zwipe δ vs) (fun es M2 => ∀ p, M2 p = none → Q (.v (.ref p)) (mput M2 p (.lst es))) ds [] M1 := rfl
theorem u_seqI : zSeqI z δ M QA = z δ M fun d M1 => match d with | .lst ds => QA ds M1 | .rd ds => QA ds M1 | .tup ds => QA ds M1 | _ => False := rfl
theorem u_rng1 : zRng1 za δ M QA = za δ M fun ds M1 => match ds with | [.v (.int j)] => -(2 ^ 62) ≤ j ∧ j < 2 ^ 62 ∧ QA ((List.range j.toNat).map fun i => .v (.int (i : Nat))) M1 | _ => False := rfl
theorem u_rng2 : zRng2 za δ M QA = za δ M fun ds M1 => match ds with
  | [.v (.int i), .v (.int j)] => (-(2 ^ 62) ≤ i ∧ i < 2 ^ 62 ∧ -(2 ^ 62) ≤ j ∧ j < 2 ^ 62) ∧ QA ((List.range (j - i).toNat).map fun k => .v (.int (i + (k : Nat)))) M1
  | _ => False := rfl
theorem u_enum : zEnum za δ M QA = za δ M fun ds M1 => match ds with | [.lst es] => QA (enumD es) M1 | [.tup es] => QA (enumD es) M1 | _ => False := rfl
theorem u_zip : zZip za δ M QA = za δ M fun ds M1 => match ds with | [.lst es, .lst fs] => QA (zipD es fs) M1 | [.tup es, .tup fs] => QA (zipD es fs) M1 | _ => False := rfl
theorem u_sl {r : Zl.D → Option Int → Option Int → MS → ZQ → Prop} {zl zh : ZO} : zSl r z zl zh δ M Q = z δ M fun d M1 => zl δ M1 fun l M2 => zh δ M2 fun u M3 => r d l u M3 Q := rfl
theorem u_nopart : zNoPart δ M QO = QO none M := rfl
theorem u_part : zPart z δ M QO = z δ M fun d M1 => match d with | .v (.int i) => QO (some i) M1 | _ => False := rfl
theorem u_cutT {ds : List Zl.D} {lo hi : Option Int} : zCut (.tup ds) lo hi M Q = Q (.tup (Zl.cutD ds lo hi)) M := rfl
theorem u_cutL {ds : List Zl.D} {lo hi : Option Int} : zCut (.lst ds) lo hi M Q = Q (.lst (Zl.cutD ds lo hi)) M := by
  show (∃ ds', seqOf M (.lst ds) = some ds' ∧ _) = _
  simp [seqOf]
theorem u_cutR {ds : List Zl.D} {lo hi : Option Int} : zCut (.rd ds) lo hi M Q = Q (.lst (Zl.cutD ds lo hi)) M := by
  show (∃ ds', seqOf M (.rd ds) = some ds' ∧ _) = _
  simp [seqOf]
theorem u_revT : zRevT z δ M Q = z δ M fun d M1 => match d with | .tup ds => Q (.tup ds.reverse) M1 | _ => False := rfl
theorem u_dnew : zDnew δ M Q = Q (.dct []) M := rfl
theorem u_dnewM : zDnewM δ M Q = ∀ p, M p = none → Q (.v (.ref p)) (mput M p (.dct [])) := rfl
theorem u_d1 {k : Int} : zD1 k z δ M Q = ∀ p, M p = none → z δ (mput M p (.dct [])) fun d M1 => M1 p = some (.dct []) ∧ Q (.dct [(.inl k, d)]) (mdel M1 p) := by
  have e : ∀ p, (fun (d : D) (M1 : MS) => M1 p = some (.dct []) ∧ (match (D.v (.ref p)) with | .v (.ref a) => ∃ kvs, mput M1 p (.dct [(.inl k, d)]) a = some (.dct kvs) ∧ Q (.dct kvs) (mdel (mput M1 p (.dct [(.inl k, d)])) a) | _ => False)) = fun d M1 => M1 p = some (.dct []) ∧ Q (.dct [(.inl k, d)]) (mdel M1 p) := fun p => by
    funext d M1
    simp only [mput_same, Option.some.injEq, MO.dct.injEq, exists_eq_left', mdel_mputA]
  show (∀ p, M p = none → z δ (mput M p (.dct [])) _) = _
  refine forall_congr fun p => forall_congr fun _ => ?_
  exact congrArg (z δ (mput M p (.dct []))) (e p)
theorem u_d1M {k : Int} : zD1M k z δ M Q = ∀ p, M p = none → z δ (mput M p (.dct [])) fun d M1 => M1 p = some (.dct []) ∧ Q (.v (.ref p)) (mput M1 p (.dct [(.inl k, d)])) := rfl
theorem u_fld {K : PySem.W.Frag} {f : Str} : zFld K z f δ M Q = z δ M fun d M1 => match d with
  | .ins C fs => FldOk K C f ∧ ∃ e, fs.lookup f = some e ∧ Q e M1
  | .v (.ref a) => ∃ C dx fs e, M1 a = some (.ins C dx fs) ∧ FldOk K C f ∧ fs.lookup f = some e ∧ Q e M1
  | _ => False := rfl
theorem u_sfld {K : PySem.W.Frag} {f : Str} : zsFld K z w f D δ M = w δ M fun e M1 => z δ M1 fun o M2 => match o with
  | .v (.ref a) => ∃ C dx fs, M2 a = some (.ins C dx fs) ∧ FldOk K C f ∧ fs.length < 1000 ∧ D.nx δ (mput M2 a (.ins C dx (putD f e fs)))
  | _ => False := rfl
theorem u_rz {Wz : ZW} {x : ZSt → MS → ZX → Prop} : zRz Wz x D δ M = x δ M fun C fs M' => Wz C fs δ M' := rfl
theorem u_xo {C : Addr} {ns : List Str} {X : ZX} : zXo C ns za δ M X = za δ M fun ds M1 => ds.length = ns.length ∧ ds.length ≤ 900 ∧ X C (ns.zip ds).reverse M1 := rfl
theorem u_x0 {C : Addr} {X : ZX} : zX0 C δ M X = X C [] M := rfl
theorem u_WB {Ez : ZX} {C : Addr} {fs : List (Str × Zl.D)} : WBz Ez C fs δ M = Ez C fs M := rfl
theorem u_W0 {C : Addr} {fs : List (Str × Zl.D)} : W0z C fs δ M = False := rfl
theorem u_try {K : PySem.W.Frag} {cv : Value} {i : Nat} {zs : Addr → Addr → List (Str × Zl.D) → ZS} {Wz : ZW} {zb : ZW → ZS} : zTryAs K cv i zs Wz zb D δ M = zb (fun C fs δ' M' => ∃ b, PySem.W.exmOne K (.ref C) cv = some b ∧
    (b = true → ∀ a, M' a = none → zs a C fs { nx := fun δ2 M2 => D.nx (δ2.set i none) M2, rt := D.rt, bk := fun δ2 M2 => D.bk (δ2.set i none) M2, ct := fun δ2 M2 => D.ct (δ2.set i none) M2 } (δ'.set i (some (.v (.ref a)))) M') ∧
    (b = false → Wz C fs δ' M')) D δ M := rfl
theorem u_xf {a C C' : Addr} {fs : List (Str × Zl.D)} {f : Str} : zXf a C C' fs f z δ M Q = z δ M fun d M1 => d = .v (.ref a) ∧ C = C' ∧ ∃ e, fs.lookup f = some e ∧ Q e M1 := rfl
theorem u_isXc {K : PySem.W.Frag} {C Cd a b : Addr} {d : Zl.D} : zIsXc K C Cd a [.v (.ref b), d] M Q = (C = Cd ∧ b = a ∧ ∃ u k, clD d = some u ∧ PySem.W.kitOne K (.ref Cd) u = some k ∧ Q (.v (.bl k)) M) := rfl
theorem u_nx {a : ZSt → MS → Prop} {b : ZQ} {e f : ZSt → MS → Prop} : ZEnds.nx ⟨a, b, e, f⟩ = a := rfl
theorem u_rt {a : ZSt → MS → Prop} {b : ZQ} {e f : ZSt → MS → Prop} : ZEnds.rt ⟨a, b, e, f⟩ = b := rfl
theorem u_bk {a : ZSt → MS → Prop} {b : ZQ} {e f : ZSt → MS → Prop} : ZEnds.bk ⟨a, b, e, f⟩ = e := rfl
theorem u_ct {a : ZSt → MS → Prop} {b : ZQ} {e f : ZSt → MS → Prop} : ZEnds.ct ⟨a, b, e, f⟩ = f := rfl
theorem u_var0 {d : Zl.D} {r : ZSt} : zVar 0 (some d :: r) M Q = Q d M := by
  unfold zVar
  simp
theorem u_varS {n : Nat} {x : Option Zl.D} {r : ZSt} : zVar (n + 1) (x :: r) M Q = zVar n r M Q := by
  unfold zVar
  simp
theorem u_gn {i : Nat} {d : Zl.D} : zgName i d δ M QS = QS (δ.set i (some d)) M := rfl
variable {d x0 x1 x2 x3 x4 x5 x6 x7 x8 x9 x10 x11 x12 x13 x14 x15 : Option Zl.D} {e : Zl.D} {r : ZSt}
theorem u_gn0 {y0 : Option Zl.D} : zgName 0 e (y0 :: r) M QS = QS (some e :: r) M := rfl
theorem u_gn1 {y0 y1 : Option Zl.D} : zgName 1 e (y0 :: y1 :: r) M QS = QS (y0 :: some e :: r) M := rfl
theorem u_gn2 {y0 y1 y2 : Option Zl.D} : zgName 2 e (y0 :: y1 :: y2 :: r) M QS = QS (y0 :: y1 :: some e :: r) M := rfl
theorem u_gn3 {y0 y1 y2 y3 : Option Zl.D} : zgName 3 e (y0 :: y1 :: y2 :: y3 :: r) M QS = QS (y0 :: y1 :: y2 :: some e :: r) M := rfl
theorem u_gn4 {y0 y1 y2 y3 y4 : Option Zl.D} : zgName 4 e (y0 :: y1 :: y2 :: y3 :: y4 :: r) M QS = QS (y0 :: y1 :: y2 :: y3 :: some e :: r) M := rfl
theorem u_gn5 {y0 y1 y2 y3 y4 y5 : Option Zl.D} : zgName 5 e (y0 :: y1 :: y2 :: y3 :: y4 :: y5 :: r) M QS = QS (y0 :: y1 :: y2 :: y3 :: y4 :: some e :: r) M := rfl
theorem u_gn6 {y0 y1 y2 y3 y4 y5 y6 : Option Zl.D} : zgName 6 e (y0 :: y1 :: y2 :: y3 :: y4 :: y5 :: y6 :: r) M QS = QS (y0 :: y1 :: y2 :: y3 :: y4 :: y5 :: some e :: r) M := rfl
theorem u_gn7 {y0 y1 y2 y3 y4 y5 y6 y7 : Option Zl.D} : zgName 7 e (y0 :: y1 :: y2 :: y3 :: y4 :: y5 :: y6 :: y7 :: r) M QS = QS (y0 :: y1 :: y2 :: y3 :: y4 :: y5 :: y6 :: some e :: r) M := rfl
theorem u_gn8 {y0 y1 y2 y3 y4 y5 y6 y7 y8 : Option Zl.D} : zgName 8 e (y0 :: y1 :: y2 :: y3 :: y4 :: y5 :: y6 :: y7 :: y8 :: r) M QS = QS (y0 :: y1 :: y2 :: y3 :: y4 :: y5 :: y6 :: y7 :: some e :: r) M := rfl
theorem u_gn9 {y0 y1 y2 y3 y4 y5 y6 y7 y8 y9 : Option Zl.D} : zgName 9 e (y0 :: y1 :: y2 :: y3 :: y4 :: y5 :: y6 :: y7 :: y8 :: y9 :: r) M QS = QS (y0 :: y1 :: y2 :: y3 :: y4 :: y5 :: y6 :: y7 :: y8 :: some e :: r) M := rfl
theorem u_gn10 {y0 y1 y2 y3 y4 y5 y6 y7 y8 y9 y10 : Option Zl.D} : zgName 10 e (y0 :: y1 :: y2 :: y3 :: y4 :: y5 :: y6 :: y7 :: y8 :: y9 :: y10 :: r) M QS = QS (y0 :: y1 :: y2 :: y3 :: y4 :: y5 :: y6 :: y7 :: y8 :: y9 :: some e :: r) M := rfl
theorem u_gn11 {y0 y1 y2 y3 y4 y5 y6 y7 y8 y9 y10 y11 : Option Zl.D} : zgName 11 e (y0 :: y1 :: y2 :: y3 :: y4 :: y5 :: y6 :: y7 :: y8 :: y9 :: y10 :: y11 :: r) M QS = QS (y0 :: y1 :: y2 :: y3 :: y4 :: y5 :: y6 :: y7 :: y8 :: y9 :: y10 :: some e :: r) M := rfl
theorem u_gn12 {y0 y1 y2 y3 y4 y5 y6 y7 y8 y9 y10 y11 y12 : Option Zl.D} : zgName 12 e (y0 :: y1 :: y2 :: y3 :: y4 :: y5 :: y6 :: y7 :: y8 :: y9 :: y10 :: y11 :: y12 :: r) M QS = QS (y0 :: y1 :: y2 :: y3 :: y4 :: y5 :: y6 :: y7 :: y8 :: y9 :: y10 :: y11 :: some e :: r) M := rfl
theorem u_gn13 {y0 y1 y2 y3 y4 y5 y6 y7 y8 y9 y10 y11 y12 y13 : Option Zl.D} : zgName 13 e (y0 :: y1 :: y2 :: y3 :: y4 :: y5 :: y6 :: y7 :: y8 :: y9 :: y10 :: y11 :: y12 :: y13 :: r) M QS = QS (y0 :: y1 :: y2 :: y3 :: y4 :: y5 :: y6 :: y7 :: y8 :: y9 :: y10 :: y11 :: y12 :: some e :: r) M := rfl
theorem u_gn14 {y0 y1 y2 y3 y4 y5 y6 y7 y8 y9 y10 y11 y12 y13 y14 : Option Zl.D} : zgName 14 e (y0 :: y1 :: y2 :: y3 :: y4 :: y5 :: y6 :: y7 :: y8 :: y9 :: y10 :: y11 :: y12 :: y13 :: y14 :: r) M QS = QS (y0 :: y1 :: y2 :: y3 :: y4 :: y5 :: y6 :: y7 :: y8 :: y9 :: y10 :: y11 :: y12 :: y13 :: some e :: r) M := rfl
theorem u_gn15 {y0 y1 y2 y3 y4 y5 y6 y7 y8 y9 y10 y11 y12 y13 y14 y15 : Option Zl.D} : zgName 15 e (y0 :: y1 :: y2 :: y3 :: y4 :: y5 :: y6 :: y7 :: y8 :: y9 :: y10 :: y11 :: y12 :: y13 :: y14 :: y15 :: r) M QS = QS (y0 :: y1 :: y2 :: y3 :: y4 :: y5 :: y6 :: y7 :: y8 :: y9 :: y10 :: y11 :: y12 :: y13 :: y14 :: some e :: r) M := rfl
theorem u_gn16 {y0 y1 y2 y3 y4 y5 y6 y7 y8 y9 y10 y11 y12 y13 y14 y15 y16 : Option Zl.D} : zgName 16 e (y0 :: y1 :: y2 :: y3 :: y4 :: y5 :: y6 :: y7 :: y8 :: y9 :: y10 :: y11 :: y12 :: y13 :: y14 :: y15 :: y16 :: r) M QS = QS (y0 :: y1 :: y2 :: y3 :: y4 :: y5 :: y6 :: y7 :: y8 :: y9 :: y10 :: y11 :: y12 :: y13 :: y14 :: y15 :: some e :: r) M := rfl
theorem u_gn17 {y0 y1 y2 y3 y4 y5 y6 y7 y8 y9 y10 y11 y12 y13 y14 y15 y16 y17 : Option Zl.D} : zgName 17 e (y0 :: y1 :: y2 :: y3 :: y4 :: y5 :: y6 :: y7 :: y8 :: y9 :: y10 :: y11 :: y12 :: y13 :: y14 :: y15 :: y16 :: y17 :: r) M QS = QS (y0 :: y1 :: y2 :: y3 :: y4 :: y5 :: y6 :: y7 :: y8 :: y9 :: y10 :: y11 :: y12 :: y13 :: y14 :: y15 :: y16 :: some e :: r) M := rfl
theorem u_gn18 {y0 y1 y2 y3 y4 y5 y6 y7 y8 y9 y10 y11 y12 y13 y14 y15 y16 y17 y18 : Option Zl.D} : zgName 18 e (y0 :: y1 :: y2 :: y3 :: y4 :: y5 :: y6 :: y7 :: y8 :: y9 :: y10 :: y11 :: y12 :: y13 :: y14 :: y15 :: y16 :: y17 :: y18 :: r) M QS = QS (y0 :: y1 :: y2 :: y3 :: y4 :: y5 :: y6 :: y7 :: y8 :: y9 :: y10 :: y11 :: y12 :: y13 :: y14 :: y15 :: y16 :: y17 :: some e :: r) M := rfl
theorem u_gn19 {y0 y1 y2 y3 y4 y5 y6 y7 y8 y9 y10 y11 y12 y13 y14 y15 y16 y17 y18 y19 : Option Zl.D} : zgName 19 e (y0 :: y1 :: y2 :: y3 :: y4 :: y5 :: y6 :: y7 :: y8 :: y9 :: y10 :: y11 :: y12 :: y13 :: y14 :: y15 :: y16 :: y17 :: y18 :: y19 :: r) M QS = QS (y0 :: y1 :: y2 :: y3 :: y4 :: y5 :: y6 :: y7 :: y8 :: y9 :: y10 :: y11 :: y12 :: y13 :: y14 :: y15 :: y16 :: y17 :: y18 :: some e :: r) M := rfl
theorem u_gn20 {y0 y1 y2 y3 y4 y5 y6 y7 y8 y9 y10 y11 y12 y13 y14 y15 y16 y17 y18 y19 y20 : Option Zl.D} : zgName 20 e (y0 :: y1 :: y2 :: y3 :: y4 :: y5 :: y6 :: y7 :: y8 :: y9 :: y10 :: y11 :: y12 :: y13 :: y14 :: y15 :: y16 :: y17 :: y18 :: y19 :: y20 :: r) M QS = QS (y0 :: y1 :: y2 :: y3 :: y4 :: y5 :: y6 :: y7 :: y8 :: y9 :: y10 :: y11 :: y12 :: y13 :: y14 :: y15 :: y16 :: y17 :: y18 :: y19 :: some e :: r) M := rfl
theorem u_gn21 {y0 y1 y2 y3 y4 y5 y6 y7 y8 y9 y10 y11 y12 y13 y14 y15 y16 y17 y18 y19 y20 y21 : Option Zl.D} : zgName 21 e (y0 :: y1 :: y2 :: y3 :: y4 :: y5 :: y6 :: y7 :: y8 :: y9 :: y10 :: y11 :: y12 :: y13 :: y14 :: y15 :: y16 :: y17 :: y18 :: y19 :: y20 :: y21 :: r) M QS = QS (y0 :: y1 :: y2 :: y3 :: y4 :: y5 :: y6 :: y7 :: y8 :: y9 :: y10 :: y11 :: y12 :: y13 :: y14 :: y15 :: y16 :: y17 :: y18 :: y19 :: y20 :: some e :: r) M := rfl
theorem u_gn22 {y0 y1 y2 y3 y4 y5 y6 y7 y8 y9 y10 y11 y12 y13 y14 y15 y16 y17 y18 y19 y20 y21 y22 : Option Zl.D} : zgName 22 e (y0 :: y1 :: y2 :: y3 :: y4 :: y5 :: y6 :: y7 :: y8 :: y9 :: y10 :: y11 :: y12 :: y13 :: y14 :: y15 :: y16 :: y17 :: y18 :: y19 :: y20 :: y21 :: y22 :: r) M QS = QS (y0 :: y1 :: y2 :: y3 :: y4 :: y5 :: y6 :: y7 :: y8 :: y9 :: y10 :: y11 :: y12 :: y13 :: y14 :: y15 :: y16 :: y17 :: y18 :: y19 :: y20 :: y21 :: some e :: r) M := rfl
theorem u_gn23 {y0 y1 y2 y3 y4 y5 y6 y7 y8 y9 y10 y11 y12 y13 y14 y15 y16 y17 y18 y19 y20 y21 y22 y23 : Option Zl.D} : zgName 23 e (y0 :: y1 :: y2 :: y3 :: y4 :: y5 :: y6 :: y7 :: y8 :: y9 :: y10 :: y11 :: y12 :: y13 :: y14 :: y15 :: y16 :: y17 :: y18 :: y19 :: y20 :: y21 :: y22 :: y23 :: r) M QS = QS (y0 :: y1 :: y2 :: y3 :: y4 :: y5 :: y6 :: y7 :: y8 :: y9 :: y10 :: y11 :: y12 :: y13 :: y14 :: y15 :: y16 :: y17 :: y18 :: y19 :: y20 :: y21 :: y22 :: some e :: r) M := rfl
end
section
variable {X : Cx} {x n : Str} {c : Value} {i : Nat} {body suite : List Stmt} {b0 : Stmt} {np pos pos' : Pos} {tb : WX → TS} {ts : Addr → Value → Option Addr → TS} {Wout : WX}
theorem zc_try (hs : X.stack = X.env :: X.outer) (hf : X.env.frame = some X.env.locals) (hN : X.N.Nodup) (hi : X.N[i]? = some n) (hln : X.env.kindOf n = some .local) (hc : Names X x c) (tk : L2N.Takes X Wout)
    (hb : ∀ (W : WX) (pn : List (Addr × Obj)) (xe : Value → Shared → Prop), L2N.Takes (X.tr pn xe) W → PassesOwn (model X.prog X.w) X.A X.env xe → PSs (X.tr pn xe) body (tb W))
    (hsu : ∀ (a : Addr) (oe : Obj) (cls : Value) (d : Option Addr) (pn : List (Addr × Obj)), L2N.Zn cls d oe → (∃ vs, oe.data = .fields vs) → PSs (X.suite a ((a, oe) :: pn)) (b0 :: suite) (ts a cls d)) :
    PS X (.Try body [.ExceptHandler (some (.Name x np)) (some n) (b0 :: suite) pos'] [] [] pos) (tTryAs X.K c i ts Wout tb) := L2N.ps_try_as hs hf hN hi hln hc tk hb hsu
end
theorem inD_ints {i : Int} {xs : List Int} : inD (.v (.int i)) (dInts xs) = decide (i ∈ xs) := by
  induction xs with
  | nil => rfl
  | cons x xs ih =>
    have e : inD (.v (.int i)) (dInts (x :: xs)) = ((x == i) || inD (.v (.int i)) (dInts xs)) := rfl
    rw [e, ih]
    by_cases h : x = i
    · subst h; simp
    · have : i ≠ x := fun q => h q.symm
      simp [h, this]
theorem fl_ints {xs : List Int} : (dInts xs).all flD = true := by
  rw [List.all_eq_true]
  intro d hd
  obtain ⟨i, _, rfl⟩ := ints_nice hd
  rfl
theorem e_inRow {neg : Bool} {i : Int} {xs : List Int} {M : MS} {Q : ZQ} : zIn neg (.v (.int i)) (rowD xs) M Q ↔ Q (.v (.bl (if neg then !decide (i ∈ xs) else decide (i ∈ xs)))) M := by
  unfold zIn
  constructor
  · rintro ⟨ds, e, _, _, q⟩
    cases e
    rw [inD_ints] at q
    exact q
  · intro q
    refine ⟨_, rfl, rfl, fl_ints, ?_⟩
    rw [inD_ints]
    exact q
/-- what holds between two statements -/
theorem zcut {s s2 : ZS} {D : ZEnds} {δ : ZSt} {M : MS} (I : ZSt → MS → Prop) (h1 : ∀ k : ZSt → MS → Prop, (∀ δ M, I δ M → k δ M) → s { D with nx := k } δ M) (h2 : ∀ δ M, I δ M → s2 D δ M) : zSeq s s2 D δ M := h1 _ h2
theorem hl_law : ∀ ds M Q E, spLaw ds M Q E → ds.length = 1 := fun ds M Q E h => by
  obtain ⟨ns, rfl, _⟩ := h
  rfl
end Zl
namespace Zl
open PySem PySem.Spec PyProof.Rows L2 LamX

/-! ### a lambda without parameters, handed to a def that calls it -/
/-- from H to H1 the lambda's code object was found in the table at P, or written there -/
def Made (P : Addr) (q : Str) (H H1 : Hp) (c' : Addr) : Prop :=
  (H1 = H ∧ ∃ (ps : Array Value) (pos : Pos), H P = some (.tbl ps) ∧ codeAmong pos ps.toList = some (.ref c')) ∨
  ∃ ps more : Array Value, H P = some (.tbl ps) ∧ H c' = none ∧ H1 = upd (upd H P (.tbl (ps ++ more))) c' (CodeO c' q) ∧ TriplesOk (ps ++ more).toList ∧
    ∀ pos cv, codeAmong pos (ps ++ more).toList = some cv → codeAmong pos ps.toList = some cv ∨ cv = .ref c'
abbrev lamObj (X : Cx) (params : Arguments) (body : Expr) (scope : Scope) (pm : Value) (c' : Addr) (ctv : Value) : Obj :=
  PySem.W.kla_obj "<lambda>" (X.env.qual ++ "<lambda>") params body scope (cloFrom X.env.cells scope.names []) pm c' ctv
section
variable {X : Cx} {pins : List (Addr × Obj)} {σ : L2.St} {H : Hp} {s : Shared}
theorem lam_made {c P : Addr} {params : Arguments} {body : Expr} {scope : Scope} {pos : Pos} {E : Value → Shared → Prop} {Q : Value → Shared → Prop} (I : Inv X pins σ H s)
    (TB : TabB X.base X.mg c P) (hcode : X.env.code = .ref c) (hT : TabS H P (X.env.qual ++ "<lambda>"))
    (hdef : defaultsOf params X.env = ([], [])) (hfree : ∀ y ∈ scope.names, y.2 = .free → ∃ c, X.env.cells.lookup y.1 = some c)
    (h : ∀ (f c' : Addr) (pm ctv : Value) (H1 : Hp) (s' : Shared), Inv X pins σ H1 s' → Made P (X.env.qual ++ "<lambda>") H H1 c' →
      s'.heap.get? f = some (lamObj X params body scope pm c' ctv) → H1 f = none → f ∉ frs X.stack → H1 c' = some (CodeO c' (X.env.qual ++ "<lambda>")) → Q (.ref f) s') :
    wpAny (model X.prog X.w) X.A (eval (.Lambda params body scope pos) X.env) Q E s := by
  obtain ⟨tb, a1, a2, a3⟩ := hT
  have b1 := TB.bm.keeps I.bk
  have b2 := I.hok P _ a1
  have old : ∀ g, s.heap.objs.size ≤ g → g ∉ frs X.stack := by
    intro g hg z
    rcases List.mem_cons.mp (I.stkSub _ z) with e | e
    · have l := I.lt
      rw [← e] at l
      exact Nat.not_lt.mpr hg l
    · exact I.nofs hg e
  apply PySem.W.kla_eval hdef
  cases hc : codeAmong pos tb.toList with
  | some cv =>
    obtain ⟨c', rfl, hco⟩ := a3 pos cv hc
    apply PySem.W.kla_makeFunctionHit (closure_ok hfree) I.ok.glob (I.mod.glob.keeps I.bk) hcode (TB.code.keeps I.bk) b2 a2 hc b1
    intro ctv h' tk hx hsz
    refine h _ c' _ ctv H _ (I.kept fun b o e => Heap.get?_push_of_some _ (hx b o e)) (.inl ⟨rfl, tb, pos, a1, hc⟩) (Heap.get?_push_size _ rfl) (I.hok.fresh hsz) (old _ hsz) hco
  | none =>
    apply PySem.W.kla_makeFunction (closure_ok hfree) I.ok.glob (I.mod.glob.keeps I.bk) hcode (TB.code.keeps I.bk) b2 a2 hc TB.gP b1
    rintro c' ctv h' tk hx hge hlt ⟨_, oc, vs, t, ⟨⟩, hoc, hd, hv⟩ htb
    have n0 : H c' = none := I.hok.fresh hge
    have sz := Nat.le_trans hge (Nat.le_of_lt hlt)
    have J := inv_table (t' := tk) (h' := h'.push (lamObj X params body scope ((X.mg "__name__").getD .none) c' ctv)) I a1
      (fun b o hb e => Heap.get?_push_of_some _ (hx b o hb e)) (Heap.get?_push_of_some _ htb) hge ⟨oc, vs, t, Heap.get?_push_of_some _ hoc, hd, hv⟩
    have eL : (tb ++ #[rawInt pos.line, rawInt pos.col, .ref c']).toList = tb.toList ++ [rawInt pos.line, rawInt pos.col, .ref c'] := by simp
    refine h h'.objs.size c' _ ctv _ _ J (.inr ⟨tb, _, a1, n0, rfl, ?_, fun p' cv e => ?_⟩) (Heap.get?_push_size _ rfl) ?_ (old _ sz) upd_same
    · rw [eL]
      exact PySem.TriplesOk_snoc _ _ _ _ a2
    · rw [eL] at e
      exact among_app _ a2 e
    · rw [upd_ne (Nat.ne_of_gt hlt), upd_ne (Nat.ne_of_gt (Nat.lt_of_lt_of_le (Heap.lt_size b2) sz))]
      exact I.hok.fresh sz
end
/-- the context of the lambda's body, exceptions' contexts being None -/
def lamCxN (X : Cx) (A : Around) (outer : List Env) (s : Shared) (H : Hp) (E : XK) (scope : Scope) (f c' : Addr) : Cx :=
  (lamCx X A outer s H E scope f c').tr [] fun e s' => wpAny (model X.prog X.w) (A.deeper (lamEnv X scope s.heap.objs.size f c')) (leaving (lamEnv X scope s.heap.objs.size f c') e)
    (fun _ s2 => L2N.CX X.prog X.w outer H s E e s2) (fun e2 s2 => L2N.CX X.prog X.w outer H s E e2 s2) s'
/-- a(), in the def that got the lambda: what it raises is wished for at its slots -/
def tAct (f c' : Addr) (q : Str) (tl : XK → Hp → VK → Prop) (W : WX) : TE := fun σ H Q => σ[0]? = some (some (.ref f)) ∧ H c' = some (CodeO c' q) ∧ tl (fun cls d H' => W cls d σ H') H Q
section
variable {X : Cx} {pins : List (Addr × Obj)} {σ : L2.St} {H : Hp} {s : Shared}
abbrev GCx (X : Cx) (Ng : List Str) (qg : Str) (sg : Scope) (g : Addr) (cdg : Value) (s : Shared) (H : Hp) : Cx := cxOf C8.CX0 X.prog X.w X.K X.mg X.base Ng qg sg g cdg X.A X.stack s H C8.E0
theorem pc_act {Ng : List Str} {qg a : Str} {sg : Scope} {g f c' : Addr} {cdg pm ctv : Value} {params : Arguments} {body : Expr} {scope : Scope} {k : Nat} {pn : List (Addr × Obj)} {xe : Value → Shared → Prop} {W : WX} {t : XK → TE} {p1 p2 : Pos}
    (I : Inv X pins σ H s) (L : LamS X.env.scope scope) (hf : s.heap.get? f = some (lamObj X params body scope pm c' ctv)) (hfn : H f = none) (hfr : f ∉ frs X.stack)
    (hbind : bindArgs (PySem.W.kla_fn "<lambda>" (X.env.qual ++ "<lambda>") params body scope (cloFrom X.env.cells scope.names []) pm (.ref c') ctv) ⟨[], []⟩ = pure [])
    (tk : L2N.Takes ((GCx X Ng qg sg g cdg s H).tr pn xe) W) (hr : Room (k + 1) (X.A.deeper (envOfC qg sg s.heap.objs.size g cdg)))
    (hbody : ∀ (A : Around) (outer : List Env) (s : Shared) (H : Hp) (E : XK), Room k (A.deeper (lamEnv X scope s.heap.objs.size f c')) → PE (lamCxN X A outer s H E scope f c') body (t E))
    (hN : Ng[0]? = some a) (hv : Vis sg a) (hd : (a == ("__debug__" : Str)) = false := by decide) (hcd : (a == ("__classdict__" : Str)) = false := by decide) :
    PE ((GCx X Ng qg sg g cdg s H).tr pn xe) (.Call (.Name a p1) [] [] p2) (tAct f c' (X.env.qual ++ "<lambda>") (fun E H' Q' => t E σ H' Q') W) := by
  constructor
  rintro pinsZ sZ σZ HZ Q IZ ⟨hs, hc, ht⟩
  apply wpAny_Call_Name_kw
  refine thn ((pe_var (pos := p1) (i := 0) hN hv hd hcd).run pinsZ sZ σZ HZ (fun v H1 => v = .ref f ∧ H1 = HZ) IZ ⟨.ref f, hs, rfl, rfl⟩) ?_
  rintro u s1 ⟨v, H1, I1, r1, q1, q2⟩
  subst q1
  rw [q2] at I1
  obtain rfl : u = Value.ref f := r1
  have g1 := I1.base.keep f _ hf hfn hfr (fun z => nomatch (show f ∈ ([] : List Addr) from z))
  apply PySem.W.callWith_F0 ⟨_, _, _, _, g1⟩
  obtain ⟨⟨oc, vs, t', k1, k2, k3⟩, _, _⟩ := I1.hok c' _ hc
  have rc : codeAny (model X.prog X.w) (X.A.deeper (envOfC qg sg s.heap.objs.size g cdg)) (.call (.ref f) ⟨[], []⟩) (CR (L2N.CX X.prog X.w) (envOfC qg sg s.heap.objs.size g cdg :: X.stack) X.prog X.w HZ s1 Q (WE W σZ)) s1 := by
    apply PySem.W.kla_callFunE hr.depth g1 rfl L.co L.gen rfl ⟨c', oc, vs, t', rfl, k1, k2, k3⟩
    rw [hbind]
    apply wpAny_pure
    refine wpAny_newFunctionEnv (fun y hy => (L.own y hy).2) (fun y hy => absurd hy (by simp)) (fun h₁ hns hsb => ?_) L.kind
    refine ⟨I1.nolimit.fresh _ hsb, PySem.W.kla_codeExpr ?_⟩
    have kp : ∀ b o, s1.heap.get? b = some o → h₁.get? b = some o := fun b o e =>
      hsb.extBut b o (Nat.ne_of_lt (Heap.lt_size e)) (Heap.get?_push_of_some _ e)
    have J := lam_start2 (f := f) (c' := c') (E := WE W σZ) (A := X.A.deeper (envOfC qg sg s.heap.objs.size g cdg)) (tk := s1.toks + ([] : List (Str × Value)).length) I L I1.env0 hr.hd (show Un (frs X.stack) [] H _ s.heap s1.heap from I1.base) hns kp
    have J2 : Inv (lamCxN X (X.A.deeper (envOfC qg sg s.heap.objs.size g cdg)) (envOfC qg sg s.heap.objs.size g cdg :: X.stack) s1 HZ (WE W σZ) scope f c') [] σ HZ _ := J.toTry _
    refine wpAny_mono ((hbody _ _ s1 _ _ (hr.deeper _)).run [] _ _ _ Q J2 ht) ?_ fun e s' hq => hq
    rintro v s' ⟨w', H', J', rv, q⟩
    exact ⟨w', H', J'.os, J'.bare, J'.base, J'.hok, rv, q⟩
  refine wpAny_call (codeAny_mono rc fun r s' hq => ?_)
  match r, hq with
  | .error e, hq => exact L2N.passAt tk σZ pinsZ _ s1 e s' I1 hq
  | .ok (.ret u), hq => exact I1.after hq
  | .ok .next, hq => exact False.elim hq
  | .ok .brk, hq => exact False.elim hq
  | .ok .cont, hq => exact False.elim hq
end
/-- x(lambda: ..): T is what the def x does with what it got -/
def tLam (P : Addr) (q : Str) (n : Nat) (T : Addr → Addr → (XK → Hp → VK → Prop) → TS) (t : XK → TE) : TE := fun σ H Q => TabS H P q ∧ ∀ H1 c' f, Made P q H H1 c' → H1 f = none →
  T f c' (fun E H' Q' => t E σ H' Q') { nx := fun _ H' => Q .non H', rt := Q } (some (.ref f) :: List.replicate n none) H1
section
variable {X : Cx}
theorem pc_lam {T : Addr → Addr → (XK → Hp → VK → Prop) → TS} {x a : Str} {g c P : Addr} {k n : Nat} {pg : Arguments} {bg : List Stmt} {sg : Scope} {dV kV doc pm cdv ct oc : Value} {an od : Option Addr} {osl : Array (Option Value)} {Ng : List Str}
    {params : Arguments} {body : Expr} {scope : Scope} {t : XK → TE} {p lpos pos : Pos} (hg : Gl X x) (hm : X.mg x = some (.ref g)) (hk : PySem.W.keepIn X.K (.ref g) = true)
    (lk : X.K.lookup g = some ⟨oc, od, .func (PySem.W.fnOf x x pg bg sg dV kV doc pm an cdv ct), osl⟩) (hcg : PySem.W.codeIn X.K cdv x = true) (hb : L2.Binds X.K (PySem.W.fnOf x x pg bg sg dV kV doc pm an cdv ct) [a] []) (Sg : FnScope Ng [a] sg)
    (hNg : Ng[0]? = some a) (hln : Ng.length = n + 1) (hva : Vis sg a)
    (hG : ∀ (f c' : Addr) (s : Shared) (H : Hp) (tl : XK → Hp → VK → Prop), Room 0 (X.A.deeper (envOfC x sg s.heap.objs.size g cdv)) →
      (∀ (W : WX) (pn : List (Addr × Obj)) (xe : Value → Shared → Prop) (p1 p2 : Pos), L2N.Takes ((GCx X Ng x sg g cdv s H).tr pn xe) W → PE ((GCx X Ng x sg g cdv s H).tr pn xe) (.Call (.Name a p1) [] [] p2) (tAct f c' (X.env.qual ++ "<lambda>") tl W)) →
      PSs (GCx X Ng x sg g cdv s H).nox bg (T f c' tl))
    (TB : TabB X.base X.mg c P) (hcode : X.env.code = .ref c) (hr : Room (k + 2) X.A) (L : LamS X.env.scope scope) (hdef : defaultsOf params X.env = ([], []))
    (hbind : ∀ (q : Str) (cl : List (Str × Addr)) (pm cv ctv : Value), bindArgs (PySem.W.kla_fn "<lambda>" q params body scope cl pm cv ctv) ⟨[], []⟩ = pure [])
    (hbody : ∀ (A : Around) (outer : List Env) (s : Shared) (H : Hp) (f c' : Addr) (E : XK), Room k (A.deeper (lamEnv X scope s.heap.objs.size f c')) → PE (lamCxN X A outer s H E scope f c') body (t E))
    (hdb : (x == ("__debug__" : Str)) = false := by decide) (hd : (a == ("__debug__" : Str)) = false := by decide) (hcd : (a == ("__classdict__" : Str)) = false := by decide) :
    PE X (.Call (.Name x p) [.Lambda params body scope lpos] [] pos) (tLam P (X.env.qual ++ "<lambda>") n T t) := by
  constructor
  rintro pins s σ H Q I ⟨hT, h⟩
  apply wpAny_Call_Name_kw
  refine ld_glob I hg hm (PySem.W.callWith_K (h₀ := X.base) I.ok.mod.kin hk ?_ (by rfl) (by rfl)) hdb
  show wpAny _ _ (spliced ((false, eval (.Lambda params body scope lpos) X.env) :: backTo pos (starEach [] X.env))) _ _ s
  refine Calls.spliced_cons (lam_made I TB hcode hT hdef (L.has I.ok) ?_)
  intro f c' pm' ctv H1 s' I1 mk hf hfn hfr hco
  refine Calls.spliced_nil ⟨I1.kIn, wpAny_call (codeAny_mono (?_ : codeAny _ _ _ (CR C8.CX0 X.stack X.prog X.w H1 s' Q C8.E0) s') fun r s2 hq => ?_)⟩
  · refine run_ofS (N := Ng) (ps := [a]) (us := [.ref f]) (vs := [.ref f]) lk hcg Sg hr I1.env0 (hb s' [.ref f] I1.kIn rfl) (.cons rfl .nil) rfl fun hr' => ?_
    refine ⟨_, (hG f c' s' H1 (fun E H' Q' => t E σ H' Q') (hr'.mono (Nat.zero_le _)) fun W pn xe p1 p2 tk => pc_act I1 L hf hfn hfr (hbind _ _ _ _ _) tk hr' (fun A outer s H E hr2 => hbody A outer s H f c' E hr2) hNg hva hd hcd).nox, ?_⟩
    have es : L2.start Ng [V.ref f] = some (.ref f) :: List.replicate n none := by
      unfold L2.start
      rw [hln]
      rfl
    rw [es]
    exact h H1 c' f mk hfn
  · match r, hq with
    | .error e, hq => exact (show False from hq).elim
    | .ok (.ret u), hq => exact I1.after hq
    | .ok .next, hq => exact False.elim hq
    | .ok .brk, hq => exact False.elim hq
    | .ok .cont, hq => exact False.elim hq
end
/-! ### lifted -/
def zAct (f : Addr) (za : ZX → MS → ZQ → Prop) (Wz : ZW) : ZE := fun δ M Q => δ[0]? = some (some (.v (.ref f))) ∧ za (fun C gs M' => Wz C gs δ M') M Q
section
variable {K : PySem.W.Frag} {w0 : W3}
/-- a reading with a wish about exceptions, at fixed slots -/
def LK (K : PySem.W.Frag) (w0 : W3) (tl : XK → Hp → VK → Prop) (za : ZX → MS → ZQ → Prop) : Prop := ∀ w E Ez Q Qz, Nx w0 w → Ok K w → CtX K w Ez E → CtE K w Qz Q → za Ez w.M Qz → tl E w.H Q
theorem le_act {f c' : Addr} {q : Str} {tl : XK → Hp → VK → Prop} {za : ZX → MS → ZQ → Prop} {W : WX} {Wz : ZW} (hW : CtW K w0 Wz W) (hl : LK K w0 tl za) (hc : w0.F c' = some (CodeO c' q)) : LE K w0 (tAct f c' q tl W) (zAct f za Wz) := fun w σ δ Qz Q l s rs c h => by
  obtain ⟨h1, h2⟩ := h
  obtain ⟨x, e1, r⟩ := rs.get 0 _ h1
  have ex := r.v_inv
  subst ex
  exact ⟨e1, s.sub _ _ (l.le _ _ hc), hl w _ _ Q Qz l s (fun u C d fs lu su rx q => hW u C d fs δ σ (l.tr lu) su (rs.le lu.le) rx q) c h2⟩
def zLam (P : Addr) (q : Str) (n : Nat) (zT : Addr → (ZX → MS → ZQ → Prop) → ZS) (zl : ZX → ZE) : ZE := fun δ M Q => M P = some (.tbl q) ∧ ∀ f,
  zT f (fun E M' Q' => zl E δ M' Q') { nx := fun _ M' => Q (.v .non) M', rt := Q } (some (.v (.ref f)) :: List.replicate n none) M
theorem le_lam {P : Addr} {q : Str} {n : Nat} {T : Addr → Addr → (XK → Hp → VK → Prop) → TS} {zT : Addr → (ZX → MS → ZQ → Prop) → ZS} {t : XK → TE} {zl : ZX → ZE}
    (hT : ∀ (w1 : W3) (f c' : Addr) (tl : XK → Hp → VK → Prop) (za : ZX → MS → ZQ → Prop), w1.F c' = some (CodeO c' q) → LK K w1 tl za → LS K w1 (T f c' tl) (zT f za))
    (hl : ∀ (w1 : W3) (E : XK) (Ez : ZX), CtX K w1 Ez E → LE K w1 (t E) (zl Ez)) : LE K w0 (tLam P q n T t) (zLam P q n zT zl) := fun w σ δ Qz Q l s rs c h => by
  obtain ⟨h1, h2⟩ := h
  obtain ⟨o, e1, e2⟩ := s.mu _ _ h1
  cases e2 with
  | @tbl _ ps tk r =>
    have fP : w.F P = none := by
      cases e : w.F P with
      | none => rfl
      | some o => rw [s.dis _ _ e] at h1; cases h1
    refine ⟨⟨ps, e1, tk, fun pos cv e => let ⟨c0, a, b⟩ := r pos cv e; ⟨c0, a, s.sub _ _ b⟩⟩, fun H1 c' f mk hf => ?_⟩
    have go : ∀ u : W3, Nx w u → Ok K u → u.F c' = some (CodeO c' q) → u.M = w.M → T f c' (fun E H' Q' => t E σ H' Q') { nx := fun _ H' => Q .non H', rt := Q } (some (.ref f) :: List.replicate n none) u.H := fun u lu su cu eM => by
      refine hT u f c' _ (fun E M' Q' => zl E δ M' Q') cu (fun v E Ez Q' Qz' lv sv cx ce hz => hl v E Ez cx v σ δ _ _ (Nx.rf v) sv (rs.le (lu.tr lv).le) ce hz) u _ (some (.v (.ref f)) :: List.replicate n none) { nx := fun _ M' => Qz (.v .non) M', rt := Qz } _ (Nx.rf u) su ?_ ⟨fun v δ' σ' lv sv _ hq => c v _ _ (lu.tr lv) sv (.v .non) hq, c.le lu, fun _ _ _ _ _ _ hq => hq.elim, fun _ _ _ _ _ _ hq => hq.elim⟩ ?_
      · refine ⟨by simp, fun i d e => ?_⟩
        cases i with
        | zero => cases e; exact ⟨_, rfl, .v _⟩
        | succ i =>
          rw [List.getElem?_cons_succ, List.getElem?_replicate] at e
          split at e <;> cases e
      · rw [eM]
        exact h2 f
    rcases mk with ⟨rfl, ps', pos, a1, a2⟩ | ⟨ps', more, a1, a2, rfl, a3, a4⟩
    · rw [e1] at a1
      cases a1
      obtain ⟨c0, b1, b2⟩ := r pos _ a2
      cases b1
      exact go w (Nx.rf w) s b2 rfl
    · rw [e1] at a1
      cases a1
      have nc : c' ≠ P := fun z => by rw [z, e1] at a2; cases a2
      have fc := s.nF a2
      have mc := s.nM a2
      refine go ⟨upd w.F c' (CodeO c' q), w.M, upd (upd w.H P (.tbl (ps ++ more))) c' (CodeO c' q)⟩ ⟨Le.put fc, fun a o ea nt na => ?_⟩ ⟨fun a o ea => ?_, fun a o ea => ?_, fun a m ea => ?_⟩ upd_same rfl
      · have n1 : a ≠ c' := fun z => by rw [z, a2] at ea; cases ea
        have n2 : a ≠ P := fun z => by rw [z, e1] at ea; cases ea; exact nt _ rfl
        refine ⟨?_, na, fun f0 => ?_⟩
        · show upd (upd w.H P _) c' _ a = _
          rw [upd_ne n1, upd_ne n2]
          exact ea
        · show upd w.F c' _ a = _
          rw [upd_ne n1]
          exact f0
      · show upd (upd w.H P _) c' _ a = _
        have ea' : upd w.F c' (CodeO c' q) a = some o := ea
        by_cases n1 : a = c'
        · subst n1
          rw [upd_same] at ea' ⊢
          exact ea'
        · rw [upd_ne n1] at ea'
          rw [upd_ne n1, upd_ne (fun z => by rw [z, fP] at ea'; cases ea')]
          exact s.sub _ _ ea'
      · have ea' : upd w.F c' (CodeO c' q) a = some o := ea
        by_cases n1 : a = c'
        · rw [n1]
          exact mc
        · rw [upd_ne n1] at ea'
          exact s.dis _ _ ea'
      · have n1 : a ≠ c' := fun z => by
          have ea' : w.M a = some m := ea
          rw [z, mc] at ea'
          cases ea'
        by_cases n2 : a = P
        · subst n2
          have em : m = .tbl q := by
            have ea' : w.M a = some m := ea
            rw [h1] at ea'
            cases ea'
            rfl
          subst em
          refine ⟨.tbl (ps ++ more), by show upd (upd w.H a _) c' _ a = _; rw [upd_ne n1, upd_same], .tbl a3 fun pos cv e => ?_⟩
          rcases a4 pos cv e with e | e
          · obtain ⟨c0, b1, b2⟩ := r pos cv e
            exact ⟨c0, b1, Le.put fc _ _ b2⟩
          · exact ⟨c', e, upd_same⟩
        · obtain ⟨o, b1, b2⟩ := s.mu _ _ ea
          exact ⟨o, by show upd (upd w.H P _) c' _ a = _; rw [upd_ne n1, upd_ne n2]; exact b1, b2.le (Le.put fc)⟩
end
end Zl
namespace Zl
open PySem PySem.Spec PyProof.Rows L2 LamX

/-! ### a def that calls the lambda it got -/
abbrev ZWd := (ZX → MS → ZQ → Prop) → MS → ZQ → Prop
theorem LK.le {K : PySem.W.Frag} {w u : W3} {tl : XK → Hp → VK → Prop} {za : ZX → MS → ZQ → Prop} (l : Nx w u) (h : LK K w tl za) : LK K u tl za := fun v E Ez Q Qz lv => h v E Ez Q Qz (l.tr lv)
/-- its context, from the frames stack -/
abbrev WCx (P : Program) (w : World) (K : PySem.W.Frag) (mg : Str → Option Value) (base : Heap) (Ng : List Str) (x : Str) (sg : Scope) (g : Addr) (cdg : Value) (A : Around) (stack : List Env) (s : Shared) (H : Hp) : Cx :=
  cxOf C8.CX0 P w K mg base Ng x sg g cdg A stack s H C8.E0
def ActOk (Z : Cx) (a : Str) (f c' : Addr) (q : Str) (tl : XK → Hp → VK → Prop) : Prop := ∀ (W : WX) (pn : List (Addr × Obj)) (xe : Value → Shared → Prop) (p1 p2 : Pos), L2N.Takes (Z.tr pn xe) W → PE (Z.tr pn xe) (.Call (.Name a p1) [] [] p2) (tAct f c' q tl W)
structure WordAt (P : Program) (w : World) (K : PySem.W.Frag) (mg : Str → Option Value) (base : Heap) (x : Str) (zw : ZWd) : Prop where
  ex : ∃ (a : Str) (g : Addr) (pg : Arguments) (bg : List Stmt) (sg : Scope) (dV kV doc pm cdv ct oc : Value) (an od : Option Addr) (osl : Array (Option Value)) (Ng : List Str) (n : Nat),
    mg x = some (.ref g) ∧ PySem.W.keepIn K (.ref g) = true ∧ K.lookup g = some ⟨oc, od, .func (PySem.W.fnOf x x pg bg sg dV kV doc pm an cdv ct), osl⟩ ∧ PySem.W.codeIn K cdv x = true ∧
    L2.Binds K (PySem.W.fnOf x x pg bg sg dV kV doc pm an cdv ct) [a] [] ∧ FnScope Ng [a] sg ∧ Ng[0]? = some a ∧ Ng.length = n + 1 ∧ Vis sg a ∧ (a == ("__debug__" : Str)) = false ∧ (a == ("__classdict__" : Str)) = false ∧
    ∃ T : Addr → Addr → Str → (XK → Hp → VK → Prop) → TS,
      (∀ (A : Around) (stack : List Env) (f c' : Addr) (q : Str) (s : Shared) (H : Hp) (tl : XK → Hp → VK → Prop), Room 0 (A.deeper (envOfC x sg s.heap.objs.size g cdv)) → ActOk (WCx P w K mg base Ng x sg g cdv A stack s H) a f c' q tl → PSs (WCx P w K mg base Ng x sg g cdv A stack s H).nox bg (T f c' q tl)) ∧
      ∀ (w1 : W3) (f c' : Addr) (q : Str) (tl : XK → Hp → VK → Prop) (za : ZX → MS → ZQ → Prop) (Q : VK) (Qz : ZQ), Ok K w1 → w1.F c' = some (CodeO c' q) → LK K w1 tl za → CtE K w1 Qz Q → zw za w1.M Qz →
        T f c' q tl { nx := fun _ H' => Q .non H', rt := Q } (some (.ref f) :: List.replicate n none) w1.H
section
variable {P : Program} {w : World} {K : PySem.W.Frag} {mg : Str → Option Value} {base : Heap}
theorem zword {x a : Str} {st : Stmt} {Ng : List Str} {n : Nat} {zw : ZWd} {T : Addr → Addr → Str → (XK → Hp → VK → Prop) → TS} {zT : Addr → (ZX → MS → ZQ → Prop) → ZS} (F : FunAt K mg x x st [a]) (S : FnScope Ng [a] (defScope st))
    (hN : Ng[0]? = some a) (hn : Ng.length = n + 1) (hv : Vis (defScope st) a)
    (hp : ∀ (g : Addr) (cdv : Value) (A : Around) (stack : List Env) (f c' : Addr) (q : Str) (s : Shared) (H : Hp) (tl : XK → Hp → VK → Prop), Room 0 (A.deeper (envOfC x (defScope st) s.heap.objs.size g cdv)) →
      ActOk (WCx P w K mg base Ng x (defScope st) g cdv A stack s H) a f c' q tl →
      PSs (WCx P w K mg base Ng x (defScope st) g cdv A stack s H).nox (defBody st) (T f c' q tl))
    (hl : ∀ (w0 : W3) (f c' : Addr) (q : Str) (tl : XK → Hp → VK → Prop) (za : ZX → MS → ZQ → Prop), w0.F c' = some (CodeO c' q) → LK K w0 tl za → LS K w0 (T f c' q tl) (zT f za))
    (hz : ∀ (f : Addr) (za : ZX → MS → ZQ → Prop) (M : MS) (Qz : ZQ), zw za M Qz → zT f za { nx := fun _ M' => Qz (.v .non) M', rt := Qz } (some (.v (.ref f)) :: List.replicate n none) M)
    (hd : (a == ("__debug__" : Str)) = false := by decide) (hcd : (a == ("__classdict__" : Str)) = false := by decide) : WordAt P w K mg base x zw := by
  obtain ⟨g, fd, F, e, b⟩ := F.ex
  obtain ⟨oc, od, dV, kV, doc, pm, an, cdv, ct, osl, rfl, lk, hc, _, _⟩ := F.ex
  refine ⟨⟨a, g, _, _, _, dV, kV, doc, pm, cdv, ct, oc, an, od, osl, Ng, n, e, F.kp, lk, hc, b, S, hN, hn, hv, hd, hcd, T, fun A stack f c' q s H tl hr act => hp g cdv A stack f c' q s H tl hr act, fun w1 f c' q tl za Q Qz ok hc' lk' cq h => ?_⟩⟩
  refine hl w1 f c' q tl za hc' lk' w1 _ (some (.v (.ref f)) :: List.replicate n none) { nx := fun _ M' => Qz (.v .non) M', rt := Qz } _ (Nx.rf w1) ok ?_ ⟨fun v δ' σ' lv sv _ hq => cq v _ _ lv sv (.v .non) hq, cq, fun _ _ _ _ _ _ hq => hq.elim, fun _ _ _ _ _ _ hq => hq.elim⟩ (hz f za w1.M Qz h)
  refine ⟨by simp, fun i d e => ?_⟩
  cases i with
  | zero => cases e; exact ⟨_, rfl, .v _⟩
  | succ i =>
    rw [List.getElem?_cons_succ, List.getElem?_replicate] at e
    split at e <;> cases e
end
/-- x(lambda: ..) by what x promises -/
def tLamW (K : PySem.W.Frag) (P : Addr) (q : Str) (zw : ZWd) (t : XK → TE) : TE := fun σ H Q => TabS H P q ∧ ∀ H1 c', Made P q H H1 c' →
  ∃ (w : W3) (za : ZX → MS → ZQ → Prop) (Qz : ZQ), w.H = H1 ∧ Ok K w ∧ w.F c' = some (CodeO c' q) ∧ LK K w (fun E H' Q' => t E σ H' Q') za ∧ CtE K w Qz Q ∧ zw za w.M Qz
theorem zc_lam {X : Cx} {x : Str} {zw : ZWd} {c P : Addr} {k : Nat} {params : Arguments} {body : Expr} {scope : Scope} {t : XK → TE} {p lpos pos : Pos} (d : WordAt X.prog X.w X.K X.mg X.base x zw) (hg : Gl X x)
    (TB : TabB X.base X.mg c P) (hcode : X.env.code = .ref c) (hr : Room (k + 2) X.A) (L : LamS X.env.scope scope) (hdef : defaultsOf params X.env = ([], []))
    (hbind : ∀ (q : Str) (cl : List (Str × Addr)) (pm cv ctv : Value), bindArgs (PySem.W.kla_fn "<lambda>" q params body scope cl pm cv ctv) ⟨[], []⟩ = pure [])
    (hbody : ∀ (A : Around) (outer : List Env) (s : Shared) (H : Hp) (f c' : Addr) (E : XK), Room k (A.deeper (lamEnv X scope s.heap.objs.size f c')) → PE (lamCxN X A outer s H E scope f c') body (t E))
    (hdb : (x == ("__debug__" : Str)) = false := by decide) : PE X (.Call (.Name x p) [.Lambda params body scope lpos] [] pos) (tLamW X.K P (X.env.qual ++ "<lambda>") zw t) := by
  obtain ⟨a, g, pg, bg, sg, dV, kV, doc, pm, cdv, ct, oc, an, od, osl, Ng, n, e, hk, lk, hc, b, S, hN, hn, hv, hd, hcd, T, hp, hz⟩ := d.ex
  refine ⟨fun pins s σ H Q I h => ?_⟩
  refine (pc_lam (T := fun f c' tl => T f c' (X.env.qual ++ "<lambda>") tl) hg e hk lk hc b S hN hn hv (fun f c' s H tl hr act => hp X.A X.stack f c' _ s H tl hr act) TB hcode hr L hdef hbind hbody hdb hd hcd).run pins s σ H Q I ⟨h.1, fun H1 c' f mk hf => ?_⟩
  obtain ⟨w, za, Qz, rfl, ok, hc', lk', cq, hq⟩ := h.2 H1 c' mk
  exact hz w f c' _ _ za Q Qz ok hc' lk' cq hq
def zLamW (P : Addr) (q : Str) (zw : ZWd) (zl : ZX → ZE) : ZE := fun δ M Q => M P = some (.tbl q) ∧ zw (fun E M' Q' => zl E δ M' Q') M Q
section
variable {K : PySem.W.Frag} {w0 : W3}
theorem le_lamW {P : Addr} {q : Str} {zw : ZWd} {t : XK → TE} {zl : ZX → ZE} (hl : ∀ (w1 : W3) (E : XK) (Ez : ZX), CtX K w1 Ez E → LE K w1 (t E) (zl Ez)) : LE K w0 (tLamW K P q zw t) (zLamW P q zw zl) := fun w σ δ Qz Q l s rs c h => by
  obtain ⟨h1, h2⟩ := h
  obtain ⟨o, e1, e2⟩ := s.mu _ _ h1
  cases e2 with
  | @tbl _ ps tk r =>
    have fP : w.F P = none := by
      cases e : w.F P with
      | none => rfl
      | some o => rw [s.dis _ _ e] at h1; cases h1
    refine ⟨⟨ps, e1, tk, fun pos cv e => let ⟨c0, a, b⟩ := r pos cv e; ⟨c0, a, s.sub _ _ b⟩⟩, fun H1 c' mk => ?_⟩
    have go : ∀ u : W3, Nx w u → Ok K u → u.F c' = some (CodeO c' q) → u.M = w.M → u.H = H1 → ∃ (w : W3) (za : ZX → MS → ZQ → Prop) (Qz : ZQ), w.H = H1 ∧ Ok K w ∧ w.F c' = some (CodeO c' q) ∧ LK K w (fun E H' Q' => t E σ H' Q') za ∧ CtE K w Qz Q ∧ zw za w.M Qz := fun u lu su cu eM eH =>
      ⟨u, fun E M' Q' => zl E δ M' Q', Qz, eH, su, cu, fun v E Ez Q' Qz' lv sv cx ce hz => hl v E Ez (fun u' C d fs l' s' rx q => cx u' C d fs (by exact l') s' rx q) v σ δ _ _ (Nx.rf v) sv (rs.le (lu.tr lv).le) ce hz, c.le lu, by rw [eM]; exact h2⟩
    rcases mk with ⟨rfl, ps', pos, a1, a2⟩ | ⟨ps', more, a1, a2, rfl, a3, a4⟩
    · rw [e1] at a1
      cases a1
      obtain ⟨c0, b1, b2⟩ := r pos _ a2
      cases b1
      exact go w (Nx.rf w) s b2 rfl rfl
    · rw [e1] at a1
      cases a1
      have fc := s.nF a2
      have mc := s.nM a2
      refine go ⟨upd w.F c' (CodeO c' q), w.M, upd (upd w.H P (.tbl (ps ++ more))) c' (CodeO c' q)⟩ ⟨Le.put fc, fun a o ea nt na => ?_⟩ ⟨fun a o ea => ?_, fun a o ea => ?_, fun a m ea => ?_⟩ upd_same rfl rfl
      · have n1 : a ≠ c' := fun z => by rw [z, a2] at ea; cases ea
        have n2 : a ≠ P := fun z => by rw [z, e1] at ea; cases ea; exact nt _ rfl
        refine ⟨?_, na, fun f0 => ?_⟩
        · show upd (upd w.H P _) c' _ a = _
          rw [upd_ne n1, upd_ne n2]
          exact ea
        · show upd w.F c' _ a = _
          rw [upd_ne n1]
          exact f0
      · show upd (upd w.H P _) c' _ a = _
        have ea' : upd w.F c' (CodeO c' q) a = some o := ea
        by_cases n1 : a = c'
        · subst n1
          rw [upd_same] at ea' ⊢
          exact ea'
        · rw [upd_ne n1] at ea'
          rw [upd_ne n1, upd_ne (fun z => by rw [z, fP] at ea'; cases ea')]
          exact s.sub _ _ ea'
      · have ea' : upd w.F c' (CodeO c' q) a = some o := ea
        by_cases n1 : a = c'
        · rw [n1]
          exact mc
        · rw [upd_ne n1] at ea'
          exact s.dis _ _ ea'
      · have n1 : a ≠ c' := fun z => by
          have ea' : w.M a = some m := ea
          rw [z, mc] at ea'
          cases ea'
        by_cases n2 : a = P
        · subst n2
          have em : m = .tbl q := by
            have ea' : w.M a = some m := ea
            rw [h1] at ea'
            cases ea'
            rfl
          subst em
          refine ⟨.tbl (ps ++ more), by show upd (upd w.H a _) c' _ a = _; rw [upd_ne n1, upd_same], .tbl a3 fun pos cv e => ?_⟩
          rcases a4 pos cv e with e | e
          · obtain ⟨c0, b1, b2⟩ := r pos cv e
            exact ⟨c0, b1, Le.put fc _ _ b2⟩
          · exact ⟨c', e, upd_same⟩
        · obtain ⟨o, b1, b2⟩ := s.mu _ _ ea
          exact ⟨o, by show upd (upd w.H P _) c' _ a = _; rw [upd_ne n1, upd_ne n2]; exact b1, b2.le (Le.put fc)⟩
end
/-! ### defs that make lambdas: their code objects, their tables -/
abbrev tP (K : PySem.W.Frag) (x : Str) : Addr := He.tabOf K (He.codeOf K (x, none))
abbrev tC (K : PySem.W.Frag) (x : Str) : Addr := He.codeOf K (x, none)
/-- the name of a lambda made in the def x -/
abbrev qL (x : Str) : Str := (x ++ ".<locals>.") ++ "<lambda>"
structure FunAtC (K : PySem.W.Frag) (mg : Str → Option Value) (x qual : Str) (st : Stmt) (ps : List Str) : Prop where
  ex : ∃ (f : Addr) (fd : FuncData), FunD K x qual (defArgs st) (defBody st) (defScope st) [] [] f fd ∧ mg x = some (.ref f) ∧ L2.Binds K fd ps [] ∧ fd.code = .ref (Zl.tC K x)
theorem code_of {K : PySem.W.Frag} {x qual : Str} {p : He.Defn} {params : Arguments} {body : List Stmt} {scope : Scope} {dvs : List V} {kws : List (Str × V)} {fd : FuncData} (F : FunD K x qual params body scope dvs kws (He.fAd K p) fd) : fd.code = .ref (He.codeOf K p) := by
  obtain ⟨oc, od, dV, kV, doc, pm, an, cdv, ct, osl, e, lk, hc, _⟩ := F.ex
  obtain ⟨c, ec⟩ := He.codeIn_ref hc
  have e2 : fd.code = .ref c := by rw [e]; exact ec
  rw [He.codeOf_eq lk e2]
  exact e2
section
variable {P : Program} {w : World} {K : PySem.W.Frag} {mg : Str → Option Value} {base : Heap}
theorem zok_coreC {x qual : Str} {st : Stmt} {N ps : List Str} {k : Nat} {zp : ZSp} {f : Addr} {fd : FuncData} {cdv : Value} (F : FunD K x qual (defArgs st) (defBody st) (defScope st) [] [] f fd) (hcd : fd.code = cdv) (S : FnScope N ps (defScope st)) (hl : ∀ ds M Q E, zp ds M Q E → ds.length = ps.length)
    (hb : ∀ (A : Around) (outer : List Env) (s : Shared) (H : Hp) (E : XK) (w0 : W3) (Ez : ZX), Room k (A.deeper (envOfC qual (defScope st) s.heap.objs.size f cdv)) → CtW K w0 (WBz Ez) (WB E) →
      ∃ (t : TS) (z : ZS), PSs (cxOf (L2N.CX P w) P w K mg base N qual (defScope st) f cdv A outer s H E) (defBody st) t ∧ LS K w0 t z ∧
        ∀ ds Qz, zp ds w0.M Qz Ez → z { nx := fun _ M' => Qz (.v .non) M', rt := Qz } (zstart N.length ds) w0.M) : FnOk P w K mg base (L2N.CX P w) (k + 1) f fd ps (spOf K zp) := by
  obtain ⟨oc, od, dV, kV, doc, pm, an, cd, ct, osl, rfl, lk, hc, _, _⟩ := F.ex
  have ec : cd = cdv := hcd
  subst ec
  refine fn_of lk hc S (fun vs H Q E h => ?_) fun A outer s H vs Q E hr h => ?_
  · obtain ⟨w, ds, Qz, Ez, rfl, ok, r, _, _, h⟩ := h
    rw [← r.len]
    exact hl _ _ _ _ h
  · obtain ⟨w0, ds, Qz, Ez, rfl, ok, r, cq, cx, h⟩ := h
    obtain ⟨t, z, hp, hz, hh⟩ := hb A outer s w0.H E w0 Ez hr (ctW_of cx)
    exact ⟨t, hp, hz w0 _ _ { nx := fun _ M' => Qz (.v .non) M', rt := Qz } _ (Nx.rf w0) ok (RepS.start r N.length) ⟨fun u δ σ lu su ru q => cq u _ _ lu su (.v _) q, cq, fun _ _ _ _ _ _ q => q, fun _ _ _ _ _ _ q => q⟩ (hh ds Qz h)⟩
theorem zokC {x qual : Str} {st : Stmt} {N ps : List Str} {k : Nat} {zp : ZSp} (T : FunAtC K mg x qual st ps) (S : FnScope N ps (defScope st)) (hl : ∀ ds M Q E, zp ds M Q E → ds.length = ps.length)
    (hb : ∀ (f : Addr) (A : Around) (outer : List Env) (s : Shared) (H : Hp) (E : XK) (w0 : W3) (Ez : ZX), Room k (A.deeper (envOfC qual (defScope st) s.heap.objs.size f (.ref (Zl.tC K x)))) → CtW K w0 (WBz Ez) (WB E) →
      ∃ (t : TS) (z : ZS), PSs (cxOf (L2N.CX P w) P w K mg base N qual (defScope st) f (.ref (Zl.tC K x)) A outer s H E) (defBody st) t ∧ LS K w0 t z ∧
        ∀ ds Qz, zp ds w0.M Qz Ez → z { nx := fun _ M' => Qz (.v .non) M', rt := Qz } (zstart N.length ds) w0.M) : DefAt P w K mg base (k + 1) x ps zp := by
  obtain ⟨f, fd, F, e, b, hc⟩ := T.ex
  exact ⟨f, fd, zok_coreC F hc S hl (hb f), e, F.kp, b⟩
end
/-! ### the end of a law with tables -/
/-- the tables at the start: each name's -/
def tabM (ts : List (Addr × Str)) : MS := fun b => (ts.lookup b).map .tbl
def spLawT (ts : List (Addr × Str)) : ZSp := fun ds M Q _ => ∃ ns : List Int, ds = [.rd (ns.map fun n => .v (.int n))] ∧ ns.length ≤ 63 ∧ (∀ z ∈ ns, Builtin.Int.intBits z ≤ 1048576) ∧ M = tabM ts ∧ ∀ M', Q (.v (.bl true)) M'
theorem hl_lawT {ts : List (Addr × Str)} : ∀ ds M Q E, spLawT ts ds M Q E → ds.length = 1 := fun ds M Q E h => by
  obtain ⟨ns, rfl, _⟩ := h
  rfl
theorem mem_of_look : ∀ {ts : List (Addr × Str)} {b : Addr} {q : Str}, ts.lookup b = some q → (b, q) ∈ ts
  | [], _, _, h => nomatch h
  | (c, u) :: r, b, q, h => by
    rw [List.lookup_cons] at h
    cases e : (b == c) with
    | true =>
      rw [e] at h
      cases h
      rw [beq_iff_eq.mp e]
      exact List.mem_cons_self
    | false =>
      rw [e] at h
      exact List.mem_cons_of_mem _ (mem_of_look h)
theorem walk_lawT {l : PySem.W.OpenLaw} {k : Nat} {q : Program} {loose : List Str} {XP : (Str → Option Value) → Heap → Prop} {YP : World → Heap → Prop} {d : DefRec}
    (hn : l.most = some 63) (hdf : d.params.defaults = []) (hr : Room k callerA)
    (F : ∀ (w : World) (mg : Str → Option Value) (fa : Addr) (h : Heap), YP w h → h.Ns mainGlobals mg → mg d.name = some (.ref fa) →
      ∃ (K : PySem.W.Frag) (fd : FuncData) (ts : List (Addr × Addr × Str)), K.In h ∧ (∀ (s : Shared) (u : Value), BindsTo s fd ⟨[u], []⟩ [("script", u)]) ∧
        (∀ p ∈ ts, h.get? p.2.1 = some { cls := .none, data := .fields #[] } ∧ K.lookup p.2.1 = none ∧ PySem.W.codeHdIn K p.1 p.2.1 = true) ∧
        ∀ base : Heap, K.In base → base.Ns mainGlobals mg → (∀ p ∈ ts, TabB base mg p.1 p.2.1) → FnOk l.prog w K mg base (L2N.CX l.prog w) k fa fd ["script"] (spOf K (spLawT (ts.map (·.2))))) :
    PySem.W.WalkO q loose XP YP l.row.toRowW d [] (fun f vs => PySem.call f vs) := by
  refine Att.attach_callB hn hdf fun w s₀ s₁ mg mb fa o pm cd doc a vs ns G Y ho hd hcd hmg hobj hints hlen hbits hg => ?_
  obtain ⟨K, fd, ts, KX, hb, hT, hF⟩ := F w mg fa _ Y G.T.g hmg
  have cs : ∀ p ∈ ts.map (fun t => (t.1, t.2.1)), ∃ t ∈ ts, p = (t.1, t.2.1) := fun p hp => let ⟨t, h1, h2⟩ := List.mem_map.mp hp; ⟨t, h1, h2.symm⟩
  refine law_callTs (cs := ts.map fun t => (t.1, t.2.1)) KX G.T.g G.T.b G.T.builtins G.T.nolimit hg (fun p hp => ?_) (fun p hp => ?_) (fun p hp => ?_) G.T.bmain hobj hints (Nat.le_trans hlen (by decide)) hr
    (fun base h1 h2 h3 => hF base h1 h2 fun t ht => h3 (t.1, t.2.1) (List.mem_map.mpr ⟨t, ht, rfl⟩)) hb (fun H hH hS => ?_) fun H e s' z => ?_
  · obtain ⟨t, ht, rfl⟩ := cs p hp
    exact (hT t ht).1
  · obtain ⟨t, ht, rfl⟩ := cs p hp
    exact (hT t ht).2.1
  · obtain ⟨t, ht, rfl⟩ := cs p hp
    exact PySem.W.codeHd_of_K KX (hT t ht).2.2
  · have hM : ∀ b m, tabM (ts.map (·.2)) b = some m → ∃ q, m = .tbl q ∧ H b = some (.tbl #[]) := fun b m e => by
      unfold tabM at e
      cases e2 : (ts.map (·.2)).lookup b with
      | none => rw [e2] at e; cases e
      | some q =>
        rw [e2] at e
        cases e
        obtain ⟨t, ht, et⟩ := List.mem_map.mp (mem_of_look e2)
        refine ⟨q, rfl, ?_⟩
        have h2 := hH (t.1, t.2.1) (List.mem_map.mpr ⟨t, ht, rfl⟩)
        have e3 : t.2.1 = b := by rw [et]
        rw [← e3]
        exact h2
    let F0 : Hp := fun b => if (tabM (ts.map (·.2)) b).isSome then none else H b
    have F0e : ∀ b o, F0 b = some o → tabM (ts.map (·.2)) b = none ∧ H b = some o := fun b o e => by
      have e' : (if (tabM (ts.map (·.2)) b).isSome then none else H b) = some o := e
      cases e2 : tabM (ts.map (·.2)) b with
      | none => rw [e2] at e'; exact ⟨rfl, e'⟩
      | some m => rw [e2] at e'; cases e'
    have F0i : ∀ b u, H b = some u → (∀ ps, u ≠ .tbl ps) → F0 b = some u := fun b u e n => by
      show (if (tabM (ts.map (·.2)) b).isSome then none else H b) = some u
      cases e2 : tabM (ts.map (·.2)) b with
      | none => exact e
      | some m =>
        obtain ⟨_, _, e3⟩ := hM b m e2
        rw [e] at e3
        cases e3
        exact absurd rfl (n _)
    refine ⟨⟨F0, tabM (ts.map (·.2)), H⟩, [.rd (ns.map fun n => .v (.int n))], fun d _ => d = .v (.bl true), fun _ _ _ => False, rfl, ⟨fun b o e => (F0e b o e).2, fun b o e => (F0e b o e).1, fun b m e => ?_⟩, .cons (.rd ?_ (reps_ints ns)) .nil, fun u d x _ _ r e => ?_, fun _ _ _ _ _ _ _ z => z, ns, rfl, hlen, hbits, rfl, fun _ => rfl⟩
    · obtain ⟨q, rfl, e2⟩ := hM b m e
      exact ⟨_, e2, .tbl True.intro fun pos cv hc => by
        have z : codeAmong pos [] = some cv := hc
        simp [codeAmong] at z⟩
    · rcases hS with h | h
      · rcases h with h | ⟨o, h⟩
        · exact .inl (.inl (F0i _ _ h fun _ => nofun))
        · exact .inl (.inr ⟨o, F0i _ _ h fun _ => nofun⟩)
      · exact .inr h
    · subst e
      exact r.v_inv
  · obtain ⟨_, _, _, _, _, _, _, _, _, _, _, _, z⟩ := z
    exact z.elim
end Zl
namespace Zl
open PySem PySem.Spec PyProof.Rows L2

/-! ### keys of any depth, seen in the abstract heap -/
mutual
inductive KeyAt (H : Hp) : NestedKey → V → Prop
  | none : KeyAt H .none .non
  | bool (b : Bool) : KeyAt H (.num (if b then 1 else 0)) (.bl b)
  | int (i : Int) : KeyAt H (.num i) (.int i)
  | text (x : Str) : KeyAt H (.text x) (.str x)
  | tup {a : Addr} {xs : List V} {ks : List NestedKey} (h : H a = some (.tup xs)) (r : KeysAt H ks xs) : KeyAt H (.tup ks) (.ref a)
inductive KeysAt (H : Hp) : List NestedKey → List V → Prop
  | nil : KeysAt H [] []
  | cons {k : NestedKey} {x : V} {ks : List NestedKey} {xs : List V} (h : KeyAt H k x) (r : KeysAt H ks xs) : KeysAt H (k :: ks) (x :: xs)
end
mutual
theorem key_at {K : PySem.W.Frag} {F H : Hp} (l : Le F H) : ∀ {d : D} {k : NestedKey} {x : V}, keyOf d = some k → Rep K F d x → KeyAt H k x
  | .v v, k, x, e, r => by
    have ex := r.v_inv
    subst ex
    cases x with
    | non => cases e; exact .none
    | bl b => cases e; exact .bool b
    | int i => cases e; exact .int i
    | str s => cases e; exact .text s
    | _ => cases e
  | .tup ds, k, x, e, r => by
    cases r with
    | @tup _ a xs h r =>
      unfold keyOf at e
      obtain ⟨ks, e1, e2⟩ := Option.map_eq_some_iff.mp e
      subst e2
      exact .tup (l _ _ h) (keys_at l e1 r)
  | .lst _, _, _, e, _ => by cases e
  | .rd _, _, _, e, _ => by cases e
  | .dct _, _, _, e, _ => by cases e
  | .ins _ _, _, _, e, _ => by cases e
theorem keys_at {K : PySem.W.Frag} {F H : Hp} (l : Le F H) : ∀ {ds : List D} {ks : List NestedKey} {xs : List V}, keysOf ds = some ks → Reps K F ds xs → KeysAt H ks xs
  | [], _, _, e, r => by
    cases e
    cases r
    exact .nil
  | d :: ds, ks, xs, e, r => by
    cases r with
    | cons a r =>
      unfold keysOf at e
      cases e1 : keyOf d with
      | none => rw [e1] at e; cases e
      | some k =>
        cases e2 : keysOf ds with
        | none => rw [e1, e2] at e; cases e
        | some ks' =>
          rw [e1, e2] at e
          cases e
          exact .cons (key_at l e1 a) (keys_at l e2 r)
end
mutual
theorem nested_is {P : Program} {w : World} {H : Hp} {h : Heap} (ok : HOk P w H h) : ∀ {k : NestedKey} {x : V} {u : Value}, KeyAt H k x → RelV x u → NestedIs h k u
  | _, _, _, .none, r => by cases r; exact .none
  | _, _, _, .bool b, r => by cases r; exact .bool rfl
  | _, _, _, .int i, r => by obtain ⟨t, rfl⟩ := r; exact .int i t
  | _, _, _, .text x, r => by obtain ⟨t, rfl⟩ := r; exact .text x t
  | _, _, _, .tup e q, r => by
    cases (show _ = Value.ref _ from r)
    obtain ⟨_, its, rv, o, h1, h2, n, h3⟩ := ok _ _ e
    exact .tup h1 h2 h3 (by simpa using nested_all ok q rv)
theorem nested_all {P : Program} {w : World} {H : Hp} {h : Heap} (ok : HOk P w H h) : ∀ {ks : List NestedKey} {xs : List V} {us : List Value}, KeysAt H ks xs → Vals xs us → NestedAll h ks us
  | _, _, _, .nil, .nil => .nil
  | _, _, _, .cons a r, .cons b t => .cons (nested_is ok a b) (nested_all ok r t)
end
/-! ### such dicts -/
abbrev NE : Type := NestedKey × Addr × V
def KeysOk (H : Hp) (xs : List NE) : Prop := ∀ p ∈ xs, KeyAt H p.1 (.ref p.2.1) ∧ p.1.depth ≤ 8
abbrev PairN : List NE → List (NestedKey × Addr × Value) → Prop := Paired (fun (p : NE) (q : NestedKey × Addr × Value) => p.1 = q.1 ∧ p.2.1 = q.2.1 ∧ RelV p.2.2 q.2.2)
def valN (xs : List NE) (k : NestedKey) : Option V := (xs.find? fun x => decide (x.1 = k)).map (·.2.2)
def putX (xs : List NE) (k : NestedKey) (b : Addr) (v : V) : List NE := if (valN xs k).isSome then xs.map (fun x => if x.1 = k then (x.1, x.2.1, v) else x) else xs ++ [(k, b, v)]
theorem putX_len (xs : List NE) (k : NestedKey) (b : Addr) (v : V) : (putX xs k b v).length ≤ xs.length + 1 := by
  unfold putX
  split
  · rw [List.length_map]; omega
  · rw [List.length_append]; exact Nat.le_refl _
theorem putX_keys {H : Hp} {xs : List NE} {k : NestedKey} {b : Addr} {v : V} (h : KeysOk H xs) (hk : KeyAt H k (.ref b)) (hd : k.depth ≤ 8) : KeysOk H (putX xs k b v) := fun p hp => by
  unfold putX at hp
  split at hp
  · obtain ⟨q, hq, rfl⟩ := List.mem_map.mp hp
    have := h q hq
    split
    · exact this
    · exact this
  · rcases List.mem_append.mp hp with z | z
    · exact h p z
    · cases List.mem_singleton.mp z
      exact ⟨hk, hd⟩
theorem PairN.val {xs : List NE} {ys : List (NestedKey × Addr × Value)} (r : PairN xs ys) (k : NestedKey) : RelO (valN xs k) ((atKey ys k).map (·.2)) := by
  induction r with
  | nil => exact True.intro
  | @cons p q l m h t ih =>
    obtain ⟨h1, h2, h3⟩ := h
    unfold valN atKey
    rw [List.find?_cons, List.find?_cons, ← h1]
    cases e : decide (p.1 = k) with
    | true => exact h3
    | false => exact ih
theorem PairN.len {xs : List NE} {ys : List (NestedKey × Addr × Value)} (r : PairN xs ys) : xs.length = ys.length := Paired.length r
theorem PairN.keys {xs : List NE} {ys : List (NestedKey × Addr × Value)} (r : PairN xs ys) : ys.map (·.1) = xs.map (·.1) := by
  induction r with
  | nil => rfl
  | cons h t ih => rw [List.map_cons, List.map_cons, ih, h.1]
theorem PairN.map {xs : List NE} {ys : List (NestedKey × Addr × Value)} (r : PairN xs ys) (k : NestedKey) {v : V} {u : Value} (rv : RelV v u) : PairN (xs.map fun x => if x.1 = k then (x.1, x.2.1, v) else x) (ys.map (putAt k u)) := by
  induction r with
  | nil => exact .nil
  | @cons p q l m h t ih =>
    refine .cons ?_ ih
    obtain ⟨h1, h2, h3⟩ := h
    unfold putAt
    dsimp only
    by_cases e : p.1 = k
    · rw [if_pos e, if_pos (h1 ▸ e)]
      exact ⟨h1, h2, rv⟩
    · rw [if_neg e, if_neg (h1 ▸ e)]
      exact ⟨h1, h2, h3⟩
theorem PairN.app {xs xs' : List NE} {ys ys' : List (NestedKey × Addr × Value)} (r : PairN xs ys) (r' : PairN xs' ys') : PairN (xs ++ xs') (ys ++ ys') := by
  induction r with
  | nil => exact r'
  | cons h t ih => exact .cons h ih
theorem PairN.put {xs : List NE} {ys : List (NestedKey × Addr × Value)} (r : PairN xs ys) (k : NestedKey) (b : Addr) {v : V} {u : Value} (rv : RelV v u) : PairN (putX xs k b v) (storedH ys k b u) := by
  unfold putX storedH
  have e := (r.val k).isSome_eq
  rw [Option.isSome_map] at e
  rw [e]
  split
  · exact r.map k rv
  · exact r.app (.cons ⟨rfl, rfl, rv⟩ .nil)
section
variable {X : Cx} {pins : List (Addr × Obj)} {σ : L2.St} {H : Hp} {s : Shared} {a b : Addr} {xs : List NE} {k : NestedKey} {A : Around} {E : Value → Shared → Prop} {u r : Value} {v : V}
theorem dn_of {P : Program} {w : World} {h : Heap} (ok : HOk P w H h) (e : H a = some (DN w a xs)) (hk : KeysOk H xs) : xs.length ≤ sizeLine ∧ (a == sysModules) = false ∧ ∃ ys, PairN xs ys ∧ h.DictOfH (nestedKind P w) a ys := by
  obtain ⟨⟨h1, h2, ys, r, o, es, ep, h3, h4, h5, h6, h7⟩, _, _⟩ := ok a _ e
  refine ⟨h2, h1, ys, r, o, es, ep, h3, h4, h5, h6, fun y hy => ?_, h7⟩
  have go : ∀ {xs : List NE} {ys : List (NestedKey × Addr × Value)}, PairN xs ys → (∀ p ∈ xs, KeyAt H p.1 (.ref p.2.1) ∧ p.1.depth ≤ 8) → ∀ y ∈ ys, NestedIs h y.1 (.ref y.2.1) ∧ y.1.depth ≤ 8 := by
    intro xs ys r
    induction r with
    | nil => exact fun _ y hy => nomatch hy
    | @cons p q l m h t ih =>
      intro hk y hy
      rcases List.mem_cons.mp hy with rfl | hy
      · obtain ⟨k1, k2⟩ := hk p List.mem_cons_self
        rw [← h.1, ← h.2.1]
        exact ⟨nested_is ok k1 rfl, k2⟩
      · exact ih (fun p hp => hk p (List.mem_cons_of_mem _ hp)) y hy
  exact go r hk y hy
/-- what is at the key y in the dict a -/
def NGet (w : World) (H : Hp) (a : Addr) (y : V) (o : Option V) : Prop := ∃ xs k b, H a = some (DN w a xs) ∧ KeysOk H xs ∧ y = .ref b ∧ KeyAt H k (.ref b) ∧ k.depth ≤ 8 ∧ valN xs k = o
def NPut (w : World) (H : Hp) (a : Addr) (y v : V) (H' : Hp) : Prop := ∃ xs k b, H a = some (DN w a xs) ∧ KeysOk H xs ∧ y = .ref b ∧ KeyAt H k (.ref b) ∧ k.depth ≤ 8 ∧ xs.length < sizeLine ∧ H' = upd H a (DN w a (putX xs k b v))
theorem n_getItem {Q : Value → Shared → Prop} {y : V} (hu : A.units + 9 < cLine) (I : Inv X pins σ H s) (g : NGet X.w H a y (some v)) (ry : RelV y u) (h : ∀ w' s', Inv X pins σ H s' → RelV v w' → Q w' s') : wpAny (model X.prog X.w) A (getItem (.ref a) u) Q E s := by
  obtain ⟨xs, k, b, e, ko, rfl, hk, hd, l⟩ := g
  cases (show u = Value.ref b from ry)
  obtain ⟨z, hs, ys, rel, dd⟩ := dn_of I.hok e ko
  obtain ⟨w', hw, rw'⟩ := RelO.some_of (v := v) (o := (atKey ys k).map (·.2)) (by rw [← l]; exact rel.val k)
  obtain ⟨p, hp, hp2⟩ := Option.map_eq_some_iff.mp hw
  refine wpAny_getItem_heap (knd := nestedKind X.prog X.w) (show A.in1.units + 8 < cLine by show A.units + 1 + 8 < cLine; omega) ⟨nested_is I.hok hk rfl, hd⟩ dd hp ?_
  rw [hp2]
  exact h w' _ (I.tok _) rw'
theorem n_in {Q : Value → Shared → Prop} {y : V} {o : Option V} (hu : A.units + 9 < cLine) (I : Inv X pins σ H s) (g : NGet X.w H a y o) (ry : RelV y u) (h : ∀ s', Inv X pins σ H s' → Q (.bool o.isSome) s') : wpAny (model X.prog X.w) A (compareOp .In u (.ref a)) Q E s := by
  obtain ⟨xs, k, b, e, ko, rfl, hk, hd, l⟩ := g
  cases (show u = Value.ref b from ry)
  obtain ⟨z, hs, ys, rel, dd⟩ := dn_of I.hok e ko
  refine wpAny_in_heap (knd := nestedKind X.prog X.w) (show A.in1.units + 8 < cLine by show A.units + 1 + 8 < cLine; omega) ⟨nested_is I.hok hk rfl, hd⟩ hs dd ?_
  have q := (rel.val k).isSome_eq
  rw [Option.isSome_map] at q
  rw [← q, l]
  exact h _ (I.tok _)
theorem n_notIn {Q : Value → Shared → Prop} {y : V} {o : Option V} (hu : A.units + 9 < cLine) (I : Inv X pins σ H s) (g : NGet X.w H a y o) (ry : RelV y u) (h : ∀ s', Inv X pins σ H s' → Q (.bool (!o.isSome)) s') : wpAny (model X.prog X.w) A (compareOp .NotIn u (.ref a)) Q E s := by
  obtain ⟨xs, k, b, e, ko, rfl, hk, hd, l⟩ := g
  cases (show u = Value.ref b from ry)
  obtain ⟨z, hs, ys, rel, dd⟩ := dn_of I.hok e ko
  refine wpAny_notIn_heap (knd := nestedKind X.prog X.w) (show A.in1.units + 8 < cLine by show A.units + 1 + 8 < cLine; omega) ⟨nested_is I.hok hk rfl, hd⟩ hs dd ?_
  have q := (rel.val k).isSome_eq
  rw [Option.isSome_map] at q
  rw [← q, l]
  exact h _ (I.tok _)
theorem dn_new {P : Program} {w : World} {H' : Hp} {h' : Heap} {ys : List (NestedKey × Addr × Value)} (z : xs.length ≤ sizeLine) (hs : (a == sysModules) = false) (rel : PairN xs ys) (dd : h'.DictOfH (nestedKind P w) a ys) : ObjOk P w H' h' a (DN w a xs) := by
  obtain ⟨o, es, ep, h3, h4, h5, h6, _, h7⟩ := dd
  refine ⟨⟨hs, z, ys, rel, o, es, ep, h3, h4, h5, h6, h7⟩, ⟨o, h3⟩, fun h1 h2 ⟨k1, k2, ys, k3, o, es, ep, k4, k5⟩ st => ⟨k1, k2, ys, k3, o, es, ep, st _ k4, k5⟩⟩
theorem n_setItem {Q : Unit → Shared → Prop} {y : V} {H' : Hp} (hu : A.units + 9 < cLine) (I : Inv X pins σ H s) (g : NPut X.w H a y v H') (ry : RelV y u) (rv : RelV v r) (h : ∀ s', Inv X pins σ H' s' → Q () s') : wpAny (model X.prog X.w) A (setItem (.ref a) u r) Q E s := by
  obtain ⟨xs, k, b, e, ko, rfl, hk, hd, l, eH⟩ := g
  subst eH
  cases (show u = Value.ref b from ry)
  obtain ⟨z, hs, ys, rel, dd⟩ := dn_of I.hok e ko
  have hz : ys.length ≤ sizeLine := by rw [← rel.len]; exact z
  refine wpAny_setItem_heap (knd := nestedKind X.prog X.w) (hsz := hz) (show A.in1.units + 8 < cLine by show A.units + 1 + 8 < cLine; omega) ⟨nested_is I.hok hk rfl, hd⟩ dd fun h' dd' hs' => h _ ?_
  have he : ∃ q, h'.get? a = some q := let ⟨q, _, _, hq, _⟩ := dd'; ⟨q, hq⟩
  exact d_write I (by rw [e]; exact True.intro) hs' he (dn_new (by have := putX_len xs k b v; omega) hs (rel.put k b rv) dd')
end
/-! ### words for them -/
def tNGet (w : World) (td ty : TE) : TE := fun σ H Q => td σ H fun x H1 => ty σ H1 fun y H2 => ∃ a v, x = .ref a ∧ NGet w H2 a y (some v) ∧ Q v H2
def rNIn (w : World) (neg : Bool) : R2 := fun y x H Q => ∃ a o, x = .ref a ∧ NGet w H a y o ∧ Q (.bl (o.isSome != neg)) H
def sNPut (w : World) (td ty tv : TE) : TS := fun D σ H => tv σ H fun v H1 => td σ H1 fun x H2 => ty σ H2 fun y H3 => ∃ a H4, x = .ref a ∧ NPut w H3 a y v H4 ∧ D.nx σ H4
def tNNew (w : World) : TE := fun _ H Q => ∀ p, H p = none → Q (.ref p) (upd H p (DN w p []))
def tN1 (w : World) (tk tv : TE) : TE := fun σ H Q => ∀ p, H p = none → tk σ (upd H p (DN w p [])) fun y H1 => tv σ H1 fun v H2 => H2 p = some (DN w p []) ∧ ∃ k b, y = .ref b ∧ KeyAt H2 k (.ref b) ∧ k.depth ≤ 8 ∧ Q (.ref p) (upd H2 p (DN w p [(k, b, v)]))
section
variable {X : Cx} {o i e value : Expr} {pos pos' tpos : Pos} {td ty tv : TE}
theorem ngt_type {pins : List (Addr × Obj)} {σ : L2.St} {H : Hp} {s : Shared} {a : Addr} {y : V} {q : Option V} (I : Inv X pins σ H s) (g : NGet X.w H a y q) : s.TypeIs (.ref a) "dict" := by
  obtain ⟨xs, k, b, e, ko, rfl, hk, hd, l⟩ := g
  obtain ⟨_, _, _, _, dd⟩ := dn_of I.hok e ko
  exact dd.typeIs
theorem pe_nget (hu : X.A.units + 9 < cLine) (ho : PE X o td) (hi : PE X i ty) (hs : NoSl i) : PE X (.Subscript o i pos) (tNGet X.w td ty) := by
  refine ⟨fun pins s σ H Q I h => ?_⟩
  refine subD_of PySem.F.slot_dict_getitem.lookup hs (thn (ho.run pins s σ H _ I h) fun u s1 ⟨x, H1, I1, rx, q1⟩ => thn (hi.run pins s1 σ H1 _ I1 q1) fun iv s2 ⟨y, H2, I2, ry, a, v, ex, g, q2⟩ => ?_)
  subst ex
  cases (show u = Value.ref a from rx)
  exact ⟨ngt_type I2 g, n_getItem hu I2 g ry fun w' s3 I3 rw' => ⟨v, H2, I3, rw', q2⟩⟩
theorem op_inN (hu : X.A.units + 9 < cLine) : OpR X (compareOp .In) (rNIn X.w false) := fun pins s σ H y x u v Q I ry rx ⟨a, o, ex, g, q⟩ => by
  subst ex
  cases (show v = Value.ref a from rx)
  exact n_in hu I g ry fun s3 I3 => ⟨.bl o.isSome, H, I3, rfl, by simpa using q⟩
theorem op_notInN (hu : X.A.units + 9 < cLine) : OpR X (compareOp .NotIn) (rNIn X.w true) := fun pins s σ H y x u v Q I ry rx ⟨a, o, ex, g, q⟩ => by
  subst ex
  cases (show v = Value.ref a from rx)
  exact n_notIn hu I g ry fun s3 I3 => ⟨.bl (!o.isSome), H, I3, rfl, by simpa using q⟩
theorem ps_nput (hu : X.A.units + 9 < cLine) (ho : PE X o td) (hi : PE X i ty) (hv : PE X value tv) (hs : swapsWith value (some (.Subscript o i pos')) pos.line X.env = pure false) : PS X (.Assign [.Subscript o i pos'] value pos) (sNPut X.w td ty tv) := by
  refine ⟨fun pins s σ H D I h => ?_⟩
  refine wpAny_Assign_Subscript (thn (hv.run pins s σ H _ I h) fun r s1 ⟨v, H1, I1, rv, q1⟩ => thn (ho.run pins s1 σ H1 _ I1 q1) fun u s2 ⟨x, H2, I2, rx, q2⟩ => thn (hi.run pins s2 σ H2 _ I2 q2) fun iv s3 ⟨y, H3, I3, ry, a, H4, ex, g, q3⟩ => ?_) hs
  subst ex
  cases (show u = Value.ref a from rx)
  exact n_setItem hu I3 g ry rv fun s4 I4 => ⟨σ, H4, I4, q3⟩
theorem dn_empty {P : Program} {w : World} {H : Hp} (h : Heap) (hb : sysModules < h.objs.size) : ObjOk P w H (h.push { cls := .type "dict", data := .dict #[] }) h.objs.size (DN w h.objs.size []) :=
  dn_new (P := P) (Nat.zero_le _) (by simpa using Nat.ne_of_gt hb) .nil (Heap.DictOfH.new h)
theorem pe_nnew : PE X (.Dict [] [] pos) (tNNew X.w) := ⟨fun pins s σ H Q I h =>
  wpAny_Dict_empty ⟨.ref s.heap.objs.size, _, I.laid (a := s.heap.objs.size) (o := DN X.w s.heap.objs.size []) (t' := s.toks) (fun _ _ q => Heap.get?_push_of_some _ q) (Nat.le_refl _) (dn_empty s.heap I.big), rfl, h _ (I.hok.fresh (Nat.le_refl _))⟩⟩
theorem pe_n1 {ke : Expr} (hu : X.A.units + 9 < cLine) (hk : PE X ke ty) (hv : PE X value tv) : PE X (.Dict [some ke] [value] pos) (tN1 X.w ty tv) := by
  refine ⟨fun pins s σ H Q I h => ?_⟩
  have hn := I.hok.fresh (Nat.le_refl s.heap.objs.size)
  have I1 := I.laid (a := s.heap.objs.size) (o := DN X.w s.heap.objs.size []) (h' := s.heap.push { cls := .type "dict", data := .dict #[] }) (t' := s.toks) (fun _ _ q => Heap.get?_push_of_some _ q) (Nat.le_refl _) (dn_empty s.heap I.big)
  rw [arm_eval_Dict, zip_pairTrees [some ke] [value] X.env pos rfl rfl, dictDisplay_pairs (pairTrees [some ke] [value] X.env pos) (by simp [pairTrees]) (by simp [pairTrees])]
  refine wpAny_bind (wpAny_standAt (wpAny_bind (wpAny_subDictH (knd := nestedKind X.prog X.w) (show X.A.units + 8 < cLine by omega) (by simp [pairTrees]) ?_)))
  refine pairTrees_cons_walk (thn (hk.run pins _ σ _ _ I1 (h _ hn)) fun kv s2 ⟨y, H2, I2, ry, q2⟩ => thn (hv.run pins s2 σ H2 _ I2 q2) fun vv s3 ⟨v, H3, I3, rv, e, k, b, ey, ka, kd, q3⟩ => pairTrees_nil_walk ?_)
  subst ey
  cases (show kv = Value.ref b from ry)
  obtain ⟨z, hs, ys, rel, dd⟩ := dn_of I3.hok e (fun p hp => nomatch hp)
  cases rel
  refine ⟨[(k, b, vv)], ⟨rfl, rfl, ⟨nested_is I3.hok ka rfl, kd⟩, True.intro⟩, dd, fun h' tk dk hsb => wpAny_pure ⟨.ref s.heap.objs.size, _, ?_, rfl, q3⟩⟩
  have he : ∃ q, h'.get? s.heap.objs.size = some q := let ⟨q, _, _, hq, _⟩ := dk; ⟨q, hq⟩
  exact d_write I3 (by rw [e]; exact True.intro) hsb he (dn_new (P := X.prog) (by rw [sizeLine_eq]; show 1 ≤ 16777216; decide) hs (.cons ⟨rfl, rfl, rv⟩ .nil) dk)
end
/-! ### lifted -/
def keyB : D → Bool
  | .tup ds => match keysOf ds with
    | some ks => decide ((NestedKey.tup ks).depth ≤ 8)
    | none => false
  | _ => false
theorem keyB_some {d : D} (h : keyB d = true) : ∃ k, keyOf d = some k ∧ k.depth ≤ 8 ∧ ∃ ds, d = .tup ds := by
  cases d with
  | tup ds =>
    unfold keyB at h
    dsimp only at h
    cases e : keysOf ds with
    | none => rw [e] at h; cases h
    | some ks =>
      rw [e] at h
      exact ⟨.tup ks, by unfold keyOf; rw [e]; rfl, of_decide_eq_true h, ds, rfl⟩
  | _ => cases h
def getN (kvs : List (D × D)) (d : D) : Option D := (kvs.find? fun kv => decide (keyOf kv.1 = keyOf d)).map (·.2)
def putN (kvs : List (D × D)) (d e : D) : List (D × D) := if (getN kvs d).isSome then kvs.map (fun kv => if keyOf kv.1 = keyOf d then (kv.1, e) else kv) else kvs ++ [(d, e)]
section
variable {K : PySem.W.Frag} {F H : Hp} {ds : List (D × D)} {xs : List NE} {w : World}
theorem RepN.keys (r : RepN K F ds xs) (l : Le F H) : KeysOk H xs := by
  induction r with
  | nil => exact fun p hp => nomatch hp
  | cons hk dp rk rv _ ih =>
    intro p hp
    rcases List.mem_cons.mp hp with rfl | hp
    · exact ⟨key_at l hk rk, dp⟩
    · exact ih p hp
theorem RepN.val (r : RepN K F ds xs) {d : D} {k : NestedKey} (hk : keyOf d = some k) : (getN ds d = none → valN xs k = none) ∧ ∀ e, getN ds d = some e → ∃ x, valN xs k = some x ∧ Rep K F e x := by
  induction r with
  | nil => exact ⟨fun _ => rfl, fun e h => nomatch h⟩
  | @cons d' e' k' b x ds xs hk' dp rk rv _ ih =>
    unfold getN valN at ih ⊢
    rw [List.find?_cons, List.find?_cons]
    dsimp only
    have eq : decide (keyOf d' = keyOf d) = decide (k' = k) := by
      rw [hk', hk]
      simp
    rw [eq]
    cases decide (k' = k) with
    | true =>
      refine ⟨fun h => ?_, fun e h => ?_⟩
      · cases h
      · cases h
        exact ⟨x, rfl, rv⟩
    | false => exact ih
theorem RepN.len (r : RepN K F ds xs) : ds.length = xs.length := by
  induction r with
  | nil => rfl
  | cons _ _ _ _ _ ih => rw [List.length_cons, List.length_cons, ih]
theorem RepN.app {ds' : List (D × D)} {xs' : List NE} (r : RepN K F ds xs) (r' : RepN K F ds' xs') : RepN K F (ds ++ ds') (xs ++ xs') := by
  induction r with
  | nil => exact r'
  | cons a b c d _ ih => exact .cons a b c d ih
theorem RepN.put (r : RepN K F ds xs) {d e : D} {k : NestedKey} {b : Addr} {x : V} (hk : keyOf d = some k) (dp : k.depth ≤ 8) (rk : Rep K F d (.ref b)) (rv : Rep K F e x) : RepN K F (putN ds d e) (putX xs k b x) := by
  obtain ⟨h1, h2⟩ := r.val hk
  unfold putN putX
  cases g : getN ds d with
  | none =>
    rw [h1 g]
    exact r.app (.cons hk dp rk rv .nil)
  | some e0 =>
    obtain ⟨x0, h3, _⟩ := h2 e0 g
    rw [h3]
    show RepN K F (ds.map _) (xs.map _)
    clear h1 h2 g h3
    induction r with
    | nil => exact .nil
    | @cons d' e' k' b' x' ds xs hk' dp' rk' rv' _ ih =>
      rw [List.map_cons, List.map_cons]
      dsimp only
      by_cases q : k' = k
      · rw [if_pos (by rw [hk', hk, q]), if_pos q]
        exact .cons hk' dp' rk' rv ih
      · rw [if_neg (by rw [hk', hk]; simpa using q), if_neg q]
        exact .cons hk' dp' rk' rv' ih
end
def zNGet (w : World) (zd zk : ZE) : ZE := fun δ M Q => zd δ M fun x M1 => zk δ M1 fun d M2 => match x with | .v (.ref a) => ∃ kvs v, M2 a = some (.dN w a kvs) ∧ keyB d = true ∧ getN kvs d = some v ∧ Q v M2 | _ => False
def zNIn (w : World) (neg : Bool) : ZR2 := fun d x M Q => match x with | .v (.ref a) => ∃ kvs, M a = some (.dN w a kvs) ∧ keyB d = true ∧ Q (.v (.bl ((getN kvs d).isSome != neg))) M | _ => False
def zNPut (w : World) (zd zk zv : ZE) : ZS := fun D δ M => zv δ M fun v M1 => zd δ M1 fun x M2 => zk δ M2 fun d M3 => match x with
  | .v (.ref a) => ∃ kvs, M3 a = some (.dN w a kvs) ∧ keyB d = true ∧ kvs.length < sizeLine ∧ D.nx δ (mput M3 a (.dN w a (putN kvs d v))) | _ => False
def zNNew (w : World) : ZE := fun δ M Q => ∀ p, M p = none → Q (.v (.ref p)) (mput M p (.dN w p []))
def zN1 (w : World) (zk zv : ZE) : ZE := fun δ M Q => ∀ p, M p = none → zk δ (mput M p (.dN w p [])) fun d M1 => zv δ M1 fun e M2 => M2 p = some (.dN w p []) ∧ keyB d = true ∧ Q (.v (.ref p)) (mput M2 p (.dN w p [(d, e)]))
section
variable {K : PySem.W.Frag} {w0 : W3} {t u tv : TE} {z zk zv : ZE} {w : World}
theorem dn_rep {v : W3} {a : Addr} {kvs : List (D × D)} (s : Ok K v) (h : v.M a = some (.dN w a kvs)) : ∃ xs, v.H a = some (DN w a xs) ∧ RepN K v.F kvs xs ∧ KeysOk v.H xs := by
  obtain ⟨o, e1, e2⟩ := s.mu _ _ h
  cases e2 with
  | @dN _ _ _ xs r => exact ⟨xs, e1, r, r.keys s.sub⟩
theorem tup_ref {F : Hp} {ds : List D} {x : V} (r : Rep K F (.tup ds) x) : ∃ b, x = .ref b := by
  cases r
  exact ⟨_, rfl⟩
theorem le_nget (h1 : LE K w0 t z) (h2 : LE K w0 u zk) : LE K w0 (tNGet w t u) (zNGet w z zk) := fun v σ δ Qz Q l s rs c h =>
  h1 v σ δ _ _ l s rs (fun u1 d x l1 s1 r1 h3 => h2 u1 σ δ _ _ (l.tr l1) s1 (rs.le l1.le) (fun u2 e y l2 s2 r2 h4 => by
    split at h4
    · rename_i a
      obtain ⟨kvs, v', e1, kb, g, q⟩ := h4
      obtain ⟨xs, e2, rn, ko⟩ := dn_rep s2 e1
      obtain ⟨k, hk, hd, ds, rfl⟩ := keyB_some kb
      obtain ⟨b, rfl⟩ := tup_ref r2
      obtain ⟨y', g2, ry⟩ := (rn.val hk).2 _ g
      exact ⟨a, y', r1.v_inv, ⟨xs, k, b, e2, ko, rfl, key_at s2.sub hk r2, hd, g2⟩, (c.le (l1.tr l2)).go s2 ry q⟩
    · exact h4.elim) h3) h
theorem lr_nin {neg : Bool} : LR2 K (rNIn w neg) (zNIn w neg) := fun v x y d e Qz Q s rx ry c h => by
  unfold zNIn at h
  split at h
  · rename_i a
    obtain ⟨kvs, e1, kb, q⟩ := h
    obtain ⟨xs, e2, rn, ko⟩ := dn_rep s e1
    obtain ⟨k, hk, hd, ds, rfl⟩ := keyB_some kb
    obtain ⟨b, rfl⟩ := tup_ref rx
    refine ⟨a, valN xs k, ry.v_inv, ⟨xs, k, b, e2, ko, rfl, key_at s.sub hk rx, hd, rfl⟩, c.go s (.v _) ?_⟩
    have : (valN xs k).isSome = (getN kvs (.tup ds)).isSome := by
      cases g : getN kvs (.tup ds) with
      | none => rw [(rn.val hk).1 g]; rfl
      | some e0 => obtain ⟨x0, h3, _⟩ := (rn.val hk).2 e0 g; rw [h3]; rfl
    rw [this]
    exact q
  · exact h.elim
theorem ls_nput (h0 : LE K w0 tv zv) (h1 : LE K w0 t z) (h2 : LE K w0 u zk) : LS K w0 (sNPut w t u tv) (zNPut w z zk zv) := fun v σ δ Dz D l s rs c h =>
  h0 v σ δ _ _ l s rs (fun u0 e0 x0 l0 s0 r0 h3 => h1 u0 σ δ _ _ (l.tr l0) s0 (rs.le l0.le) (fun u1 d x l1 s1 r1 h3 => h2 u1 σ δ _ _ (l.tr (l0.tr l1)) s1 (rs.le (l0.tr l1).le) (fun u2 e y l2 s2 r2 h4 => by
    split at h4
    · rename_i a
      obtain ⟨kvs, e1, kb, hlen, q⟩ := h4
      obtain ⟨xs, e2, rn, ko⟩ := dn_rep s2 e1
      obtain ⟨k, hk, hd, ds, rfl⟩ := keyB_some kb
      obtain ⟨b, rfl⟩ := tup_ref r2
      have lw : Nx u2 ⟨u2.F, mput u2.M a (.dN w a (putN kvs (.tup ds) e0)), upd u2.H a (DN w a (putX xs k b x0))⟩ := nx_write e1
      refine ⟨a, _, r1.v_inv, ⟨xs, k, b, e2, ko, rfl, key_at s2.sub hk r2, hd, by rw [← rn.len]; exact hlen, rfl⟩, c.nx ⟨u2.F, mput u2.M a (.dN w a (putN kvs (.tup ds) e0)), upd u2.H a (DN w a (putX xs k b x0))⟩ δ σ ((l0.tr (l1.tr l2)).tr lw) ?_ (rs.le ((l0.tr (l1.tr l2)).tr lw).le) q⟩
      exact Sim.write s2 e1 (.dN (rn.put hk hd r2 (r0.le (l1.tr l2).le)))
    · exact h4.elim) h3) h3) h
theorem le_nnew : LE K w0 (tNNew w) (zNNew w) := fun v σ δ Qz Q l s rs c h => fun p hp => c.alloc s hp (.dN .nil) (h p (s.nM hp))
theorem le_n1 (h1 : LE K w0 t z) (h2 : LE K w0 u zv) : LE K w0 (tN1 w t u) (zN1 w z zv) := fun v σ δ Qz Q l s rs c h => fun p hp => by
  have la : Nx v ⟨v.F, mput v.M p (.dN w p []), upd v.H p (DN w p [])⟩ := nx_alloc s hp
  have sa : Ok K ⟨v.F, mput v.M p (.dN w p []), upd v.H p (DN w p [])⟩ := Sim.alloc s hp (.dN .nil)
  refine h1 ⟨v.F, mput v.M p (.dN w p []), upd v.H p (DN w p [])⟩ σ δ _ _ (l.tr la) sa (rs.le la.le) (fun u1 d x l1 s1 r1 h3 => h2 u1 σ δ _ _ (l.tr (la.tr l1)) s1 (rs.le (la.tr l1).le) (fun u2 e y l2 s2 r2 ⟨e1, kb, q⟩ => ?_) h3) (h p (s.nM hp))
  obtain ⟨xs, e2, rn, ko⟩ := dn_rep s2 e1
  cases rn
  obtain ⟨k, hk, hd, ds, rfl⟩ := keyB_some kb
  have r1' := r1.le l2.le
  obtain ⟨b, rfl⟩ := tup_ref r1'
  refine ⟨e2, k, b, rfl, key_at s2.sub hk r1', hd, ?_⟩
  have lw : Nx u2 ⟨u2.F, mput u2.M p (.dN w p [(.tup ds, e)]), upd u2.H p (DN w p [(k, b, y)])⟩ := nx_write e1
  exact c ⟨u2.F, mput u2.M p (.dN w p [(.tup ds, e)]), upd u2.H p (DN w p [(k, b, y)])⟩ _ _ (la.tr (l1.tr (l2.tr lw))) (Sim.write s2 e1 (.dN (.cons hk hd r1' r2 .nil))) (.v _) q
end
end Zl
namespace Zl
open PySem PySem.Spec PyProof.Rows L2 LamX

/-! ### a tuple taken apart while an exception is handled -/
section
open HotX
variable {prog : Program} {w : World} {A : Around} {E : Value → Shared → Prop} {s : Shared}
theorem tup_end_hot {it t x1 : Addr} {i : Nat} {items : Array Value} {Q : Option Value → Shared → Prop} (hot : HotAt A x1 s.heap) (hit : IsTupIter s.heap it t i) (ht : IsTup s.heap t items) (hx : items[i]? = none)
    (hQ : ∀ h', Heap.ExtBut it s.heap h' → Q none { s with heap := h' }) (ne : x1 ≠ it) : wpAny (model prog w) A (pyNext (.ref it)) Q E s := by
  obtain ⟨hh, o1, vs1, h1, d1, c1⟩ := hot
  obtain ⟨o, ho, hc, hd⟩ := id hit
  obtain ⟨ol, hol, _, nl, hdl⟩ := ht
  unfold pyNext
  apply wpAny_bind
  refine wpAny_attempt (wpAny_callSpecial?_slot (name := Str.ofString "__next__") hit.typeIs slot_tupleiter_next (wpAny_call_entry slot_tupleiter_next hit.typeIs entry_tupleiter_next ?_ (args_tupleiter_next _)))
  show wpAny _ _ (field (.ref it) 0 >>= _) _ _ s
  apply wpAny_bind
  refine wpAny_field ho hd (x := .ref t) rfl ?_
  show wpAny _ _ (if (Value.ref t == Value.none) = true then _ else _) _ _ s
  rw [if_neg (fun z : (Value.ref t == Value.none) = true => Bool.false_ne_true z)]
  show wpAny _ _ (field (.ref it) 1 >>= _) _ _ s
  apply wpAny_bind
  refine wpAny_field ho hd (x := .int i 0) rfl ?_
  show wpAny _ _ (seqItems? (.ref t) >>= _) _ _ s
  apply wpAny_bind
  refine wpAny_seqItems hol hdl ?_
  simp only [Int.toNat_natCast, hx]
  apply wpAny_bind
  apply wpAny_rule
  apply wpAny_bind
  refine wpAny_setField ho hd (by simp) ?_
  have u1 : (s.heap.update it (Obj.mapFields (·.setIfInBounds 0 .none))).get? x1 = some o1 := by
    rw [Heap.get?_update_other _ _ ne.symm]
    exact h1
  show wpAny _ _ (newExc (.type "StopIteration") [] >>= _) _ _ _
  apply wpAny_bind
  simp only [newExc, newTuple]
  apply wpAny_bind
  refine wpAny_newObj_type ?_ (by size_fits)
  refine wpAny_bind (m := firstArgMember _ _) (wpAny_of_eq (a := Value.none) (by first | rfl | (simp only [firstArgMember]; rfl)) ?_)
  refine wpAny_newObj_type ?_ (by size_fits)
  have u2 := Heap.get?_push_of_some { cls := .type "tuple", data := .seq #[] } u1
  refine raiseNew_hot ⟨hh, o1, vs1, Heap.get?_push_of_some _ (Heap.get?_push_of_some _ u1), d1, c1⟩ (Nat.ne_of_lt (Heap.lt_size (Heap.get?_push_of_some _ u1))) (Heap.get?_push_size _ rfl) rfl
    (by first | (simp; done) | (simp; omega) | (simp only [Array.size_append]; simp; omega)) ?_
  refine wpAny_bind (wpAny_isInstance (T := "StopIteration") (b := true) ⟨_, Heap.get?_update_self _ (Heap.get?_push_size _ rfl) rfl, rfl⟩ isSubtype_stop ?_)
  refine wpAny_pure (hQ _ fun b o nb e => ?_)
  have e1 : (s.heap.update it (Obj.mapFields (·.setIfInBounds 0 .none))).get? b = some o := by
    rw [Heap.get?_update_other _ _ (Ne.symm nb)]
    exact e
  rw [Heap.get?_update_other _ _ (Nat.ne_of_gt (Heap.lt_size (Heap.get?_push_of_some _ e1)))]
  exact Heap.get?_push_of_some _ (Heap.get?_push_of_some _ e1)
theorem unpack_hot {t x1 : Addr} {items : Array Value} {targets : List (Bool × (Value → Sem Unit))} {Q : Unit → Shared → Prop} (hot : HotAt A x1 s.heap) (ht : IsTup s.heap t items)
    (hn : targets.length = items.size) (hstar : targets.findIdx? (·.1) = none)
    (h : ∀ h', Heap.ExtBut s.heap.objs.size s.heap h' → wpAny (model prog w) A (assignInOrder (targets.map (·.2)) items.toList) Q E { s with heap := h' }) : wpAny (model prog w) A (unpack (.ref t) targets) Q E s := by
  have hlt : t ≠ s.heap.objs.size := by obtain ⟨o, ho, _⟩ := ht; exact Nat.ne_of_lt (Heap.lt_size ho)
  obtain ⟨hh, o1, vs1, h1, d1, c1⟩ := hot
  have xlt : x1 ≠ s.heap.objs.size := Nat.ne_of_lt (Heap.lt_size h1)
  unfold unpack
  rw [hn, hstar]
  apply wpAny_bind
  apply wpAny_holding
  unfold unpackItems
  apply wpAny_bind
  unfold notIterableAtAll
  refine wpAny_bind (wpAny_specialOf ht.typeIs slot_tuple_iter.lookup (wpAny_pure ?_))
  simp only [Bool.false_eq_true, if_false]
  refine wpAny_bind (wpAny_holding (iter_tuple ht ?_))
  refine wpAny_bind (wpAny_holding (draw_tuple hlt items.size 0 _ _ ⟨_, Heap.get?_push_size _ rfl, rfl, rfl⟩ (ht.push _) (by omega) fun h₁ hit₁ hs₁ => ?_))
  have hall : List.take items.size (List.drop 0 items.toList) = items.toList := by
    rw [List.drop_zero]
    exact List.take_of_length_le (by simp)
  rw [hall, if_neg (by simp)]
  have k1 : h₁.get? x1 = some o1 := hs₁.extBut x1 o1 xlt (Heap.get?_push_of_some _ h1)
  refine wpAny_bind (wpAny_holding (tup_end_hot ⟨hh, o1, vs1, k1, d1, c1⟩ hit₁ ((ht.push _).extBut hs₁.extBut hlt) (by simp) (fun h₂ he₂ => ?_) xlt))
  simp only [Option.isSome_none, Bool.false_eq_true, if_false]
  exact wpAny_pure (h h₂ fun b o hb e => he₂ b o hb (hs₁.extBut b o hb (Heap.get?_push_of_some _ e)))
end
/-- the context bears a handled exception whose context is None -/
theorem hot_suite {X : Cx} {a : Addr} {oe : Obj} {cls : Value} {d : Option Addr} {pn : List (Addr × Obj)} (hz : L2N.Zn cls d oe) (hf : ∃ vs, oe.data = .fields vs) : L2H.HotC (X.suite a ((a, oe) :: pn)) := by
  obtain ⟨vs, e⟩ := hf
  exact ⟨(a, oe), ⟨rfl, vs, e, hz.2.2 vs e⟩, List.mem_cons_self⟩
theorem hot_in {Y : Cx} {a : Addr} {oe : Obj} {cls : Value} {d : Option Addr} (hz : L2N.Zn cls d oe) (hf : ∃ vs, oe.data = .fields vs) (hA : Y.A.handled = some (.ref a)) (hp : (a, oe) ∈ Y.pn) : L2H.HotC Y := by
  obtain ⟨vs, e⟩ := hf
  exact ⟨(a, oe), ⟨hA, vs, e, hz.2.2 vs e⟩, hp⟩
theorem pg_tupH {X : Cx} {es : List Expr} {k : Nat} {t : TGs} {n : Nat} {pos : Pos} (hc : L2H.HotC X) (h : PGs X es t) (hn : (assignEach es X.env).length = n := by rfl) (hst : (assignEach es X.env).findIdx? (·.1) = none := by rfl) :
    PG X (.Tuple es k pos) (gTup X.K n t) := by
  constructor
  rintro pins s σ H v u Q I r ⟨a, xs, rfl, hq, hl, hw⟩
  cases r
  obtain ⟨its, rv, ht, hz⟩ := I.tuple hq
  obtain ⟨x1, hot⟩ := hc.at I
  rw [assign_Tuple]
  refine wpAny_bind (wpAny_standAt (unpack_hot hot ht (by simp [hn, ← hl, rv.length]) hst fun h' hx => ?_))
  have J : Inv X pins σ H { s with heap := h' } := I.kept (t' := s.toks) fun b o e => hx b o (Nat.ne_of_lt (Heap.lt_size e)) e
  exact h.run pins _ σ H xs _ Q J (by simpa using rv) hw
theorem room9 {k : Nat} {A : Around} (r : Room k A) : A.units + 9 < cLine := by have := r.un; omega
/-! ### isinstance of what is caught, whatever its class -/
def rIsXg (K : PySem.W.Frag) (cls : Value) (a : Addr) (d : Option Addr) : List V → Hp → VK → Prop := fun xs H Q => ∃ D, cls = .ref D ∧ XcC K D ∧ rIsX K D a d xs H Q
theorem call_isXg {X : Cx} {a : Addr} {oe : Obj} {cls : Value} {d : Option Addr} {pn : List (Addr × Obj)} (hz : L2N.Zn cls d oe) (hf : ∃ vs, oe.data = .fields vs) : CallR (X.suite a ((a, oe) :: pn)) (.builtin "isinstance") (rIsXg X.K cls a d) := by
  intro pins s σ H xs us Q I r ⟨D, e, C, hh⟩
  subst e
  exact call_isX C hz.zc hf pins s σ H xs us Q I r hh
def zIsXg (K : PySem.W.Frag) (C a : Addr) : ZRA := fun ds M Q => XcC K C ∧ zIsX K C a ds M Q
theorem u_isXg {K : PySem.W.Frag} {C a b : Addr} {d : D} {M : MS} {Q : ZQ} : zIsXg K C a [.v (.ref b), d] M Q = (XcC K C ∧ b = a ∧ ∃ u k, clD d = some u ∧ PySem.W.kitOne K (.ref C) u = some k ∧ Q (.v (.bl k)) M) := rfl
section
variable {K : PySem.W.Frag} {w0 : W3}
theorem le_isXg {a C : Addr} {d : Option Addr} {fs : List (Str × Zl.D)} {aa : TA} {za : ZA} (rx : XRep K w0.F d fs) (h1 : LA K w0 aa za) : LE K w0 (tCB (rIsXg K (.ref C) a d) aa) (zCB (zIsXg K C a) za) := fun w σ δ Qz Q l s rs c h =>
  h1 w σ δ _ _ l s rs (fun u ds xs lu su r ⟨h2, h3⟩ => by
    unfold zIsX at h3
    split at h3
    · obtain ⟨rfl, v, k, e1, e2, q⟩ := h3
      cases r with
      | cons r1 r => cases r with
        | cons r2 r =>
          cases r
          refine ⟨C, rfl, h2, _, v, k, by rw [r1.v_inv], clD_rep r2 e1, e2, ?_, (c.le lu).go su (.v _) q⟩
          cases rx with
          | none => exact .inl rfl
          | some hF rF => exact .inr ⟨_, _, rfl, su.sub _ _ ((l.tr lu).le _ _ hF)⟩
    · exact h3.elim) h
/-! ### pop(0) -/
def zPopAt : D → ZRA := fun d es M Q => match d, es with
  | .v (.ref a), [.v (.int i)] => ∃ ds e, i = 0 ∧ M a = some (.lst (e :: ds)) ∧ Q e (mput M a (.lst ds))
  | _, _ => False
theorem lrm_popAt : LRM K rPopAt zPopAt := fun w x xs d ds Qz Q s rx r c h => by
  unfold zPopAt at h
  split at h
  · rename_i a i
    obtain ⟨fs, e, rfl, e1, q⟩ := h
    obtain ⟨o, e2, e3⟩ := s.mu _ _ e1
    cases e3 with
    | lst r' =>
      cases r with
      | cons r0 r =>
        cases r
        cases r' with
        | @cons _ y _ ys ry r' =>
          refine ⟨a, y :: ys, 0, 0, y, rx.v_inv, by rw [r0.v_inv], e2, by decide, by decide, ?_, rfl, c ⟨w.F, mput w.M a (.lst fs), upd w.H a (.lst ys)⟩ _ _ (nx_write e1) (Sim.write s e1 (.lst r')) ry q⟩
          unfold seqIndex?
          simp
  · exact h.elim
end
/-! ### words for the walk -/
section
variable {w : World} {δ : ZSt} {M : MS} {Q : ZQ} {D1 : ZEnds} {z zk zv : ZE} {zd : ZE}
def nGetZ (w : World) (x d : D) (M : MS) (Q : ZQ) : Prop := match x with | .v (.ref a) => ∃ kvs v, M a = some (.dN w a kvs) ∧ keyB d = true ∧ getN kvs d = some v ∧ Q v M | _ => False
theorem u_nget : zNGet w zd zk δ M Q = zd δ M fun x M1 => zk δ M1 fun d M2 => nGetZ w x d M2 Q := rfl
theorem e_nget {a : Addr} {d : D} : nGetZ w (.v (.ref a)) d M Q = ∃ kvs, M a = some (.dN w a kvs) ∧ keyB d = true ∧ ∃ v, getN kvs d = some v ∧ Q v M := by
  show (∃ kvs v, M a = some (.dN w a kvs) ∧ keyB d = true ∧ getN kvs d = some v ∧ Q v M) = _
  simp only [exists_and_left]
theorem e_nin {a : Addr} {d : D} {neg : Bool} : zNIn w neg d (.v (.ref a)) M Q = ∃ kvs, M a = some (.dN w a kvs) ∧ keyB d = true ∧ Q (.v (.bl ((getN kvs d).isSome != neg))) M := rfl
def nPutZ (w : World) (x d v : D) (M : MS) (Qn : MS → Prop) : Prop := match x with | .v (.ref a) => ∃ kvs, M a = some (.dN w a kvs) ∧ keyB d = true ∧ kvs.length < sizeLine ∧ Qn (mput M a (.dN w a (putN kvs d v))) | _ => False
theorem u_nput : zNPut w zd zk zv D1 δ M = zv δ M fun v M1 => zd δ M1 fun x M2 => zk δ M2 fun d M3 => nPutZ w x d v M3 (D1.nx δ) := rfl
theorem e_nput {a : Addr} {d v : D} {Qn : MS → Prop} : nPutZ w (.v (.ref a)) d v M Qn = ∃ kvs, M a = some (.dN w a kvs) ∧ keyB d = true ∧ kvs.length < sizeLine ∧ Qn (mput M a (.dN w a (putN kvs d v))) := rfl
theorem u_nnew : zNNew w δ M Q = ∀ p, M p = none → Q (.v (.ref p)) (mput M p (.dN w p [])) := rfl
theorem u_n1 : zN1 w zk zv δ M Q = ∀ p, M p = none → zk δ (mput M p (.dN w p [])) fun d M1 => zv δ M1 fun e M2 => M2 p = some (.dN w p []) ∧ keyB d = true ∧ Q (.v (.ref p)) (mput M2 p (.dN w p [(d, e)])) := rfl
theorem u_lamW {P : Addr} {q : Str} {zw : ZWd} {zl : ZX → ZE} : zLamW P q zw zl δ M Q = (M P = some (.tbl q) ∧ zw (fun E M' Q' => zl E δ M' Q') M Q) := rfl
theorem u_act {f : Addr} {za : ZX → MS → ZQ → Prop} {Wz : ZW} : zAct f za Wz δ M Q = (δ[0]? = some (some (.v (.ref f))) ∧ za (fun C gs M' => Wz C gs δ M') M Q) := rfl
theorem e_popAt {a : Addr} {i : Int} : zPopAt (.v (.ref a)) [.v (.int i)] M Q = ∃ ds, ∃ e, i = 0 ∧ M a = some (.lst (e :: ds)) ∧ Q e (mput M a (.lst ds)) := rfl
end
/-! ### keys of whole numbers -/
abbrev kI (i : Int) : D := .v (.int i)
theorem keyB_2 {i j : Int} : keyB (.tup [.v (.int i), .v (.int j)]) = true := id (Eq.refl true)
theorem keyOf_2 {i j : Int} : keyOf (.tup [.v (.int i), .v (.int j)]) = some (.tup [.num i, .num j]) := rfl
theorem getN_nil {d : D} : getN [] d = none := rfl
theorem putN_len {kvs : List (D × D)} {d e : D} : (putN kvs d e).length ≤ kvs.length + 1 := by
  unfold putN
  split
  · rw [List.length_map]; omega
  · rw [List.length_append]; exact Nat.le_refl _
theorem putN_new {kvs : List (D × D)} {d e : D} (h : getN kvs d = none) : putN kvs d e = kvs ++ [(d, e)] := by
  unfold putN
  rw [h]
  rfl
theorem getN_app {kvs : List (D × D)} {d e c : D} : getN (kvs ++ [(d, e)]) c = (getN kvs c).or (if keyOf d = keyOf c then some e else none) := by
  unfold getN
  rw [List.find?_append]
  cases h : kvs.find? (fun kv => decide (keyOf kv.1 = keyOf c)) with
  | some p => rfl
  | none =>
    rw [List.find?_cons]
    dsimp only
    by_cases q : keyOf d = keyOf c
    · rw [decide_eq_true q, if_pos q]
      rfl
    · rw [decide_eq_false q, if_neg q]
      rfl
/-! ### lists that may change; while; what is kept -/
section
variable {M : MS} {Q : ZQ} {δ : ZSt}
theorem e_lenM {a : Addr} : zLen [.v (.ref a)] M Q = ∃ n, lenD M (.v (.ref a)) = some n ∧ Q (.v (.int (n : Nat))) M := rfl
theorem lenD_lst {a : Addr} {ds : List D} (h : M a = some (.lst ds)) : lenD M (.v (.ref a)) = some ds.length := by
  unfold lenD seqOf
  simp only [h]
theorem e_tupM {a : Addr} : zTuple [.v (.ref a)] M Q = ∃ es, seqOf M (.v (.ref a)) = some es ∧ Q (.tup es) M := rfl
theorem seqOf_lst {a : Addr} {ds : List D} (h : M a = some (.lst ds)) : seqOf M (.v (.ref a)) = some ds := by
  unfold seqOf
  simp only [h]
theorem u_bm {r : D → ZRA} {ze : ZE} {za : ZA} : zBM r ze za δ M Q = ze δ M fun d M1 => (∃ a ds, d = .v (.ref a) ∧ M1 a = some (.lst ds)) ∧ za δ M1 fun es M2 => r d es M2 Q := rfl
theorem u_bm0 {r : D → ZRA} {ze : ZE} : zBM0 r ze δ M Q = ze δ M fun d M1 => (∃ a ds, d = .v (.ref a) ∧ M1 a = some (.lst ds)) ∧ r d [] M1 Q := rfl
theorem e_append {a : Addr} {e : D} : zAppend (.v (.ref a)) [e] M Q = ∃ ds, M a = some (.lst ds) ∧ ds.length < sizeLine ∧ Q (.v .non) (mput M a (.lst (ds ++ [e]))) := rfl
theorem e_extend {a : Addr} {fs : List D} : zExtend (.v (.ref a)) [.lst fs] M Q = ∃ ds, M a = some (.lst ds) ∧ ds.length + fs.length ≤ sizeLine ∧ Q (.v .non) (mput M a (.lst (ds ++ fs))) := rfl
theorem e_pop {a : Addr} : zPop (.v (.ref a)) [] M Q = ∃ ds, ∃ e, M a = some (.lst (ds ++ [e])) ∧ Q e (mput M a (.lst ds)) := rfl
theorem e_min2 {i j : Int} : zMin2 [.v (.int i), .v (.int j)] M Q = Q (.v (.int (if j < i then j else i))) M := rfl
theorem e_max2 {i j : Int} : zMax2 [.v (.int i), .v (.int j)] M Q = Q (.v (.int (if j > i then j else i))) M := rfl
theorem zwhile {c : ZT} {z : ZS} {D : ZEnds} (W : Nat → ZSt → MS → Prop) (h0 : ∃ m, W m δ M) (hs : ∀ (m : Nat) (δ : ZSt) (M : MS) (k : ZSt → MS → Prop), W m δ M → (∀ δ M m', m' < m → W m' δ M → k δ M) →
    c δ M fun b M1 => if b = true then z { D with nx := k, ct := k, bk := D.nx } δ M1 else D.nx δ M1) : zWhile c z D δ M :=
  ⟨W, h0, fun m δ M hw => hs m δ M _ hw fun δ M m' l h => ⟨m', l, h⟩⟩
end
/-- what may change stands as it was, apart from what is new -/
def Kp (M M' : MS) : Prop := ∀ a m, M a = some m → M' a = some m
theorem Kp.rf (M : MS) : Kp M M := fun _ _ h => h
theorem Kp.tr {M M1 M2 : MS} (a : Kp M M1) (b : Kp M1 M2) : Kp M M2 := fun x m h => b x m (a x m h)
theorem Kp.put {M M' : MS} {p : Addr} {o : MO} (a : Kp M M') (h : M p = none) : Kp M (mput M' p o) := fun x m e => by
  rw [mput_ne (fun q => by rw [q, h] at e; cases e)]
  exact a x m e
/-- the same with the hand at h drawn from -/
def Hk (h : Addr) (M M' : MS) : Prop := Hd M' h ∧ ∀ a m, a ≠ h → M a = some m → M' a = some m
theorem Hx.k {h : Addr} {M M' : MS} (x : Hx h M M') : Hk h M M' := ⟨x.1, fun a m n e => by rw [x.2 a n]; exact e⟩
theorem Hk.rf {h : Addr} {M : MS} (k : Hd M h) : Hk h M M := ⟨k, fun _ _ _ e => e⟩
theorem Hk.tr {h : Addr} {M M1 M2 : MS} (a : Hk h M M1) (b : Hk h M1 M2) : Hk h M M2 := ⟨b.1, fun x m n e => b.2 x m n (a.2 x m n e)⟩
theorem Kp.hd {M M' : MS} {h : Addr} (a : Kp M M') (k : Hd M h) : Hd M' h := by
  obtain ⟨c, l, dg, m, n, e, r⟩ := k
  exact ⟨c, l, dg, m, n, a _ _ e, r⟩
theorem Kp.hk {M M' : MS} {h : Addr} (a : Kp M M') (k : Hd M h) : Hk h M M' := ⟨a.hd k, fun x m _ e => a x m e⟩
theorem Hd.put_ne {M : MS} {h p : Addr} {o : MO} (k : Hd M h) (n : p ≠ h) : Hd (mput M p o) h := by
  obtain ⟨c, l, dg, m, n', e, r⟩ := k
  exact ⟨c, l, dg, m, n', by rw [mput_ne (Ne.symm n)]; exact e, r⟩
theorem Hd.ne {M : MS} {h p : Addr} (k : Hd M h) (n : M p = none) : p ≠ h := fun q => by
  obtain ⟨c, l, dg, m, n', e, r⟩ := k
  rw [q, e] at n
  cases n
theorem Hk.put {h p : Addr} {M M' : MS} {o : MO} (a : Hk h M M') (n : M p = none) (nh : p ≠ h) : Hk h M (mput M' p o) := ⟨a.1.put_ne nh, fun x m nx e => by
  rw [mput_ne (fun q => by rw [q, n] at e; cases e)]
  exact a.2 x m nx e⟩
/-! ### a list taken apart -/
def zgUnl (n : Nat) (gs : ZGs) : ZG := fun d δ M Qn => match d with | .lst ds => ds.length = n ∧ gs ds δ M Qn | _ => False
theorem e_gunl {n : Nat} {gs : ZGs} {ds : List D} {δ : ZSt} {M : MS} {Qn : ZSt → MS → Prop} : zgUnl n gs (.lst ds) δ M Qn = (ds.length = n ∧ gs ds δ M Qn) := rfl
theorem lg_unl {K : PySem.W.Frag} {w0 : W3} {n : Nat} {gs : TGs} {gzs : ZGs} (h1 : LGs K w0 gs gzs) : LG K w0 (gUnl K n gs) (zgUnl n gzs) := fun w σ δ x d Nz N l s rs r c h => by
  cases d with
  | lst ds =>
    obtain ⟨a, xs, rfl, q, r'⟩ := r.lst_inv
    exact ⟨a, xs, rfl, sqL_le s.sub (SqL.of q), by rw [← r'.len]; exact h.1, h1 w σ δ xs ds Nz N l s rs r' c h.2⟩
  | _ => exact h.elim
/-! ### plain data, flags too, by depth -/
inductive Pd : Nat → D → Prop
  | non {n : Nat} : Pd n (.v .non)
  | bl {n : Nat} {b : Bool} : Pd n (.v (.bl b))
  | int {n : Nat} {i : Int} : Pd n (.v (.int i))
  | str {n : Nat} {x : Str} (h : PyData.strOk x = true) : Pd n (.v (.str x))
  | tup {n : Nat} {ds : List D} (hl : ds.length ≤ 16777216) (h : ∀ d ∈ ds, Pd n d) : Pd (n + 1) (.tup ds)
  | lst {n : Nat} {ds : List D} (hl : ds.length ≤ 16777216) (h : ∀ d ∈ ds, Pd n d) : Pd (n + 1) (.lst ds)
theorem Pd.mono {n m : Nat} {d : D} (h : Pd n d) (l : n ≤ m) : Pd m d := by
  induction h generalizing m with
  | non => exact .non
  | bl => exact .bl
  | int => exact .int
  | str h => exact .str h
  | tup hl h ih =>
    cases m with
    | zero => omega
    | succ m => exact .tup hl fun d hd => ih d hd (by omega)
  | lst hl h ih =>
    cases m with
    | zero => omega
    | succ m => exact .lst hl fun d hd => ih d hd (by omega)
theorem Pl.pd {n : Nat} {d : D} (h : Pl n d) : Pd n d := by
  induction h with
  | non => exact .non
  | int => exact .int
  | str h => exact .str h
  | tup hl h ih => exact .tup hl ih
  | lst hl h ih => exact .lst hl ih
theorem pd_row {n : Nat} {xs : List Int} (h : xs.length ≤ 16777216) : Pd (n + 1) (rowD xs) := (pl_row h).pd
section
variable {M : MS} {Q : ZQ} {d e : D}
theorem e_neS (h1 : nb d = true) (hd : dpD d ≤ 64) : zNe d d M Q ↔ Q (.v (.bl false)) M := by
  unfold zNe
  rw [(eqD_iff h1 h1).mpr rfl]
  exact ⟨fun h => h.2.2, fun h => ⟨nb_ok h1 hd, nb_ok h1 hd, h⟩⟩
theorem e_neF (h1 : nb d = true) (h2 : nb e = true) (hd : dpD d ≤ 64) (he : dpD e ≤ 64) (ne : d ≠ e) : zNe d e M Q ↔ Q (.v (.bl true)) M := by
  unfold zNe
  have q : eqD d e = false := by
    cases hh : eqD d e with
    | false => rfl
    | true => exact absurd ((eqD_iff h1 h2).mp hh) ne
  rw [q]
  exact ⟨fun h => h.2.2, fun h => ⟨nb_ok h1 hd, nb_ok h2 he, h⟩⟩
end
end Zl
namespace Zl
open PySem PySem.Spec PyProof.Rows L2 HotX

/-! ### list comprehensions while an exception is handled -/
section
variable {prog : Program} {w : World} {A : Around} {E : Value → Shared → Prop} {s : Shared}
theorem lst_end_hot {it l x1 : Addr} {i : Nat} {items : Array Value} {Q : Option Value → Shared → Prop} (hot : HotAt A x1 s.heap) (hit : s.heap.IsListIter it l i) (hl : s.heap.IsList l items) (hx : items[i]? = none)
    (hQ : ∀ h', Heap.ExtBut it s.heap h' → Q none { s with heap := h' }) (ne : x1 ≠ it) : wpAny (model prog w) A (pyNext (.ref it)) Q E s := by
  obtain ⟨hh, o1, vs1, h1, d1, c1⟩ := hot
  obtain ⟨o, ho, hc, hd⟩ := id hit
  obtain ⟨ol, hol, _, nl, hdl⟩ := hl
  unfold pyNext
  apply wpAny_bind
  refine wpAny_attempt (wpAny_callSpecial?_slot (name := Str.ofString "__next__") hit.typeIs slot_listiter_next (wpAny_call_entry slot_listiter_next hit.typeIs entry_listiter_next ?_ (args_listiter_next _)))
  show wpAny _ _ (field (.ref it) 0 >>= _) _ _ s
  apply wpAny_bind
  refine wpAny_field ho hd (x := .ref l) rfl ?_
  show wpAny _ _ (if (Value.ref l == Value.none) = true then _ else _) _ _ s
  rw [if_neg (fun z : (Value.ref l == Value.none) = true => Bool.false_ne_true z)]
  show wpAny _ _ (field (.ref it) 1 >>= _) _ _ s
  apply wpAny_bind
  refine wpAny_field ho hd (x := .int i 0) rfl ?_
  show wpAny _ _ (seqItems? (.ref l) >>= _) _ _ s
  apply wpAny_bind
  refine wpAny_seqItems hol hdl ?_
  simp only [Int.toNat_natCast, hx]
  apply wpAny_bind
  apply wpAny_rule
  apply wpAny_bind
  refine wpAny_setField ho hd (by simp) ?_
  have u1 : (s.heap.update it (Obj.mapFields (·.setIfInBounds 0 .none))).get? x1 = some o1 := by
    rw [Heap.get?_update_other _ _ ne.symm]
    exact h1
  show wpAny _ _ (newExc (.type "StopIteration") [] >>= _) _ _ _
  apply wpAny_bind
  simp only [newExc, newTuple]
  apply wpAny_bind
  refine wpAny_newObj_type ?_ (by size_fits)
  refine wpAny_bind (m := firstArgMember _ _) (wpAny_of_eq (a := Value.none) (by first | rfl | (simp only [firstArgMember]; rfl)) ?_)
  refine wpAny_newObj_type ?_ (by size_fits)
  refine raiseNew_hot ⟨hh, o1, vs1, Heap.get?_push_of_some _ (Heap.get?_push_of_some _ u1), d1, c1⟩ (Nat.ne_of_lt (Heap.lt_size (Heap.get?_push_of_some _ u1))) (Heap.get?_push_size _ rfl) rfl
    (by first | (simp; done) | (simp; omega) | (simp only [Array.size_append]; simp; omega)) ?_
  refine wpAny_bind (wpAny_isInstance (T := "StopIteration") (b := true) ⟨_, Heap.get?_update_self _ (Heap.get?_push_size _ rfl) rfl, rfl⟩ isSubtype_stop ?_)
  refine wpAny_pure (hQ _ fun b o nb e => ?_)
  have e1 : (s.heap.update it (Obj.mapFields (·.setIfInBounds 0 .none))).get? b = some o := by
    rw [Heap.get?_update_other _ _ (Ne.symm nb)]
    exact e
  rw [Heap.get?_update_other _ _ (Nat.ne_of_gt (Heap.lt_size (Heap.get?_push_of_some _ e1)))]
  exact Heap.get?_push_of_some _ (Heap.get?_push_of_some _ e1)
end
/-- the block's context, the handled exception pinned -/
abbrev blkH (X : Cx) (p : Addr × Obj) (s : Shared) (H : Hp) (scope : Scope) (cenv : Env) (fp : List Addr) : Cx := (X.blk s H scope cenv fp).tr [p] fun _ _ => False
theorem addF {α : Type} {t : Sem α} {Q Q' : α → Shared → Prop} {M : Model} {A : Around} {E : Value → Shared → Prop} {s : Shared} (h : wpAny M A t Q (fun _ _ => False) s) (hQ : ∀ a s, Q a s → Q' a s) : wpAny M A t Q' E s := wpAny_mono h hQ fun _ _ z => z.elim
/-- a list walked -/
def iLst (K : PySem.W.Frag) (te : TE) : TI := fun σ H R => te σ H fun x H1 => ∃ a, x = .ref a ∧ (∃ xs, SqL K H1 a xs) ∧ R (Itl K a) H1
section
variable {X : Cx} {p : Addr × Obj}
theorem lcH_core {pins : List (Addr × Obj)} {s : Shared} {σ : L2.St} {H : Hp} {Q : VK} {elt tg iter : Expr} {ifs : List Expr} {scope : Scope} {own : List (Str × Nat)} {pos pos' : Pos} {ti : TE} {g : TG} {tt : TT} {te : TE} {use : Option (Value → Sem Unit)} {Qf : Value → Shared → Prop}
    (hot : L2H.Hot1 X.A p) (hpn : p ∈ X.pn) (hN : X.N.Nodup) (I : Inv X pins σ H s) (hi : PE X iter ti) (ok : BlkOk X.N X.env.scope scope own)
    (hg : ∀ (s : Shared) (H : Hp) (C : Addr) (cl : List (Str × Addr)) (fp : List Addr), PG (blkH X p s H scope (compEnvC scope cl C X.env) fp) tg g)
    (ht : ∀ (s : Shared) (H : Hp) (C : Addr) (cl : List (Str × Addr)) (fp : List Addr), PTs (blkH X p s H scope (compEnvC scope cl C X.env) fp) ifs tt)
    (he : ∀ (s : Shared) (H : Hp) (C : Addr) (cl : List (Str × Addr)) (fp : List Addr), PE (blkH X p s H scope (compEnvC scope cl C X.env) fp) elt te) (hs : ∀ x, foldedSetIterable iter X.env x = pure x)
    (h : tLc (iLst X.K ti) g tt te (own.map (·.2)) σ H Q)
    (hRR : ∀ D C s' m H', Inv X pins σ H' s' → Q (.ref D) H' → s'.heap.Ns C m → FpOk X pins H' C → compPost (model X.prog X.w) X.A X.xe use Qf (.ref D) C (.ok .next) s') :
    wpAny (model X.prog X.w) X.A (comprehension (.ListComp elt [⟨tg, iter, ifs, 0⟩] scope pos) scope X.env pos' (newList []) false (eval iter X.env) use) Qf X.xe s := by
  have cap : ∀ y ∈ scope.names, y.2 = .free → ∃ c, X.env.cells.lookup y.1 = some c := by
    intro y hy e
    rcases ok.free y hy e with k | k
    · exact I.ok.has _ (.inl k)
    · exact I.ok.has _ (.inr k)
  apply wpAny_comprehension_free (use := use) rfl hs (closure_ok cap) ok.kind (fun y hy e => by rw [ok.uniq y hy, e])
  refine thn (hi.run pins s σ H _ I h) ?_
  rintro xv s1 ⟨x, H1, I1, r1, a, rfl, ⟨xs0, hq0⟩, q⟩
  cases r1
  obtain ⟨its0, rv0, l0, _⟩ := I1.list hq0
  refine wpAny_pyIter_list l0.isList ?_
  generalize hit : s1.heap.objs.size = it
  have itn : H1 it = none := I1.hok.fresh (Nat.le_of_eq hit)
  generalize hs2 : ({ s1 with heap := s1.heap.push _ } : Shared) = s2
  have k2 : ∀ b o, s1.heap.get? b = some o → s2.heap.get? b = some o := fun b o e => by
    rw [← hs2]
    exact Heap.get?_push_of_some _ e
  have I2 : Inv X pins σ H1 s2 := by
    rw [← hs2]
    exact I1.kept (t' := s1.toks) fun b o e => Heap.get?_push_of_some _ e
  have t2 : s2.heap.IsListIter it a 0 := by
    rw [← hs2, ← hit]
    exact ⟨_, Heap.get?_push_size _ rfl, rfl, rfl⟩
  have f2 : FpOk X pins H1 it := I1.fpOk (Nat.le_of_eq hit) itn
  refine wpAny_newObj_type (newEnv_comp ?_) (by show 0 ≤ sizeLine; decide)
  generalize hD : s2.heap.objs.size = D
  obtain ⟨W, ⟨m0, w0⟩, turn⟩ := q D (I2.hok.fresh (Nat.le_of_eq hD))
  generalize hs3 : ({ s2 with heap := s2.heap.push { cls := .type "list", data := .seq ([] : List Value).toArray } } : Shared) = s3
  have h3 : s3.heap = s2.heap.push { cls := .type "list", data := .seq ([] : List Value).toArray } := by rw [← hs3]
  have I3 : Inv X pins σ (upd H1 D (.lst [])) s3 := by
    rw [← hs3]
    refine I2.laid (t' := s2.toks) (fun b o e => Heap.get?_push_of_some _ e) (Nat.le_of_eq hD) ⟨Nat.zero_le _, [], 0, .nil, ?_⟩
    rw [← hD]
    exact Heap.get?_push_size _ rfl
  have itlt : it < s2.heap.objs.size := by
    obtain ⟨o, e, _⟩ := t2
    exact Heap.lt_size e
  have f3 : ∀ b ∈ [it], FpOk X pins (upd H1 D (.lst [])) b ∧ b < s3.heap.objs.size := by
    intro b hb
    cases List.mem_singleton.mp hb
    refine ⟨⟨?_, f2.2⟩, by rw [h3, Heap.size_push]; exact Nat.lt_succ_of_lt itlt⟩
    rw [upd_ne (by rw [← hD]; exact Nat.ne_of_lt itlt)]
    exact itn
  have t3 : s3.heap.IsListIter it a 0 := t2.at fun o e => by rw [h3]; exact Heap.get?_push_of_some _ e
  have p3 := I3.pin p (List.mem_append_left _ hpn)
  have plt : p.1 < s3.heap.objs.size := Heap.lt_size p3.1
  have I4 := block_start I3 ok hN f3
  have pg := hg s3 (upd H1 D (.lst [])) s3.heap.objs.size (cellsFrom (s3.heap.objs.size + 1) scope.names (cloFrom X.env.cells scope.names [])) [it]
  have pt := ht s3 (upd H1 D (.lst [])) s3.heap.objs.size (cellsFrom (s3.heap.objs.size + 1) scope.names (cloFrom X.env.cells scope.names [])) [it]
  have pe := he s3 (upd H1 D (.lst [])) s3.heap.objs.size (cellsFrom (s3.heap.objs.size + 1) scope.names (cloFrom X.env.cells scope.names [])) [it]
  show codeAny _ _ (.compStart (.ListComp elt [⟨tg, iter, ifs, 0⟩] scope pos) 0 (.ref it) (.ref D) (compEnvC scope (cellsFrom (s3.heap.objs.size + 1) scope.names (cloFrom X.env.cells scope.names [])) s3.heap.objs.size X.env)) (compPost (model X.prog X.w) X.A X.xe use Qf (.ref D) s3.heap.objs.size) { s3 with heap := pushCells (s3.heap.push { cls := .type "dict", data := .dict #[] }) scope.names }
  generalize hce : compEnvC scope (cellsFrom (s3.heap.objs.size + 1) scope.names (cloFrom X.env.cells scope.names [])) s3.heap.objs.size X.env = ce at I4 pg pt pe ⊢
  have cL : ce.locals = s3.heap.objs.size := by subst hce; rfl
  have n3 : (upd H1 D (.lst [])) it = none := (f3 it (List.mem_singleton.mpr rfl)).1.1
  generalize hH3 : upd H1 D (.lst []) = H3 at I3 I4 pg pt pe w0 n3 f3 p3
  generalize hs4 : ({ s3 with heap := pushCells (s3.heap.push { cls := .type "dict", data := .dict #[] }) scope.names } : Shared) = s4 at I4 ⊢
  have k4 : ∀ b o, s3.heap.get? b = some o → s4.heap.get? b = some o := fun b o e => by
    rw [← hs4]
    exact pushCells_keeps _ _ _ _ (Heap.get?_push_of_some _ e)
  have t4 : s4.heap.IsListIter it a 0 := t3.at fun o e => k4 _ _ e
  -- the exception stands pinned within the block
  have J4 : Inv (blkH X p s3 H3 scope ce [it]) [] (wipe σ (own.map (·.2))) H3 s4 := by
    refine (Inv.pins_of (pins' := [p]) I4 fun q hq => ?_).toTry _
    cases List.mem_singleton.mp hq
    refine ⟨k4 _ _ p3.1, p3.2.1, ?_, fun z => ?_, p3.2.2.2.2⟩
    · show p.1 ≠ ce.locals
      rw [cL]
      exact Nat.ne_of_lt plt
    · exact (List.mem_cons.mp (I3.stkSub _ z)).elim p3.2.2.1 p3.2.2.2.1
  have pit : p.1 ≠ it := (f3 it (List.mem_singleton.mpr rfl)).1.2.2.2.2.2 p (List.mem_append_left _ hpn)
  have stat : ∀ {σ' : L2.St} {H' : Hp} {s' : Shared}, Inv (blkH X p s3 H3 scope ce [it]) [] σ' H' s' → H' it = none → FpOk (blkH X p s3 H3 scope ce [it]) [] H' it := by
    intro σ' H' s' J n
    refine ⟨n, (J.ok.exf it (List.mem_singleton.mpr rfl)).1, J.ok.exfs it (List.mem_singleton.mpr rfl), .inl (List.mem_singleton.mpr rfl), fun x c e => (J.ok.exf it (List.mem_singleton.mpr rfl)).2 x c e, fun q hq => ?_⟩
    rw [List.append_nil] at hq
    cases List.mem_singleton.mp hq
    exact pit
  have hotJ : ∀ {σ' : L2.St} {H' : Hp} {s' : Shared} {pl : List (Addr × Obj)}, Inv (blkH X p s3 H3 scope ce [it]) pl σ' H' s' → HotAt X.A p.1 s'.heap := by
    intro σ' H' s' pl J
    obtain ⟨hh, v1, e1, c1⟩ := hot
    exact ⟨hh, p.2, v1, (J.pin p (List.mem_append_left _ (List.mem_singleton.mpr rfl))).1, e1, c1⟩
  have loop : codeAny (model X.prog X.w) X.A (.compLoop (.ListComp elt [⟨tg, iter, ifs, 0⟩] scope pos) 0 (.ref it) (.ref D) ce) (compPost (model X.prog X.w) X.A X.xe use Qf (.ref D) s3.heap.objs.size) s4 := by
    refine compLoop_any (fun n s' => ∃ i H', Inv (blkH X p s3 H3 scope ce [it]) [] (wipe σ (own.map (·.2))) H' s' ∧ s'.heap.IsListIter it a i ∧ H' it = none ∧ W i n H') ?_ m0 ⟨0, H3, J4, t4, n3, w0⟩
    rintro n s5 ⟨i, H5, J5, t5, n5, w5⟩
    obtain ⟨g0, g1, g2, g3, g4, g5⟩ := stat J5 n5
    rcases turn i n H5 w5 with ⟨⟨xs, hq, hx⟩, qq⟩ | ⟨⟨xs, x, hq, hx⟩, Nx, hNx, step⟩
    · obtain ⟨its, rv, pl, hz⟩ := J5.list hq
      have hl := rv.length
      refine addF (lst_end_hot (hotJ J5) t5 pl.isList (Q := fun r s6 => r = none ∧ Inv (blkH X p s3 H3 scope ce [it]) [] (wipe σ (own.map (·.2))) H5 s6) (by simp; omega) (fun h' eb => ⟨rfl, J5.turned (t' := s5.toks) (fun b o hb e => eb b o hb e) g0 g1 g3 g4 g5⟩) pit) ?_
      rintro r s6 ⟨rfl, J6⟩
      have I7 : Inv X pins σ H5 s6 := by
        refine I3.call' (ch := [it]) J6.os J6.base J6.hok J6.bare fun b hb => ?_
        have z := (f3 b hb).1
        exact ⟨z.2.2.2.1, z.2.1, z.2.2.2.2.1, z.2.2.2.2.2⟩
      have nC : H5 s3.heap.objs.size = none := by
        have z : H5 ce.locals = none := J6.free
        rw [cL] at z
        exact z
      obtain ⟨m, hn, _⟩ := J6.loc
      have hn : s6.heap.Ns ce.locals m := hn
      rw [cL] at hn
      exact hRR D s3.heap.objs.size s6 m H5 I7 qq hn (I3.fpOk (Nat.le_refl _) nC)
    · obtain ⟨its, rv, pl, hz⟩ := J5.list hq
      obtain ⟨u, hu, ru⟩ := rv.get hx
      refine addF (wpAny_pyNext_list_item t5 pl.isList (x := u) (by simpa using hu) (Q := fun r s6 => r = some u ∧ Inv (blkH X p s3 H3 scope ce [it]) [] (wipe σ (own.map (·.2))) H5 s6 ∧ s6.heap.IsListIter it a (i + 1)) fun h' t6 sb => ⟨rfl, J5.turned (t' := s5.toks) (fun b o hb e => (sb.2 b hb).trans e) g0 g1 g3 g4 g5, t6⟩) ?_
      rintro r s6 ⟨rfl, J6, t6⟩
      obtain ⟨oi, ei, ci, di⟩ := id t6
      refine go_of ei ci di (by decide) ?_
      have J6' := J6.pinned (fp := [it]) (fun b hb => by cases List.mem_singleton.mp hb; exact stat J6 n5) (fun b hb => by cases List.mem_singleton.mp hb; exact ⟨oi, ei, fun v z => by rw [di] at z; cases z⟩)
      refine addF (pg.run _ s6 _ H5 x u _ J6' ru (step x H5 ⟨rfl, fun ys hy => by rw [J5.list_inj hy hq]; exact hx⟩)) ?_
      rintro _ s8 ⟨σ8, H8, J8, hw8, q8⟩
      refine addF (pt.run _ s8 σ8 H8 _ J8 q8) ?_
      rintro b s9 ⟨H9, J9, q9⟩
      have fin : ∀ {s' : Shared} {H' : Hp}, Inv (blkH X p s3 H3 scope ce [it]) ([] ++ pinsAt [it] s6.heap) σ8 H' s' → Nx H' →
          ∃ m, m < n ∧ ∃ i H', Inv (blkH X p s3 H3 scope ce [it]) [] (wipe σ (own.map (·.2))) H' s' ∧ s'.heap.IsListIter it a i ∧ H' it = none ∧ W i m H' := by
        intro s' H' J' nx
        obtain ⟨m', hm, w'⟩ := hNx H' nx
        have z := J'.pin (it, oi) (List.mem_append_right _ (List.mem_append_right _ (mem_pinsAt (List.mem_singleton.mpr rfl) ei)))
        have hl : (wipe σ (own.map (·.2))).length = σ8.length := by rw [← hw8, wipe_length]
        refine ⟨m', hm, i + 1, H', (J'.unpinned (pins := [])).weak hl (fun j v e => ?_), ⟨oi, z.1, ci, di⟩, z.2.1, w'⟩
        rw [← hw8] at e
        exact (wipe_some e).1
      cases b with
      | false =>
        simp only [Bool.false_eq_true, if_false] at q9 ⊢
        exact fin J9 q9
      | true =>
        simp only [if_true] at q9 ⊢
        refine addF (pe.run _ s9 σ8 H9 _ J9 q9) ?_
        rintro z s10 ⟨yv, H10, J10, r10, acc, hD10, hz10, nx⟩
        exact app_ok (X := blkH X p s3 H3 scope ce [it]) J10 hD10 hz10 r10 fun s11 J11 => fin J11 nx
  exact codeAny_compStart_list loop (wpAny_pyIter_listiter t4 loop)
/-- name = [..], the name a local, within an except suite -/
theorem ps_setLcH {i : Nat} {y : Str} {py : Pos} {elt tg iter : Expr} {ifs : List Expr} {scope : Scope} {own : List (Str × Nat)} {pos spos : Pos} {ti : TE} {g : TG} {tt : TT} {te : TE}
    (hot : L2H.Hot1 X.A p) (hpn : p ∈ X.pn) (hN : X.N.Nodup) (hy : X.N[i]? = some y) (hyl : X.env.scope.names.lookup y = some .local)
    (hsw : swapsWith (.ListComp elt [⟨tg, iter, ifs, 0⟩] scope pos) (some (.Name y py)) spos.line X.env = pure true) (hi : PE X iter ti) (ok : BlkOk X.N X.env.scope scope own)
    (hg : ∀ (s : Shared) (H : Hp) (C : Addr) (cl : List (Str × Addr)) (fp : List Addr), PG (blkH X p s H scope (compEnvC scope cl C X.env) fp) tg g)
    (ht : ∀ (s : Shared) (H : Hp) (C : Addr) (cl : List (Str × Addr)) (fp : List Addr), PTs (blkH X p s H scope (compEnvC scope cl C X.env) fp) ifs tt)
    (he : ∀ (s : Shared) (H : Hp) (C : Addr) (cl : List (Str × Addr)) (fp : List Addr), PE (blkH X p s H scope (compEnvC scope cl C X.env) fp) elt te) (hs : ∀ x, foldedSetIterable iter X.env x = pure x := by intro _; rfl) :
    PS X (.Assign [.Name y py] (.ListComp elt [⟨tg, iter, ifs, 0⟩] scope pos) spos) (tAsg (tLc (iLst X.K ti) g tt te (own.map (·.2))) (gName i)) := by
  constructor
  intro pins s σ H D I h
  rw [exec_Assign_Name_used _ _ _ _ hsw]
  apply wpAny_bind
  apply wpAny_standAt
  apply wpAny_bind
  show wpAny _ X.A (do let _ ← comprehension (.ListComp elt [⟨tg, iter, ifs, 0⟩] scope pos) scope X.env (firstIterPos [⟨tg, iter, ifs, 0⟩] pos) (newList []) false (eval iter X.env) (some (assign (.Name y py) X.env))) _ _ s
  have h2 : tLc (iLst X.K ti) g tt te (own.map (·.2)) σ H (fun x H1 => gName i x σ H1 D.nx) := h
  refine wpAny_bind (thn (lcH_core (Qf := fun _ s' => SP X pins D .next s') hot hpn hN I hi ok hg ht he hs h2 ?_) fun _ s' hq => wpAny_pure (wpAny_pure hq))
  intro L C s' m H' I' q hn f
  show wpAny _ _ (assign (.Name y py) X.env (.ref L)) _ _ _
  refine wpAny_assign_Name (store_ok2 (v := V.ref L) I' hN hy (.inl hyl) rfl ?_ (.inr hyl))
  rintro s2 I2 ⟨b, sb, ha⟩
  obtain ⟨f0, f1, f2, f3, f4, f5⟩ := f
  have hCb : C ≠ b := by
    rcases ha with z | z
    · rw [z]; exact f1
    · exact fun e => f4 y b z e.symm
  exact ⟨m, hn.sameBut sb hCb, fun h3 sb3 => ⟨_, H', I2.turned (t' := s2.toks) (fun b o hb e => (sb3.2 b hb).trans e) f0 f1 f3 f4 f5, q⟩⟩
end
theorem hot1_of {A : Around} {a : Addr} {oe : Obj} {cls : Value} {d : Option Addr} (hz : L2N.Zn cls d oe) (hf : ∃ vs, oe.data = .fields vs) (hA : A.handled = some (.ref a)) : L2H.Hot1 A (a, oe) := by
  obtain ⟨vs, e⟩ := hf
  exact ⟨hA, vs, e, hz.2.2 vs e⟩
def zLstI (z : ZE) : ZI := fun δ M Q => z δ M fun d M1 => match d with | .lst ds => Q ds M1 | .rd ds => Q ds M1 | _ => False
theorem u_lstI {z : ZE} {δ : ZSt} {M : MS} {QA : List D → MS → Prop} : zLstI z δ M QA = z δ M fun d M1 => match d with | .lst ds => QA ds M1 | .rd ds => QA ds M1 | _ => False := rfl
theorem li_lst {K : PySem.W.Frag} {w0 : W3} {te : TE} {ze : ZE} (h1 : LE K w0 te ze) : LI K w0 (iLst K te) (zLstI ze) := fun w σ δ Qz R l s rs c h =>
  h1 w σ δ _ _ l s rs (fun w1 d x l1 s1 r1 h2 => by
    cases d with
    | lst ds =>
      obtain ⟨a, xs, rfl, q, r⟩ := r1.lst_inv
      exact ⟨a, rfl, ⟨xs, sqL_le s1.sub (SqL.of q)⟩, c w1 _ ds l1 s1 (jok_list (SqL.of q) r) h2⟩
    | rd ds =>
      obtain ⟨a, xs, rfl, q, r⟩ := r1.rd_inv
      exact ⟨a, rfl, ⟨xs, sqL_le s1.sub q⟩, c w1 _ ds l1 s1 (jok_list q r) h2⟩
    | _ => exact h2.elim) h
end Zl
namespace Zl
open PySem PySem.Spec PyProof.Rows L2

/-! ### dicts whose keys are ints and texts -/
def kD : D → Option Key
  | .v (.int i) => some (.inl i)
  | .v (.str x) => some (.inr x)
  | _ => none
def dK : Key → D
  | .inl i => .v (.int i)
  | .inr x => .v (.str x)
def valD (kvs : List (Key × D)) (k : Key) : Option D := (kvs.find? fun kv => decide (kv.1 = k)).map (·.2)
def putKD (kvs : List (Key × D)) (k : Key) (d : D) : List (Key × D) := if (valD kvs k).isSome then kvs.map (fun kv => if kv.1 = k then (kv.1, d) else kv) else kvs ++ [(k, d)]
section
variable {K : PySem.W.Frag} {F : Hp} {kvs : List (Key × D)} {xs : List (Key × V)}
theorem kD_rep {d : D} {x : V} {k : Key} (r : Rep K F d x) (h : kD d = some k) : x = kV k := by
  unfold kD at h
  split at h
  · cases h; exact r.v_inv
  · cases h; exact r.v_inv
  · cases h
theorem dK_rep {k : Key} : Rep K F (dK k) (kV k) := by
  cases k with
  | inl i => exact .v _
  | inr x => exact .v _
theorem RepK.val {k : Key} (r : RepK K F kvs xs) : (valD kvs k = none → valV xs k = none) ∧ ∀ d, valD kvs k = some d → ∃ x, valV xs k = some x ∧ Rep K F d x := by
  induction kvs generalizing xs with
  | nil => cases r; exact ⟨fun _ => rfl, fun d h => nomatch h⟩
  | cons p kvs ih =>
    cases r with
    | @cons k' d x _ xs h r =>
      unfold valD valV at ih ⊢
      rw [List.find?_cons, List.find?_cons]
      dsimp only
      cases decide (k' = k) with
      | true => exact ⟨fun h' => (by cases h'), fun e he => (by cases he; exact ⟨x, rfl, h⟩)⟩
      | false => exact ih r
theorem RepK.valO {k : Key} (r : RepK K F kvs xs) : (valV xs k).isSome = (valD kvs k).isSome := by
  cases e : valD kvs k with
  | none => rw [r.val.1 e]; rfl
  | some d => obtain ⟨x, h, _⟩ := r.val.2 d e; rw [h]; rfl
theorem RepK.app {kvs' : List (Key × D)} {xs' : List (Key × V)} (r : RepK K F kvs xs) (r' : RepK K F kvs' xs') : RepK K F (kvs ++ kvs') (xs ++ xs') := by
  induction kvs generalizing xs with
  | nil => cases r; exact r'
  | cons p kvs ih =>
    cases r with
    | cons h r => exact .cons h (ih r)
theorem RepK.mapPut {k : Key} {d : D} {x : V} (h : Rep K F d x) : ∀ {kvs : List (Key × D)} {xs : List (Key × V)}, RepK K F kvs xs → RepK K F (kvs.map fun kv => if kv.1 = k then (kv.1, d) else kv) (xs.map fun kv => if kv.1 = k then (kv.1, x) else kv)
  | [], _, .nil => .nil
  | _, _, @RepK.cons _ _ k' d' x' kvs xs h' r => by
    rw [List.map_cons, List.map_cons]
    by_cases q : k' = k
    · subst q
      rw [if_pos rfl, if_pos rfl]
      exact .cons h (RepK.mapPut h r)
    · rw [if_neg q, if_neg q]
      exact .cons h' (RepK.mapPut h r)
theorem RepK.put {k : Key} {d : D} {x : V} (r : RepK K F kvs xs) (h : Rep K F d x) : RepK K F (putKD kvs k d) (putK xs k x) := by
  have e1 := r.valO (k := k)
  unfold putKD putK
  rw [valV_any, e1]
  split
  · exact RepK.mapPut h r
  · exact r.app (.cons h .nil)
theorem RepK.get {i : Nat} {k : Key} {v : V} (r : RepK K F kvs xs) (e : xs[i]? = some (k, v)) : ∃ d, kvs[i]? = some (k, d) ∧ Rep K F d v := by
  induction kvs generalizing xs i with
  | nil => cases r; simp at e
  | cons p kvs ih =>
    cases r with
    | @cons k' d' x' _ xs h' r =>
      cases i with
      | zero => simp at e; obtain ⟨rfl, rfl⟩ := e; exact ⟨d', rfl, h'⟩
      | succ i => rw [List.getElem?_cons_succ] at e ⊢; exact ih r e
end
/-- what the dict d is now -/
def dctOf (M : MS) : D → Option (List (Key × D))
  | .dct kvs => some kvs
  | .v (.ref a) => match M a with | some (.dct kvs) => some kvs | _ => none
  | _ => none
theorem dct_rd {K : PySem.W.Frag} {w : W3} {d : D} {x : V} {kvs : List (Key × D)} (s : Ok K w) (r : Rep K w.F d x) (h : dctOf w.M d = some kvs) : ∃ a xs, x = .ref a ∧ Rd w.H a (.dK xs) ∧ RepK K w.F kvs xs := by
  unfold dctOf at h
  split at h
  · cases h
    obtain ⟨a, o, xs, e, q, r⟩ := r.dct_inv
    exact ⟨a, xs, e, .inr ⟨o, s.sub _ _ q⟩, r⟩
  · split at h
    · cases h
      rename_i _ a _ e
      obtain ⟨o, e1, e2⟩ := s.mu _ _ e
      cases e2 with
      | dct r' => exact ⟨a, _, r.v_inv, .inl e1, r'⟩
    · cases h
  · cases h
def zDGet (zd zk : ZE) : ZE := fun δ M Q => zd δ M fun x M1 => zk δ M1 fun d M2 => ∃ kvs k v, dctOf M2 x = some kvs ∧ kD d = some k ∧ valD kvs k = some v ∧ Q v M2
def rDIn (neg : Bool) : R2 := fun y x H Q => ∃ a o, x = .ref a ∧ DGet H a y o ∧ Q (.bl (o.isSome != neg)) H
def zDIn (neg : Bool) : ZR2 := fun d x M Q => ∃ kvs k, dctOf M x = some kvs ∧ kD d = some k ∧ Q (.v (.bl ((valD kvs k).isSome != neg))) M
def zDPut (zd zk zv : ZE) : ZS := fun D δ M => zv δ M fun v M1 => zd δ M1 fun x M2 => zk δ M2 fun d M3 => match x with
  | .v (.ref a) => ∃ kvs k, M3 a = some (.dct kvs) ∧ kD d = some k ∧ kvs.length < sizeLine ∧ D.nx δ (mput M3 a (.dct (putKD kvs k v))) | _ => False
section
variable {X : Cx}
theorem op_inD (hu : X.A.units + 9 < cLine) : OpR X (compareOp .In) (rDIn false) := fun pins s σ H y x u v Q I ry rx ⟨a, o, ex, g, q⟩ => by
  subst ex
  cases (show v = Value.ref a from rx)
  exact d_in (by omega) I g ry fun s3 I3 => ⟨.bl o.isSome, H, I3, rfl, by simpa using q⟩
theorem op_notInD (hu : X.A.units + 9 < cLine) : OpR X (compareOp .NotIn) (rDIn true) := fun pins s σ H y x u v Q I ry rx ⟨a, o, ex, g, q⟩ => by
  subst ex
  cases (show v = Value.ref a from rx)
  exact d_notIn (by omega) I g ry fun s3 I3 => ⟨.bl (!o.isSome), H, I3, rfl, by simpa using q⟩
end
section
variable {K : PySem.W.Frag} {w0 : W3} {t u tv : TE} {z zk zv : ZE}
theorem le_dget (h1 : LE K w0 t z) (h2 : LE K w0 u zk) : LE K w0 (tDGet t u) (zDGet z zk) := fun v σ δ Qz Q l s rs c h =>
  h1 v σ δ _ _ l s rs (fun u1 d x l1 s1 r1 h3 => h2 u1 σ δ _ _ (l.tr l1) s1 (rs.le l1.le) (fun u2 e y l2 s2 r2 ⟨kvs, k, v', e1, ek, e2, q⟩ => by
    obtain ⟨a, xs, ex, hr, rr⟩ := dct_rd s2 (r1.le l2.le) e1
    obtain ⟨y', g2, ry⟩ := rr.val.2 _ e2
    exact ⟨a, y', ex, .inl ⟨xs, k, hr, kD_rep r2 ek, g2.symm⟩, (c.le (l1.tr l2)).go s2 ry q⟩) h3) h
theorem lr_din {neg : Bool} : LR2 K (rDIn neg) (zDIn neg) := fun v x y d e Qz Q s rx ry c ⟨kvs, k, e1, ek, q⟩ => by
  obtain ⟨a, xs, ex, hr, rr⟩ := dct_rd s ry e1
  refine ⟨a, valV xs k, ex, .inl ⟨xs, k, hr, kD_rep rx ek, rfl⟩, c.go s (.v _) ?_⟩
  rw [rr.valO]
  exact q
theorem ls_dput (h0 : LE K w0 tv zv) (h1 : LE K w0 t z) (h2 : LE K w0 u zk) : LS K w0 (sDPut t u tv) (zDPut z zk zv) := fun v σ δ Dz D l s rs c h =>
  h0 v σ δ _ _ l s rs (fun u0 e0 x0 l0 s0 r0 h3 => h1 u0 σ δ _ _ (l.tr l0) s0 (rs.le l0.le) (fun u1 d x l1 s1 r1 h3 => h2 u1 σ δ _ _ (l.tr (l0.tr l1)) s1 (rs.le (l0.tr l1).le) (fun u2 e y l2 s2 r2 h4 => by
    split at h4
    · rename_i a
      obtain ⟨kvs, k, e1, ek, hlen, q⟩ := h4
      obtain ⟨o, e2, e3⟩ := s2.mu _ _ e1
      cases e3 with
      | @dct _ xs rr =>
        have lw : Nx u2 ⟨u2.F, mput u2.M a (.dct (putKD kvs k e0)), upd u2.H a (.dK (putK xs k x0))⟩ := nx_write e1
        refine ⟨a, _, r1.v_inv, .inl ⟨xs, k, e2, kD_rep r2 ek, by rw [← rr.len]; exact hlen, rfl⟩, c.nx ⟨u2.F, mput u2.M a (.dct (putKD kvs k e0)), upd u2.H a (.dK (putK xs k x0))⟩ δ σ ((l0.tr (l1.tr l2)).tr lw) ?_ (rs.le ((l0.tr (l1.tr l2)).tr lw).le) q⟩
        exact Sim.write s2 e1 (.dct (rr.put (r0.le (l1.tr l2).le)))
    · exact h4.elim) h3) h3) h
end
def zSet (z : ZE) : ZE := fun δ M Q => z δ M fun d M1 => match d with
  | .v (.ref a) => ∃ ds, M1 a = some (.lst ds) ∧ Q (.lst ds) (mdel M1 a)
  | _ => False
theorem le_set {K : PySem.W.Frag} {w0 : W3} {t : TE} {z : ZE} (h1 : LE K w0 t z) : LE K w0 t (zSet z) := fun w σ δ Qz Q l s rs c h =>
  h1 w σ δ _ _ l s rs (fun u d x lu su r h2 => by
    split at h2
    · rename_i a
      obtain ⟨ds, e1, q⟩ := h2
      obtain ⟨o, e2, e3⟩ := su.mu _ _ e1
      cases e3 with
      | @lst _ xs rr =>
        obtain ⟨n1, s1⟩ := settled (o' := .lst xs) su e1 e2
        have eH : upd u.H a (.lst xs) = u.H := by
          funext b
          unfold upd
          split
          · rename_i q; rw [q, e2]
          · rfl
        have ex := r.v_inv
        subst ex
        rw [← eH]
        exact c ⟨upd u.F a (.lst xs), mdel u.M a, upd u.H a (.lst xs)⟩ _ _ (lu.tr n1) s1 (.lst upd_same (rr.le n1.le)) q
    · exact h2.elim) h
/-- for k in d, d data -/
def iKeysZ (td : TE) : TI := fun σ H R => td σ H fun x H1 => ∃ d o kvs, x = .ref d ∧ H1 d = some (.frz o (.dK kvs)) ∧ R (Itk d o kvs) H1
theorem pi_keysZ {X : Cx} {tg e : Expr} {td : TE} (he : PE X e td) : PI X tg e (iKeysZ td) := by
  refine ⟨fun pins s σ H R I h => ?_⟩
  refine thn (he.run pins s σ H _ I h) fun u s1 ⟨x, H1, I1, rx, d, o, kvs, ex, hd, q⟩ => ?_
  subst ex
  obtain rfl : u = Value.ref d := rx
  obtain ⟨hs, hgd, hx, es, ep, vs, hdt, hsz, kv, hm⟩ := I1.frzK hd
  refine iter_keys hs hgd hx hdt (pi_one (tk := s1.toks) I1 _ (turn_keys _ hdt) ⟨_, Heap.get?_push_size _ rfl, rfl, ?_⟩ q)
  rw [hsz] <;> rfl
def zKeysI (z : ZE) : ZI := fun δ M Q => z δ M fun d M1 => match d with | .dct kvs => Q (kvs.map fun kv => dK kv.1) M1 | _ => False
theorem li_keysZ {K : PySem.W.Frag} {w0 : W3} {te : TE} {ze : ZE} (h1 : LE K w0 te ze) : LI K w0 (iKeysZ te) (zKeysI ze) := fun w σ δ Qz R l s rs c h =>
  h1 w σ δ _ _ l s rs (fun w1 d x l1 s1 r1 h2 => by
    cases d with
    | dct kvs =>
      obtain ⟨a, o, xs, rfl, q, r⟩ := r1.dct_inv
      have len := r.len
      refine ⟨a, o, xs, rfl, s1.sub _ _ q, c w1 _ _ l1 s1 (fun u lu su => ?_) h2⟩
      have hu := su.sub _ _ (lu.le _ _ q)
      refine ⟨fun i hi => ?_, ⟨hu, by rw [List.length_map]; omega⟩⟩
      rw [List.length_map] at hi
      refine ⟨⟨hu, by omega⟩, fun y H2 ⟨eH, k, v, ek, ey⟩ => ?_⟩
      obtain ⟨d', e1, _⟩ := r.get ek
      refine ⟨u, dK k, eH.symm, rfl, Nx.rf u, su, by rw [List.getElem?_map, e1]; rfl, by rw [ey]; exact dK_rep⟩
    | _ => exact h2.elim) h
end Zl
namespace Zl
open PySem PySem.Spec PyProof.Rows L2 LamX NdefX

/-! ### a def within a def, handed to a class that calls it -/
section
variable {X : Cx} {pins : List (Addr × Obj)} {σ : L2.St} {H : Hp} {s : Shared}
theorem ndef_made {c P : Addr} {name : Str} {params : Arguments} {body : List Stmt} {scope : Scope} {pos : Pos} {E : Value → Shared → Prop} {Q : Value → Shared → Prop} (I : Inv X pins σ H s)
    (TB : TabB X.base X.mg c P) (hcode : X.env.code = .ref c) (hT : TabS H P (X.env.qual ++ name)) (hfree : ∀ y ∈ scope.names, y.2 = .free → ∃ c, X.env.cells.lookup y.1 = some c)
    (h : ∀ (f c' : Addr) (H1 : Hp) (s' : Shared), Inv X pins σ (upd H1 f (FnO f ⟨name, X.env.qual ++ name, params, body, scope, cloFrom X.env.cells scope.names [], c'⟩)) s' → Made P (X.env.qual ++ name) H H1 c' → H1 f = none →
      H1 c' = some (CodeO c' (X.env.qual ++ name)) → Q (.ref f) s') :
    wpAny (model X.prog X.w) X.A (makeFunction name (X.env.qual ++ name) params (.stmts body) scope X.env [] [] [] pos pos.line) Q E s := by
  obtain ⟨ps, hP, ht, ha⟩ := hT
  have bP : s.heap.BuiltinsAt X.mg P := TB.bm.keeps I.bk
  have hP' : s.heap.get? P = some { cls := .none, data := .fields ps } := I.hok P _ hP
  cases hc : codeAmong pos ps.toList with
  | none =>
    refine PySem.W.makeFunction_K (mg := X.mg) (c := c) (P := P) (ps := ps) (closure_ok hfree) I.ok.glob (I.mod.glob.keeps I.bk) hcode (TB.code.keeps I.bk) hP' ht hc TB.gP bP fun c' ctv doc h' tk hx hge hlt hrec htb => ?_
    obtain ⟨c2, oc, vs, t, e2, hoc, hd, hv⟩ := hrec
    cases e2
    have nC : H c' = none := I.hok.fresh hge
    have I1 := inv_table (t' := tk) (more := #[rawInt pos.line, rawInt pos.col, .ref c']) (h' := h') I hP (fun b o hb e => hx b o hb e) htb hge ⟨oc, vs, t, hoc, hd, hv⟩
    have eL : (ps ++ #[rawInt pos.line, rawInt pos.col, .ref c']).toList = ps.toList ++ [rawInt pos.line, rawInt pos.col, .ref c'] := by simp
    have nF := I1.hok.fresh (Nat.le_refl _)
    have I2 := inv_fn (F := ⟨name, X.env.qual ++ name, params, body, scope, cloFrom X.env.cells scope.names [], c'⟩) (t' := tk) (doc := doc) (pm := (X.mg "__name__").getD .none) (ctv := ctv) I1 rfl
    refine h h'.objs.size c' _ _ I2 (.inr ⟨ps, _, hP, nC, rfl, ?_, fun p' cv e => ?_⟩) nF upd_same
    · rw [eL]
      exact PySem.TriplesOk_snoc _ _ _ _ ht
    · rw [eL] at e
      exact among_app _ ht e
  | some cv =>
    obtain ⟨c', e, hco⟩ := ha pos cv hc
    subst e
    refine PySem.W.makeFunction_hit (mg := X.mg) (c := c) (P := P) (ps := ps) (closure_ok hfree) I.ok.glob (I.mod.glob.keeps I.bk) hcode (TB.code.keeps I.bk) hP' ht hc bP fun ctv doc h' tk hx hsz => ?_
    have I1 : Inv X pins σ H { s with heap := h', toks := tk } := I.kept hx
    have nF : H h'.objs.size = none := I1.hok.fresh (Nat.le_refl _)
    have I2 := inv_fn (F := ⟨name, X.env.qual ++ name, params, body, scope, cloFrom X.env.cells scope.names [], c'⟩) (t' := tk) (doc := doc) (pm := (X.mg "__name__").getD .none) (ctv := ctv) I1 rfl
    exact h h'.objs.size c' H _ I2 (.inl ⟨rfl, ps, pos, hP, hc⟩) nF hco
end
def tNd (P : Addr) (q : Str) (i : Nat) (mk : Addr → NF) (T : Addr → Addr → TS) : TS := fun D σ H => TabS H P q ∧ ∀ (H1 : Hp) (c' f : Addr), Made P q H H1 c' → H1 f = none → T f c' D (σ.set i (some (.ref f))) (upd H1 f (FnO f (mk c')))
section
variable {X : Cx}
theorem pss_nd {st : Stmt} {rest : List Stmt} {c P : Addr} {name : Str} {pos : Pos} {i : Nat} {T : Addr → Addr → TS} (hst : st = .FunctionDef name (C8.fnArgs st) (C8.fnBody st) [] none [] (C8.fnScope st) none name pos)
    (TB : TabB X.base X.mg c P) (hcode : X.env.code = .ref c)
    (hfree : ∀ y ∈ (C8.fnScope st).names, y.2 = .free → X.env.scope.names.lookup y.1 = some .cell ∨ X.env.scope.names.lookup y.1 = some .free) (hd0 : (C8.fnArgs st).defaults = []) (hk0 : (C8.fnArgs st).kw_defaults = []) (ha : annTrees (C8.fnArgs st) none X.env = [])
    (hN : X.N.Nodup) (hi : X.N[i]? = some name) (hx : Loc X.env.scope name) (hf : X.fn name = true ∨ X.env.scope.names.lookup name = some .local) (hr : ∀ f c', PSs X rest (T f c')) :
    PSs X (st :: rest) (tNd P (X.env.qual ++ name) i (NF.of st name (X.env.qual ++ name) (cloFrom X.env.cells (C8.fnScope st).names [])) T) := by
  have one : PS X st (fun D σ H => TabS H P (X.env.qual ++ name) ∧ ∀ (H1 : Hp) (c' f : Addr), Made P (X.env.qual ++ name) H H1 c' → H1 f = none → D.nx (σ.set i (some (.ref f))) (upd H1 f (FnO f (NF.of st name (X.env.qual ++ name) (cloFrom X.env.cells (C8.fnScope st).names []) c')))) := by
    rw [hst]
    refine ⟨fun pins s σ H D I h => ?_⟩
    obtain ⟨hT, h⟩ := h
    have hq : qualnameIn X.env name name = X.env.qual ++ name := by
      have hk : X.env.kindOf name = some .local ∨ X.env.kindOf name = some .cell := hx
      unfold qualnameIn
      rcases hk with k | k <;> rw [k] <;> first | rfl | exact if_neg (by decide)
    refine PySem.W.nestDef_K hd0 hk0 ha ?_
    rw [hq]
    have hfr : ∀ y ∈ (C8.fnScope st).names, y.2 = .free → ∃ c, X.env.cells.lookup y.1 = some c := fun y hy e => (hfree y hy e).elim (fun z => I.ok.has _ (.inl z)) fun z => I.ok.has _ (.inr z)
    refine ndef_made I TB hcode hT hfr fun f c' H1 s' I1 mk f0 c1 => ?_
    exact store_ok I1 hN hi hx (v := .ref f) rfl (fun s'' J => ⟨_, _, J, h H1 c' f mk f0⟩) hf
  have two : PSs X rest (fun D σ H => ∃ f c', T f c' D σ H) := ⟨fun pins s σ H D I ⟨f, c', h⟩ => (hr f c').run pins s σ H D I h⟩
  refine ⟨fun pins s σ H D I h => ?_⟩
  exact (pss_cons one two).run pins s σ H D I ⟨h.1, fun H1 c' f mk hf => ⟨f, c', h.2 H1 c' f mk hf⟩⟩
end
def zNd (P : Addr) (q : Str) (i : Nat) (zT : Addr → ZS) : ZS := fun D δ M => M P = some (.tbl q) ∧ ∀ f, M f = none → zT f D (δ.set i (some (.v (.ref f)))) M
section
variable {K : PySem.W.Frag} {w0 : W3}
theorem ls_nd {P : Addr} {q : Str} {i : Nat} {mk : Addr → NF} {T : Addr → Addr → TS} {zT : Addr → ZS}
    (hT : ∀ (w1 : W3) (f c' : Addr), Nx w0 w1 → w1.F f = some (FnO f (mk c')) → w1.F c' = some (CodeO c' q) → LS K w1 (T f c') (zT f)) : LS K w0 (tNd P q i mk T) (zNd P q i zT) := fun w σ δ Dz D l s rs c h => by
  obtain ⟨h1, h2⟩ := h
  obtain ⟨o, e1, e2⟩ := s.mu _ _ h1
  cases e2 with
  | @tbl _ ps tk r =>
    have fP : w.F P = none := by
      cases e : w.F P with
      | none => rfl
      | some o => rw [s.dis _ _ e] at h1; cases h1
    refine ⟨⟨ps, e1, tk, fun pos cv e => let ⟨c0, a, b⟩ := r pos cv e; ⟨c0, a, s.sub _ _ b⟩⟩, fun H1 c' f mkk hf => ?_⟩
    have go : ∀ u : W3, Nx w u → Ok K u → u.F c' = some (CodeO c' q) → u.M = w.M → u.H = H1 → T f c' D (σ.set i (some (.ref f))) (upd H1 f (FnO f (mk c'))) := fun u lu su cu eM eH => by
      subst eH
      have n1 : Nx u ⟨upd u.F f (FnO f (mk c')), u.M, upd u.H f (FnO f (mk c'))⟩ := nx_new su hf
      have s1 : Ok K ⟨upd u.F f (FnO f (mk c')), u.M, upd u.H f (FnO f (mk c'))⟩ := su.freeze hf
      have lw := lu.tr n1
      refine hT ⟨upd u.F f (FnO f (mk c')), u.M, upd u.H f (FnO f (mk c'))⟩ f c' (l.tr lw) upd_same ?_ _ _ _ _ _ (Nx.rf _) s1 ((rs.le lw.le).set (.v _) i) (c.le lw) ?_
      · exact n1.le _ _ cu
      · show zT f Dz _ u.M
        rw [eM]
        refine h2 f ?_
        rw [← eM]
        exact su.nM hf
    rcases mkk with ⟨rfl, ps', pos, a1, a2⟩ | ⟨ps', more, a1, a2, rfl, a3, a4⟩
    · rw [e1] at a1
      cases a1
      obtain ⟨c0, b1, b2⟩ := r pos _ a2
      cases b1
      exact go w (Nx.rf w) s b2 rfl rfl
    · rw [e1] at a1
      cases a1
      have fc := s.nF a2
      have mc := s.nM a2
      refine go ⟨upd w.F c' (CodeO c' q), w.M, upd (upd w.H P (.tbl (ps ++ more))) c' (CodeO c' q)⟩ ⟨Le.put fc, fun a o ea nt na => ?_⟩ ⟨fun a o ea => ?_, fun a o ea => ?_, fun a m ea => ?_⟩ upd_same rfl rfl
      · have n1 : a ≠ c' := fun z => by rw [z, a2] at ea; cases ea
        have n2 : a ≠ P := fun z => by rw [z, e1] at ea; cases ea; exact nt _ rfl
        refine ⟨?_, na, fun f0 => ?_⟩
        · show upd (upd w.H P _) c' _ a = _
          rw [upd_ne n1, upd_ne n2]
          exact ea
        · show upd w.F c' _ a = _
          rw [upd_ne n1]
          exact f0
      · show upd (upd w.H P _) c' _ a = _
        have ea' : upd w.F c' (CodeO c' q) a = some o := ea
        by_cases n1 : a = c'
        · subst n1
          rw [upd_same] at ea' ⊢
          exact ea'
        · rw [upd_ne n1] at ea'
          rw [upd_ne n1, upd_ne (fun z => by rw [z, fP] at ea'; cases ea')]
          exact s.sub _ _ ea'
      · have ea' : upd w.F c' (CodeO c' q) a = some o := ea
        by_cases n1 : a = c'
        · rw [n1]
          exact mc
        · rw [upd_ne n1] at ea'
          exact s.dis _ _ ea'
      · have n1 : a ≠ c' := fun z => by
          have ea' : w.M a = some m := ea
          rw [z, mc] at ea'
          cases ea'
        by_cases n2 : a = P
        · subst n2
          have em : m = .tbl q := by
            have ea' : w.M a = some m := ea
            rw [h1] at ea'
            cases ea'
            rfl
          subst em
          refine ⟨.tbl (ps ++ more), by show upd (upd w.H a _) c' _ a = _; rw [upd_ne n1, upd_same], .tbl a3 fun pos cv e => ?_⟩
          rcases a4 pos cv e with e | e
          · obtain ⟨c0, b1, b2⟩ := r pos cv e
            exact ⟨c0, b1, Le.put fc _ _ b2⟩
          · exact ⟨c', e, upd_same⟩
        · obtain ⟨o, b1, b2⟩ := s.mu _ _ ea
          exact ⟨o, by show upd (upd w.H P _) c' _ a = _; rw [upd_ne n1, upd_ne n2]; exact b1, b2.le (Le.put fc)⟩
end
/-! ### what it promises, by what its cells hold -/
abbrev ZFp := List D → ZSp
inductive RepC (K : PySem.W.Frag) (F : Hp) : List D → List (Option V) → Prop
  | nil : RepC K F [] []
  | cons {d : D} {x : V} {ds : List D} {xs : List (Option V)} (h : Rep K F d x) (r : RepC K F ds xs) : RepC K F (d :: ds) (some x :: xs)
theorem RepC.le {K : PySem.W.Frag} {F G : Hp} (l : Le F G) {ds : List D} {xs : List (Option V)} (h : RepC K F ds xs) : RepC K G ds xs := by
  induction h with
  | nil => exact .nil
  | cons h _ ih => exact .cons (h.le l) ih
theorem RepC.len {K : PySem.W.Frag} {F : Hp} {ds : List D} {xs : List (Option V)} (h : RepC K F ds xs) : ds.length = xs.length := by
  induction h with
  | nil => rfl
  | cons h _ ih => rw [List.length_cons, List.length_cons, ih]
theorem RepC.get {K : PySem.W.Frag} {F : Hp} {ds : List D} {xs : List (Option V)} (h : RepC K F ds xs) {i : Nat} {d : D} (e : ds[i]? = some d) : ∃ x, xs[i]? = some (some x) ∧ Rep K F d x := by
  induction h generalizing i with
  | nil => simp at e
  | cons h _ ih =>
    cases i with
    | zero => simp at e; subst e; exact ⟨_, rfl, h⟩
    | succ i => rw [List.getElem?_cons_succ] at e ⊢; exact ih e
def spN (K : PySem.W.Frag) (zn : ZFp) (ws : List (Option V)) : Sp := fun vs H Q E => ∃ (w : W3) (cs ds : List D) (Qz : ZQ) (Ez : ZX), w.H = H ∧ Ok K w ∧ RepC K w.F cs ws ∧ Reps K w.F ds vs ∧ CtE K w Qz Q ∧ CtX K w Ez E ∧ zn cs ds w.M Qz Ez
theorem RepS.startF {K : PySem.W.Frag} {F : Hp} {ds cs : List D} {vs : List V} {ws : List (Option V)} (h : Reps K F ds vs) (g : RepC K F cs ws) (N : List Str) :
    RepS K F (ds.map some ++ (cs.map some ++ List.replicate (N.length - ds.length - cs.length) none)) (startF N vs ws) := by
  have l1 := h.len
  have l2 := g.len
  unfold NdefX.startF
  refine ⟨by simp [l1, l2], fun i d e => ?_⟩
  by_cases q : i < ds.length
  · rw [List.getElem?_append_left (by rw [List.length_map]; exact q), List.getElem?_map] at e
    rw [List.getElem?_append_left (by rw [List.length_map, ← l1]; exact q), List.getElem?_map]
    cases e1 : ds[i]? with
    | none => rw [e1] at e; cases e
    | some d' =>
      rw [e1] at e
      cases e
      obtain ⟨y, e2, e3⟩ := h.get e1
      exact ⟨y, by rw [e2]; rfl, e3⟩
  · rw [List.getElem?_append_right (by rw [List.length_map]; omega), List.length_map] at e
    rw [List.getElem?_append_right (by rw [List.length_map]; omega), List.length_map, ← l1]
    by_cases q2 : i - ds.length < cs.length
    · rw [List.getElem?_append_left (by rw [List.length_map]; exact q2), List.getElem?_map] at e
      rw [List.getElem?_append_left (by omega)]
      cases e1 : cs[i - ds.length]? with
      | none => rw [e1] at e; cases e
      | some d' =>
        rw [e1] at e
        cases e
        exact g.get e1
    · rw [List.getElem?_append_right (by rw [List.length_map]; omega), List.getElem?_replicate] at e
      split at e <;> cases e
theorem zokN {P : Program} {w : World} {K : PySem.W.Frag} {mg : Str → Option Value} {base : Heap} {st : Stmt} {name qual : Str} {N ps fr : List Str} {k : Nat} {zn : ZFp} (S : NScope N ps fr (C8.fnScope st))
    (hbd : ∀ (F : NF), F.params = C8.fnArgs st → ∀ (doc pm ctv : Value) (us : List Value), us.length = ps.length → bindArgs (F.fd doc pm ctv) ⟨us, []⟩ = pure (ps.zip us)) (hl : ∀ cs ds M Q E, zn cs ds M Q E → ds.length = ps.length)
    (hb : ∀ (cl : List (Str × Addr)) (f c' : Addr) (A : Around) (outer : List Env) (s : Shared) (H : Hp) (E : XK) (w0 : W3) (Ez : ZX), Room k (A.deeper (envF (NF.of st name qual cl c') f s.heap.objs.size)) → CtW K w0 (WBz Ez) (WB E) →
      ∃ (t : TS) (z : ZS), PSs (ncx (L2N.CX P w) P w K mg base N (NF.of st name qual cl c') f A outer s H E) (C8.fnBody st) t ∧ LS K w0 t z ∧
        ∀ cs ds Qz, cs.length = fr.length → zn cs ds w0.M Qz Ez → z { nx := fun _ M' => Qz (.v .non) M', rt := Qz } (ds.map some ++ (cs.map some ++ List.replicate (N.length - ds.length - cs.length) none)) w0.M) :
    ∀ (cl : List (Str × Addr)) (f c' : Addr), NOk P w K mg base (L2N.CX P w) (k + 1) f (NF.of st name qual cl c') ps fr (spN K zn) := fun cl f c' => by
  refine nok_of (N := N) S (hbd _ rfl) (fun ws vs H Q E h => ?_) fun A outer s H vs ws Q E hr hf hc hl h => ?_
  · obtain ⟨w, cs, ds, Qz, Ez, rfl, ok, rc, r, _, _, h⟩ := h
    rw [← r.len]
    exact hl _ _ _ _ _ h
  · obtain ⟨w0, cs, ds, Qz, Ez, rfl, ok, rc, r, cq, cx, h⟩ := h
    obtain ⟨t, z, hp, hz, hh⟩ := hb cl f c' A outer s w0.H E w0 Ez hr (ctW_of cx)
    exact ⟨t, hp, hz w0 _ _ { nx := fun _ M' => Qz (.v .non) M', rt := Qz } _ (Nx.rf w0) ok (RepS.startF r rc N) ⟨fun u δ σ lu su ru q => cq u _ _ lu su (.v _) q, cq, fun _ _ _ _ _ _ q => q, fun _ _ _ _ _ _ q => q⟩ (hh cs ds Qz (by rw [rc.len]; exact hl) h)⟩
/-! ### called by the def that got it -/
def LP (K : PySem.W.Frag) (w0 : W3) (tl : Sp) (zo : ZSp) : Prop := ∀ w ds vs Qz Q Ez E, Nx w0 w → Ok K w → Reps K w.F ds vs → CtE K w Qz Q → CtX K w Ez E → zo ds w.M Qz Ez → tl vs w.H Q E
def tAcN (i : Nat) (f : Addr) (G : Hp → Prop) (tl : Sp) (W : WX) (t : TA) : TE := fun σ H Q => σ[i]? = some (some (.ref f)) ∧ G H ∧ t σ H fun vs H1 => tl vs H1 Q fun c d H2 => W c d σ H2
def zAcN (i : Nat) (f : Addr) (zo : ZSp) (Wz : ZW) (za : ZA) : ZE := fun δ M Q => δ[i]? = some (some (.v (.ref f))) ∧ za δ M fun ds M1 => zo ds M1 Q fun C fs M2 => Wz C fs δ M2
theorem le_acN {K : PySem.W.Frag} {w0 : W3} {i : Nat} {f : Addr} {G : Hp → Prop} {tl : Sp} {zo : ZSp} {W : WX} {Wz : ZW} {t : TA} {za : ZA} (hW : CtW K w0 Wz W) (hG : ∀ w, Nx w0 w → Ok K w → G w.H) (hl : LP K w0 tl zo) (ha : LA K w0 t za) : LE K w0 (tAcN i f G tl W t) (zAcN i f zo Wz za) := fun w σ δ Qz Q l s rs c h => by
  obtain ⟨h1, h2⟩ := h
  obtain ⟨x, e1, r⟩ := rs.get i _ h1
  have ex := r.v_inv
  subst ex
  exact ⟨e1, hG w l s, ha w σ δ _ _ l s rs (fun u ds xs lu su r q => hl u ds xs Qz Q _ _ (l.tr lu) su r (c.le lu) (fun v C d fs lv sv rx qx => hW v C d fs δ σ (l.tr (lu.tr lv)) sv (rs.le (lu.tr lv).le) rx qx) q) h2⟩
def ActN (Z : Cx) (a : Str) (i : Nat) (f : Addr) (G : Hp → Prop) (tl : Sp) : Prop := ∀ (W : WX) (e : Expr) (es : List Expr) (t : TA) (p1 p2 : Pos), L2N.Takes Z W → PA Z (e :: es) t →
  starEach (e :: es) Z.env = (false, eval e Z.env) :: starEach es Z.env → (backTo p2 (starEach es Z.env)).any (·.1) = false → PE Z (.Call (.Name a p1) (e :: es) [] p2) (tAcN i f G tl W t)
section
variable {X : Cx} {pins : List (Addr × Obj)} {σ : L2.St} {H : Hp} {s : Shared}
theorem cells_keep {cl : List (Str × Addr)} {fr : List Str} {ws : List (Option V)} (C : CellsAt cl fr ws X.s_0.heap X.H_0) (hx : X.ex = []) (I : Inv X pins σ H s) : CellsAt cl fr ws s.heap H := by
  have nx : ∀ c, c ∉ X.ex := fun c z => by rw [hx] at z; cases z
  have kp : ∀ y c, cl.lookup y = some c → ∀ v, X.s_0.heap.IsCell c v → s.heap.IsCell c v := fun y c e v ⟨o, ho, hd⟩ => by
    obtain ⟨sl, q⟩ := I.base.any ho (C.all y c e).1 (nx c)
    exact ⟨_, q, hd⟩
  refine ⟨C.len, fun y c e => ?_, C.inj, fun i y e => ?_⟩
  · obtain ⟨n, v, z⟩ := C.all y c e
    refine ⟨?_, v, kp y c e v z⟩
    obtain ⟨o, ho, _⟩ := z
    exact I.base.free c o ho n (nx c)
  · obtain ⟨c, hc, hv⟩ := C.has i y e
    refine ⟨c, hc, fun v ev => ?_⟩
    obtain ⟨u, r, z⟩ := hv v ev
    exact ⟨u, r, kp y c hc _ z⟩
theorem act_of {F : NF} {ps fr : List Str} {ws : List (Option V)} {a : Str} {i k j : Nat} {f : Addr} {sp : List (Option V) → Sp} (Fn : NOk X.prog X.w X.K X.mg X.base (L2N.CX X.prog X.w) k f F ps fr sp) (hr : Room j X.A) (hk : k ≤ j) (hex : X.ex = [])
    (C : CellsAt F.cl fr ws X.s_0.heap X.H_0) (hN : X.N[i]? = some a) (hv : Vis X.env.scope a) (hd : (a == ("__debug__" : Str)) = false := by decide) (hcd : (a == ("__classdict__" : Str)) = false := by decide) :
    ActN X a i f (fun H => H f = some (FnO f F)) (fun vs H Q E => H f = some (FnO f F) ∧ H F.c = some (CodeO F.c F.qual) ∧ sp ws vs H Q E) := by
  intro W e es t p1 p2 tk ha he hpl
  refine ⟨fun pins s σ H Q I h => ?_⟩
  obtain ⟨hs, hg, ht⟩ := h
  refine wpAny_Call_Name_kw (thn ((pe_var (pos := p1) hN hv hd hcd).run pins s σ H (fun v H1 => v = .ref f ∧ H1 = H) I ⟨.ref f, hs, rfl, rfl⟩) fun u s1 ⟨v, H1, I1, r1, q1⟩ => ?_)
  obtain ⟨ev, eH⟩ := q1
  subst ev
  rw [eH] at I1
  obtain rfl : u = Value.ref f := r1
  have fn0 : PySem.W.FnAt f s1.heap := fnAt_of I1 hg
  refine PySem.W.callWith_F (first := []) fn0 (thn (ha.run p2 pins s1 σ H _ I1 ht) fun us s2 ⟨vs, H2, I2, r, h1, h2, q⟩ => ⟨fnAt_of I2 h1, ?_⟩) he hpl
  show wpAny _ _ (call (.ref f) us) _ _ _
  refine wpAny_call (codeAny_mono (Fn.run X.A X.stack s2 H2 us vs ws Q (WE W σ) (hr.mono hk) I2.env0 h1 h2 (cells_keep C hex I2) r q) fun r s' hq => ?_)
  cases r with
  | error e => exact L2N.passAt tk σ pins _ _ e s' I2 hq
  | ok fl =>
    cases fl with
    | ret u => exact I2.after hq
    | next => exact False.elim hq
    | brk => exact False.elim hq
    | cont => exact False.elim hq
end
/-! ### the class that gets it -/
abbrev ZGp := Addr → ZSp → ZSp
structure GrowAt (P : Program) (w : World) (K : PySem.W.Frag) (mg : Str → Option Value) (base : Heap) (k : Nat) (x : Str) (C : Addr) (zg : ZGp) : Prop where
  ex : ∃ (fi : Addr) (fd : FuncData) (name qual : Str) (params : Arguments) (body : List Stmt) (sc : Scope) (N ps : List Str) (a : Str) (i : Nat),
    FunD K name qual params body sc [] [] fi fd ∧ Mk K C fi ∧ mg x = some (.ref C) ∧ L2.Binds K fd ps [] ∧ FnScope N ps sc ∧ N[i]? = some a ∧ Vis sc a ∧ (a == ("__debug__" : Str)) = false ∧ (a == ("__classdict__" : Str)) = false ∧
    (∀ f zo ds M Q E, zg f zo ds M Q E → ds.length = ps.length) ∧
    ∀ (cdv : Value) (A : Around) (outer : List Env) (s : Shared) (f : Addr) (G : Hp → Prop) (tl : Sp) (w0 : W3) (zo : ZSp) (Q : VK) (Qz : ZQ) (E : XK) (Ez : ZX) (vs : List V) (ds : List D), Room k (A.deeper (envOfC qual sc s.heap.objs.size fi cdv)) →
      ActN (cxOf (L2N.CX P w) P w K mg base N qual sc fi cdv A outer s w0.H E) a i f G tl → (∀ w, Nx w0 w → Ok K w → G w.H) → LP K w0 tl zo → Ok K w0 → Reps K w0.F ds vs → CtE K w0 Qz Q → CtX K w0 Ez E → zg f zo ds w0.M Qz Ez →
      ∃ t, PSs (cxOf (L2N.CX P w) P w K mg base N qual sc fi cdv A outer s w0.H E) body t ∧ t { nx := fun _ H' => Q .non H', rt := Q } (L2.start N vs) w0.H
section
variable {P : Program} {w : World} {K : PySem.W.Frag} {mg : Str → Option Value} {base : Heap}
theorem zokG {x C : Str} {Ca : Addr} {st : Stmt} {qual : Str} {N ps : List Str} {k i : Nat} {zg : ZGp} {a : Str} {fi : Addr} {fd : FuncData} (F : FunD K "__init__" qual (defArgs st) (defBody st) (defScope st) [] [] fi fd) (M : Mk K Ca fi) (hm : mg x = some (.ref Ca)) (b : L2.Binds K fd ps [])
    (S : FnScope N ps (defScope st)) (hl : ∀ f zo ds M Q E, zg f zo ds M Q E → ds.length = ps.length) (hN : N[i]? = some a) (hv : Vis (defScope st) a)
    (hb : ∀ (cdv : Value) (A : Around) (outer : List Env) (s : Shared) (H : Hp) (E : XK) (w0 : W3) (Ez : ZX) (f : Addr) (G : Hp → Prop) (tl : Sp) (zo : ZSp), Room k (A.deeper (envOfC qual (defScope st) s.heap.objs.size fi cdv)) → CtW K w0 (WBz Ez) (WB E) →
      ActN (cxOf (L2N.CX P w) P w K mg base N qual (defScope st) fi cdv A outer s H E) a i f G tl → (∀ w, Nx w0 w → Ok K w → G w.H) → LP K w0 tl zo →
      ∃ (t : TS) (z : ZS), PSs (cxOf (L2N.CX P w) P w K mg base N qual (defScope st) fi cdv A outer s H E) (defBody st) t ∧ LS K w0 t z ∧
        ∀ ds Qz, zg f zo ds w0.M Qz Ez → z { nx := fun _ M' => Qz (.v .non) M', rt := Qz } (zstart N.length ds) w0.M)
    (hd : (a == ("__debug__" : Str)) = false := by decide) (hcd : (a == ("__classdict__" : Str)) = false := by decide) : GrowAt P w K mg base k x Ca zg := by
  refine ⟨⟨fi, fd, _, _, _, _, _, N, ps, a, i, F, M, hm, b, S, hN, hv, hd, hcd, hl, fun cdv A outer s f G tl w0 zo Q Qz E Ez vs ds hr act hG lp ok r cq cx h => ?_⟩⟩
  obtain ⟨t, z, hp, hz, hh⟩ := hb cdv A outer s w0.H E w0 Ez f G tl zo hr (ctW_of cx) act hG lp
  exact ⟨t, hp, hz w0 _ _ { nx := fun _ M' => Qz (.v .non) M', rt := Qz } _ (Nx.rf w0) ok (RepS.start r N.length) ⟨fun u δ σ lu su ru q => cq u _ _ lu su (.v _) q, cq, fun _ _ _ _ _ _ q => q, fun _ _ _ _ _ _ q => q⟩ (hh ds Qz h)⟩
end
def tMkF (K : PySem.W.Frag) (C : Addr) (zg : ZGp) (zn : ZFp) (F : NF) (f : Addr) (js : List Nat) (W : WX) (t : TA) : TE := fun σ H Q => t σ H fun vs H1 => ∃ (w : W3) (cs ds : List D) (Qz : ZQ) (Ez : ZX), w.H = H1 ∧ Ok K w ∧ w.F f = some (FnO f F) ∧ w.F F.c = some (CodeO F.c F.qual) ∧
  RepC K w.F cs (js.map (slotAt σ)) ∧ Reps K w.F ds vs ∧ CtE K w Qz Q ∧ CtX K w Ez (fun c d H2 => W c d σ H2) ∧
  ∀ x dx, w.M x = none → zg f (zn cs) (.v (.ref x) :: ds) (mput w.M x (.ins C dx [])) (fun d M2 => d = .v .non ∧ Qz (.v (.ref x)) M2) Ez
section
variable {X : Cx} {x : Str} {C : Addr} {k kf : Nat} {zg : ZGp} {zn : ZFp} {F : NF} {f : Addr} {js : List Nat} {W : WX} {t : TA} {psn fr : List Str} {e : Expr} {es : List Expr} {p pos : Pos}
theorem zc_mkF (d : GrowAt X.prog X.w X.K X.mg X.base k x C zg) (Fn : NOk X.prog X.w X.K X.mg X.base (L2N.CX X.prog X.w) kf f F psn fr (spN X.K zn)) (hkf : kf ≤ k) (hr : Room (k + 2) X.A) (hg : Gl X x) (tk : L2N.Takes X W) (cp : X.Ok → Caps X F.cl fr js)
    (ha : PA X (e :: es) t) (hdb : (x == ("__debug__" : Str)) = false := by decide) (he : starEach (e :: es) X.env = (false, eval e X.env) :: starEach es X.env := by rfl) (hpl : (backTo pos (starEach es X.env)).any (·.1) = false := by rfl) :
    PE X (.Call (.Name x p) (e :: es) [] pos) (tMkF X.K C zg zn F f js W t) := by
  obtain ⟨fi, fd, name, qual, params, body, sc, N, ps, a, i, FD, M, hm, b, S, hN, hv, hd, hcd, hlen, hbody⟩ := d.ex
  refine ⟨fun pins s σ H Q I hh => wpAny_Call_Name_kw (ld_glob I hg hm (PySem.W.callWith_K (h₀ := X.base) I.ok.mod.kin M.kp (thn (ha.run pos pins s σ H _ I hh) fun us s1 ⟨vs, H1, I1, r, q⟩ => ⟨I1.kIn, ?_⟩) he hpl) hdb)⟩
  obtain ⟨w0, cs, ds, Qz, Ez, rfl, ok, hf, hc, rc, rd, cq, cx, hq⟩ := q
  have h0 : w0.H (s1.heap.objs.size + 1) = none := I1.hok.fresh (Nat.le_succ _)
  have h1 : w0.H s1.heap.objs.size = none := I1.hok.fresh (Nat.le_refl _)
  have I2 := Inv.made (C := C) I1
  have C2 := cells_of I2 (cp I2.ok)
  obtain ⟨n2, s2⟩ := made_nx (C := C) ok h0 h1 (Nat.ne_of_lt (Nat.lt_succ_self _))
  have r2 : Vals (V.ref (s1.heap.objs.size + 1) :: vs) (Value.ref (s1.heap.objs.size + 1) :: us) := .cons rfl r
  have hq' := hq (s1.heap.objs.size + 1) s1.heap.objs.size (ok.nM h0)
  have hl : (V.ref (s1.heap.objs.size + 1) :: vs).length = ps.length := by
    have := hlen _ _ _ _ _ _ hq'
    rw [← this, List.length_cons, List.length_cons, rd.len]
  obtain ⟨oc, od, dV, kV, doc, pm, an, cdv, ct, osl, rfl, lk, hcdv, _, _⟩ := FD.ex
  have bb := b { s1 with heap := (s1.heap.push PySem.W.emptyDict).push (PySem.W.instObj C s1.heap.objs.size) } (Value.ref (s1.heap.objs.size + 1) :: us) I2.kIn (by rw [List.append_nil, ← r2.length]; exact hl)
  rw [List.append_nil] at bb
  have hr1 : Room (k + 1) (X.A.under (.builtin "type.__call__" ⟨.ref C :: us, []⟩)) := hr.make C us []
  have rc' : codeAny (model X.prog X.w) (X.A.under (.builtin "type.__call__" ⟨.ref C :: us, []⟩)) (.call (.ref fi) ⟨.ref (s1.heap.objs.size + 1) :: us, []⟩)
      (CR (L2N.CX X.prog X.w) X.stack X.prog X.w (upd (upd w0.H s1.heap.objs.size (.own (s1.heap.objs.size + 1))) (s1.heap.objs.size + 1) (.ins C s1.heap.objs.size []))
        { s1 with heap := (s1.heap.push PySem.W.emptyDict).push (PySem.W.instObj C s1.heap.objs.size) } (fun v H2 => v = .non ∧ Q (.ref (s1.heap.objs.size + 1)) H2) (fun c d H3 => W c d σ H3))
      { s1 with heap := (s1.heap.push PySem.W.emptyDict).push (PySem.W.instObj C s1.heap.objs.size) } := by
    refine run_ofS (N := N) (ps := ps) (us := Value.ref (s1.heap.objs.size + 1) :: us) (vs := V.ref (s1.heap.objs.size + 1) :: vs) lk hcdv S hr1 (I2.env0.make C us []) bb r2 hl fun hr' => ?_
    refine hbody cdv _ X.stack _ f (fun H => H f = some (FnO f F)) (fun vs H Q E => H f = some (FnO f F) ∧ H F.c = some (CodeO F.c F.qual) ∧ spN X.K zn (js.map (slotAt σ)) vs H Q E)
      ⟨w0.F, mput w0.M (s1.heap.objs.size + 1) (.ins C s1.heap.objs.size []), upd (upd w0.H s1.heap.objs.size (.own (s1.heap.objs.size + 1))) (s1.heap.objs.size + 1) (.ins C s1.heap.objs.size [])⟩ (zn cs) (fun v H2 => v = .non ∧ Q (.ref (s1.heap.objs.size + 1)) H2)
      (fun d M2 => d = .v .non ∧ Qz (.v (.ref (s1.heap.objs.size + 1))) M2) _ Ez _ (.v (.ref (s1.heap.objs.size + 1)) :: ds) hr' ?_ ?_ ?_ s2 (.cons (.v _) rd) ?_ (cx.le n2) hq'
    · exact act_of (X := cxOf (L2N.CX X.prog X.w) X.prog X.w X.K X.mg X.base N qual sc fi cdv _ X.stack _ _ _) Fn hr' hkf rfl C2 hN hv hd hcd
    · exact fun w lw sw => sw.sub _ _ (lw.le _ _ hf)
    · exact fun w ds' vs' Qz' Q' Ez' E' lw sw rr cq' cx' hz => ⟨sw.sub _ _ (lw.le _ _ hf), sw.sub _ _ (lw.le _ _ hc), w, cs, ds', Qz', Ez', rfl, sw, rc.le lw.le, rr, cq', cx', hz⟩
    · exact fun u d x lu su rx ⟨e1, q⟩ => by
        subst e1
        exact ⟨rx.v_inv, cq u _ _ (n2.tr lu) su (.v _) q⟩
  refine wpAny_call (make_map (f := fi) I1.kIn M.makes M.init (beq_iff_eq.mp M.fn) (codeAny_mono rc' fun r s' hq' => ?_))
  cases r with
  | error er => exact L2N.passAt tk σ pins _ _ er s' I2 hq'
  | ok fl =>
    cases fl with
    | ret u =>
      obtain ⟨v, H', I3, rv, ev, q3⟩ := I2.after hq'
      subst ev
      exact ⟨rv, ⟨V.ref (s1.heap.objs.size + 1), H', I3, rfl, q3⟩⟩
    | next => exact False.elim hq'
    | brk => exact False.elim hq'
    | cont => exact False.elim hq'
end
def zMkF (C : Addr) (zg : ZGp) (zn : ZFp) (f : Addr) (js : List Nat) (Wz : ZW) (za : ZA) : ZE := fun δ M Q => za δ M fun ds M1 => ∃ cs : List D, js.map (fun j => δ[j]?) = cs.map (fun c => some (some c)) ∧
  ∀ x dx, M1 x = none → zg f (zn cs) (.v (.ref x) :: ds) (mput M1 x (.ins C dx [])) (fun d M2 => d = .v .non ∧ Q (.v (.ref x)) M2) fun C' fs M2 => Wz C' fs δ M2
theorem repC_of {K : PySem.W.Frag} {F : Hp} {δ : ZSt} {σ : L2.St} (rs : RepS K F δ σ) : ∀ {js : List Nat} {cs : List D}, js.map (fun j => δ[j]?) = cs.map (fun c => some (some c)) → RepC K F cs (js.map (slotAt σ))
  | [], [], _ => .nil
  | j :: js, c :: cs, h => by
    rw [List.map_cons, List.map_cons] at h
    obtain ⟨x, e, r⟩ := rs.get j c (List.cons.inj h).1
    rw [List.map_cons, slotAt_of e]
    exact .cons r (repC_of rs (List.cons.inj h).2)
  | [], _ :: _, h => by cases h
  | _ :: _, [], h => by cases h
theorem le_mkF {K : PySem.W.Frag} {w0 : W3} {C : Addr} {zg : ZGp} {zn : ZFp} {F : NF} {f : Addr} {js : List Nat} {W : WX} {Wz : ZW} {t : TA} {za : ZA} (hW : CtW K w0 Wz W) (hf : w0.F f = some (FnO f F)) (hc : w0.F F.c = some (CodeO F.c F.qual)) (ha : LA K w0 t za) :
    LE K w0 (tMkF K C zg zn F f js W t) (zMkF C zg zn f js Wz za) := fun w σ δ Qz Q l s rs c h =>
  ha w σ δ _ _ l s rs (fun u ds xs lu su r ⟨cs, e, q⟩ => ⟨u, cs, ds, Qz, _, rfl, su, lu.le _ _ (l.le _ _ hf), lu.le _ _ (l.le _ _ hc), repC_of (rs.le lu.le) e, r, c.le lu, fun v C d fs lv sv rx qx => hW v C d fs δ σ (l.tr (lu.tr lv)) sv (rs.le (lu.tr lv).le) rx qx, q⟩) h
end Zl
namespace Zl
open PySem PySem.Spec PyProof.Rows L2 LamX NdefX

/-! ### words for what is new: one step each -/
theorem room1 {k : Nat} {A : Around} (r : Room k A) : A.units + 1 < cLine := by have := r.un; omega
def dGetZ (x d : D) (M : MS) (Q : ZQ) : Prop := ∃ kvs k v, dctOf M x = some kvs ∧ kD d = some k ∧ valD kvs k = some v ∧ Q v M
def dPutZ (x d v : D) (M : MS) (Qn : MS → Prop) : Prop := match x with | .v (.ref a) => ∃ kvs k, M a = some (.dct kvs) ∧ kD d = some k ∧ kvs.length < sizeLine ∧ Qn (mput M a (.dct (putKD kvs k v))) | _ => False
def setZ (d : D) (M : MS) (Q : ZQ) : Prop := match d with | .v (.ref a) => ∃ ds, M a = some (.lst ds) ∧ Q (.lst ds) (mdel M a) | _ => False
def lkZ (d : D) (M : MS) (Q : ZQ) : Prop := match d with | .v (.ref a) => ∃ kvs, M a = some (.dct kvs) ∧ Q (.dct kvs) (mdel M a) | _ => False
section
variable {δ : ZSt} {M : MS} {Q : ZQ} {QA : List D → MS → Prop} {D1 : ZEnds} {zd zk zv z : ZE} {za : ZA}
theorem u_dget : zDGet zd zk δ M Q = zd δ M fun x M1 => zk δ M1 fun d M2 => dGetZ x d M2 Q := rfl
theorem dctOf_ref {a : Addr} {kvs : List (Key × D)} : (dctOf M (.v (.ref a)) = some kvs) = (M a = some (.dct kvs)) := by
  unfold dctOf
  cases e : M a with
  | none => simp [e]
  | some m => cases m <;> simp [e]
theorem e_dgetM {a : Addr} {i : Int} : dGetZ (.v (.ref a)) (.v (.int i)) M Q = ∃ kvs, M a = some (.dct kvs) ∧ ∃ v, valD kvs (.inl i) = some v ∧ Q v M := by
  unfold dGetZ
  simp only [dctOf_ref, kD, Option.some.injEq, exists_eq_left', exists_and_left]
theorem e_dgetD {kvs : List (Key × D)} {i : Int} : dGetZ (.dct kvs) (.v (.int i)) M Q = ∃ v, valD kvs (.inl i) = some v ∧ Q v M := by
  unfold dGetZ
  simp only [dctOf, kD, Option.some.injEq, exists_eq_left', exists_and_left]
theorem e_dinM {a : Addr} {i : Int} {neg : Bool} : zDIn neg (.v (.int i)) (.v (.ref a)) M Q = ∃ kvs, M a = some (.dct kvs) ∧ Q (.v (.bl ((valD kvs (.inl i)).isSome != neg))) M := by
  unfold zDIn
  simp only [dctOf_ref, kD, Option.some.injEq, exists_eq_left', exists_and_left]
theorem e_dinD {kvs : List (Key × D)} {i : Int} {neg : Bool} : zDIn neg (.v (.int i)) (.dct kvs) M Q = Q (.v (.bl ((valD kvs (.inl i)).isSome != neg))) M := by
  unfold zDIn
  simp only [dctOf, kD, Option.some.injEq, exists_eq_left', exists_and_left]
theorem u_dput : zDPut zd zk zv D1 δ M = zv δ M fun v M1 => zd δ M1 fun x M2 => zk δ M2 fun d M3 => dPutZ x d v M3 (D1.nx δ) := rfl
theorem e_dput {a : Addr} {i : Int} {v : D} {Qn : MS → Prop} : dPutZ (.v (.ref a)) (.v (.int i)) v M Qn = ∃ kvs, M a = some (.dct kvs) ∧ kvs.length < sizeLine ∧ Qn (mput M a (.dct (putKD kvs (.inl i) v))) := by
  unfold dPutZ
  simp only [kD, Option.some.injEq, exists_eq_left', exists_and_left]
theorem u_keysI : zKeysI z δ M QA = z δ M fun d M1 => match d with | .dct kvs => QA (kvs.map fun kv => dK kv.1) M1 | _ => False := rfl
theorem u_set : zSet z δ M Q = z δ M fun d M1 => setZ d M1 Q := rfl
theorem e_set {a : Addr} : setZ (.v (.ref a)) M Q = ∃ ds, M a = some (.lst ds) ∧ Q (.lst ds) (mdel M a) := rfl
theorem u_lk : zLk z δ M Q = z δ M fun d M1 => lkZ d M1 Q := rfl
theorem e_lk {a : Addr} : lkZ (.v (.ref a)) M Q = ∃ kvs, M a = some (.dct kvs) ∧ Q (.dct kvs) (mdel M a) := rfl
theorem u_nd {P : Addr} {q : Str} {i : Nat} {zT : Addr → ZS} : zNd P q i zT D1 δ M = (M P = some (.tbl q) ∧ ∀ f, M f = none → zT f D1 (δ.set i (some (.v (.ref f)))) M) := rfl
theorem u_acN {i : Nat} {f : Addr} {zo : ZSp} {Wz : ZW} : zAcN i f zo Wz za δ M Q = (δ[i]? = some (some (.v (.ref f))) ∧ za δ M fun ds M1 => zo ds M1 Q fun C fs M2 => Wz C fs δ M2) := rfl
theorem u_mkF {C : Addr} {zg : ZGp} {zn : ZFp} {f : Addr} {js : List Nat} {Wz : ZW} : zMkF C zg zn f js Wz za δ M Q = za δ M fun ds M1 => ∃ cs : List D, js.map (fun j => δ[j]?) = cs.map (fun c => some (some c)) ∧
  ∀ x dx, M1 x = none → zg f (zn cs) (.v (.ref x) :: ds) (mput M1 x (.ins C dx [])) (fun d M2 => d = .v .non ∧ Q (.v (.ref x)) M2) fun C' fs M2 => Wz C' fs δ M2 := rfl
end
theorem mdel_ne {M : MS} {a b : Addr} (h : b ≠ a) : mdel M a b = M b := if_neg h
theorem mdel_same {M : MS} {a : Addr} : mdel M a a = none := if_pos rfl
/-- the name of a def made in the def x -/
abbrev qN (x n : Str) : Str := (x ++ ".<locals>.") ++ n
theorem Hd.del_ne {M : MS} {h p : Addr} (k : Hd M h) (n : p ≠ h) : Hd (mdel M p) h := by
  obtain ⟨c, l, dg, m, n', e, r⟩ := k
  exact ⟨c, l, dg, m, n', by rw [mdel_ne (Ne.symm n)]; exact e, r⟩
/-! ### dicts with int keys -/
theorem valD_cons {k k' : Key} {d : D} {kvs : List (Key × D)} : valD ((k', d) :: kvs) k = if k' = k then some d else valD kvs k := by
  unfold valD
  rw [List.find?_cons]
  by_cases q : k' = k
  · simp [q]
  · simp [q]
theorem valD_nil {k : Key} : valD [] k = none := rfl
theorem valD_map {α : Type} {f : α → Int} {g : α → D} {i : Int} : ∀ {l : List α}, valD (l.map fun a => (.inl (f a), g a)) (.inl i) = (l.find? fun a => decide (f a = i)).map g
  | [] => rfl
  | a :: l => by
    rw [List.map_cons, valD_cons, List.find?_cons]
    by_cases q : f a = i
    · simp [q]
    · have q2 : ¬ (Sum.inl (f a) : Key) = Sum.inl i := fun z => q (Sum.inl.inj z)
      rw [if_neg q2, valD_map]
      simp [q]
theorem putKD_new {k : Key} {d : D} {kvs : List (Key × D)} (h : valD kvs k = none) : putKD kvs k d = kvs ++ [(k, d)] := by
  unfold putKD
  rw [h]
  rfl
/-! ### pop(k) -/
def zPopI : D → ZRA := fun d es M Q => match d, es with
  | .v (.ref a), [.v (.int i)] => ∃ ds e, ∃ k : Nat, i = (k : Int) ∧ k < 2 ^ 62 ∧ M a = some (.lst ds) ∧ ds[k]? = some e ∧ Q e (mput M a (.lst (ds.eraseIdx k)))
  | _, _ => False
theorem reps_erase {K : PySem.W.Frag} {F : Hp} : ∀ {ds : List D} {xs : List V} (k : Nat), Reps K F ds xs → Reps K F (ds.eraseIdx k) (xs.eraseIdx k)
  | _, _, k, .nil => by rw [List.eraseIdx_nil, List.eraseIdx_nil]; exact .nil
  | _, _, 0, .cons _ r => r
  | _, _, k + 1, .cons h r => by rw [List.eraseIdx_cons_succ, List.eraseIdx_cons_succ]; exact .cons h (reps_erase k r)
theorem lrm_popI {K : PySem.W.Frag} : LRM K rPopAt zPopI := fun w x xs d ds Qz Q s rx r c h => by
  unfold zPopI at h
  split at h
  · rename_i a i
    obtain ⟨fs, e, k, rfl, hk, e1, e0, q⟩ := h
    obtain ⟨o, e2, e3⟩ := s.mu _ _ e1
    cases e3 with
    | @lst _ ys r' =>
      cases r with
      | cons r0 r =>
        cases r
        obtain ⟨y, ey, ry⟩ := r'.get e0
        have lt := (List.getElem?_eq_some_iff.mp ey).1
        refine ⟨a, ys, k, k, y, rx.v_inv, by rw [r0.v_inv], e2, by omega, by omega, ?_, ey, c ⟨w.F, mput w.M a (.lst (fs.eraseIdx k)), upd w.H a (.lst (ys.eraseIdx k))⟩ _ _ (nx_write e1) (Sim.write s e1 (.lst (reps_erase k r'))) ry q⟩
        unfold seqIndex?
        simp
        omega
  · exact h.elim
theorem e_popI {a : Addr} {i : Int} {M : MS} {Q : ZQ} : zPopI (.v (.ref a)) [.v (.int i)] M Q = ∃ ds e, ∃ k : Nat, i = (k : Int) ∧ k < 2 ^ 62 ∧ M a = some (.lst ds) ∧ ds[k]? = some e ∧ Q e (mput M a (.lst (ds.eraseIdx k))) := rfl
/-- all but what stands at x is as it was, apart from what is new -/
def Kx (x : Addr) (M M' : MS) : Prop := ∀ a m, a ≠ x → M a = some m → M' a = some m
theorem Kx.rf {x : Addr} {M : MS} : Kx x M M := fun _ _ _ e => e
theorem Kx.put {x p : Addr} {M M' : MS} {o : MO} (k : Kx x M M') (h : M p = none) : Kx x M (mput M' p o) := fun a m n e => by
  rw [mput_ne (fun q => by rw [q, h] at e; cases e)]
  exact k a m n e
theorem Kx.own {x : Addr} {M M' : MS} {o : MO} (k : Kx x M M') : Kx x M (mput M' x o) := fun a m n e => by
  rw [mput_ne n]
  exact k a m n e
theorem Kp.del {M M' : MS} {p : Addr} (k : Kp M M') (h : M p = none) : Kp M (mdel M' p) := fun a m e => by
  rw [mdel_ne (fun q => by rw [q, h] at e; cases e)]
  exact k a m e
end Zl
namespace Zl
open PySem PySem.Spec PyProof.Rows L2
open PySem.W (alike dataLt dataLe AllAlike Sortable EachIs keyToks)

/-! ### < of data; sorted of data -/
/-- plain, alike, not deep -/
def ltOk (d e : D) : Bool := plD d && plD e && alike (toPy d) (toPy e) && decide ((toPy d).depth ≤ 32) && (match toPy d with | .none => false | _ => true)
theorem ltOk_iff {d e : D} (h : ltOk d e = true) : plD d = true ∧ plD e = true ∧ alike (toPy d) (toPy e) = true ∧ (toPy d).depth ≤ 32 ∧ toPy d ≠ .none := by
  unfold ltOk at h
  simp only [Bool.and_eq_true, decide_eq_true_eq] at h
  obtain ⟨⟨⟨⟨h1, h2⟩, h3⟩, h4⟩, h5⟩ := h
  exact ⟨h1, h2, h3, h4, fun q => by rw [q] at h5; cases h5⟩
def ltD (d e : D) : Bool := dataLt (toPy d) (toPy e)
def rLtY (K : PySem.W.Frag) : R2 := fun x y H Q => ∃ d e, Dp K H x d ∧ Dp K H y e ∧ alike d e = true ∧ d ≠ .none ∧ d.depth ≤ 32 ∧ Q (.bl (dataLt d e)) H
theorem op_ltY {X : Cx} (hu : X.A.units + 64 < cLine) : OpR X (compareOp .Lt) (rLtY X.K) := fun pins s σ H x y v u Q I rx ry ⟨d, e, h1, h2, h3, h4, h5, q⟩ => by
  obtain ⟨as, r1⟩ := Dp.reads I d x v h1 rx
  obtain ⟨bs, r2⟩ := Dp.reads I e y u h2 ry
  exact PySem.W.lt_data r1 r2 h3 h4 (by have : min d.depth e.depth ≤ d.depth := Nat.min_le_left _ _; omega) ⟨.bl _, H, I, rfl, q⟩
def zLtY : ZR2 := fun d e M Q => ltOk d e = true ∧ Q (.v (.bl (ltD d e))) M
theorem lr_ltY {K : PySem.W.Frag} : LR2 K (rLtY K) zLtY := fun w x y d e Qz Q s rx ry c h => by
  obtain ⟨h1, h2, h3, h4, h5⟩ := ltOk_iff h.1
  exact ⟨toPy d, toPy e, dp_le s.sub (dp_of rx h1), dp_le s.sub (dp_of ry h2), h3, h5, h4, c.go s (.v _) h.2⟩
theorem room64 {k : Nat} {A : Around} (r : Room k A) : A.units + 64 < cLine := r.units
/-- all of one kind, to be sorted -/
def SrtOk (ds : List D) : Prop := (∀ d ∈ ds, plD d = true ∧ (toPy d).depth ≤ 32) ∧ AllAlike (ds.map toPy) ∧ Sortable (ds.map toPy) ∧ ds.length ≤ sizeLine
def sortD (ds : List D) : List D := ds.mergeSort (dataLe false toPy)
def rSrtY (K : PySem.W.Frag) : List V → Hp → VK → Prop := fun vs H Q => ∃ (a : Addr) (xs : List V) (F : Hp) (ds : List D), vs = [.ref a] ∧ SqL K H a xs ∧ Le F H ∧ Reps K F ds xs ∧ SrtOk ds ∧
  ∀ p ys, H p = none → Reps K F (sortD ds) ys → Q (.ref p) (upd H p (.lst ys))
theorem each_reps {K : PySem.W.Frag} {F : Hp} : ∀ {ds : List D} {xs : List V} {us : List Value}, Reps K F ds xs → Vals xs us → EachIs (fun u d => ∃ x, RelV x u ∧ Rep K F d x) us ds
  | [], _, _, .nil, .nil => .nil
  | _ :: _, _, _, .cons a r, .cons b t => .cons ⟨_, b, a⟩ (each_reps r t)
theorem reps_each {K : PySem.W.Frag} {F : Hp} : ∀ {ds : List D} {us : List Value}, EachIs (fun u d => ∃ x, RelV x u ∧ Rep K F d x) us ds → ∃ xs, Reps K F ds xs ∧ Vals xs us
  | _, _, .nil => ⟨[], .nil, .nil⟩
  | _, _, .cons ⟨x, b, a⟩ t => let ⟨xs, r1, r2⟩ := reps_each t; ⟨x :: xs, .cons a r1, .cons b r2⟩
theorem call_srtY {X : Cx} (hu : X.A.units + 64 < cLine) : CallR X (.builtin "sorted") (rSrtY X.K) := by
  intro pins s σ H vs us Q I r h
  obtain ⟨a, xs, F, ds, rfl, hs, le, rr, ⟨h1, h2, h3, h4⟩, q⟩ := h
  obtain ⟨its, rv, hl, hz⟩ := I.list hs
  obtain ⟨u, rfl, ru⟩ := vals1 r
  obtain rfl : u = Value.ref a := ru
  have eb := each_reps rr rv
  have er : EachIs (fun v d => ∃ as, Reads s.heap v (toPy d) as) its ds := by
    have key : ∀ {ds : List D} {us : List Value}, (∀ d ∈ ds, plD d = true ∧ (toPy d).depth ≤ 32) → EachIs (fun u d => ∃ x, RelV x u ∧ Rep X.K F d x) us ds → EachIs (fun v d => ∃ as, Reads s.heap v (toPy d) as) us ds := by
      intro ds us hp e
      induction e with
      | nil => exact .nil
      | cons h t ih =>
        obtain ⟨x, rx, rd⟩ := h
        exact .cons (Dp.reads I _ x _ (dp_le le (dp_of rd (hp _ List.mem_cons_self).1)) rx) (ih fun d hd => hp d (List.mem_cons_of_mem _ hd))
    exact key h1 eb
  have er2 : EachIs (fun v d => ∃ as, Reads (PySem.W.sortingHeap (PySem.W.copyHeap s.heap its) (s.heap.objs.size + 1) its) v (toPy d) as) its ds := er.mono fun v d ⟨as, rd⟩ => ⟨as, PyProof.Rows.Reads.keeps (fun b o e => PySem.W.sorting_copy_old e) rd⟩
  have hlen : its.length ≤ sizeLine := by rw [← rv.length, ← rr.len]; exact h4
  refine PySem.W.sorted_vals (κ := PySem.W.dataKind (PySem.W.sortingHeap (PySem.W.copyHeap s.heap its) (s.heap.objs.size + 1) its) (ds.map toPy)) hl.isList (PySem.W.SortsAt.data (s := { s with heap := PySem.W.sortingHeap (PySem.W.copyHeap s.heap its) (s.heap.objs.size + 1) its }) (PySem.W.each_map (R := fun v d => ∃ as, Reads _ v d as) toPy er2) h2 h3 fun d hd => ?_) hlen ?_
  · obtain ⟨e, he, rfl⟩ := List.mem_map.mp hd
    have := (h1 e he).2
    show X.A.units + 1 + 1 + (toPy e).depth < cLine
    omega
  · obtain ⟨ys, g1, g2⟩ := reps_each (PySem.W.sortVals_data (h' := PySem.W.sortingHeap (PySem.W.copyHeap s.heap its) (s.heap.objs.size + 1) its) (R := fun u d => ∃ x, RelV x u ∧ Rep X.K F d x) (enc := toPy) false eb er2 h2)
    obtain ⟨n, hn⟩ := sortedAll_at s.heap its (PySem.W.sortVals (PySem.W.dataKind (PySem.W.sortingHeap (PySem.W.copyHeap s.heap its) (s.heap.objs.size + 1) its) (ds.map toPy)) false its its).toArray
    refine ⟨.ref (s.heap.objs.size + 1), upd H (s.heap.objs.size + 1) (.lst ys), I.laid (t' := s.toks) (fun b o e => sortedAll_old e) (Nat.le_succ _) ⟨?_, _, n, g2, hn⟩, rfl, q _ ys (I.hok.fresh (Nat.le_succ _)) g1⟩
    rw [← g1.len]
    rw [(List.mergeSort_perm _ _).length_eq]
    exact h4
def lstD (M : MS) : D → Option (List D)
  | .lst ds => some ds
  | .rd ds => some ds
  | .v (.ref a) => match M a with | some (.lst ds) => some ds | _ => none
  | _ => none
theorem lstD_rep {K : PySem.W.Frag} {w : W3} {d : D} {x : V} {ds : List D} (s : Ok K w) (r : Rep K w.F d x) (h : lstD w.M d = some ds) : ∃ a xs, x = .ref a ∧ SqL K w.H a xs ∧ Reps K w.F ds xs := by
  unfold lstD at h
  split at h
  · cases h
    obtain ⟨a, xs, rfl, q, r⟩ := r.lst_inv
    exact ⟨a, xs, rfl, SqL.of (s.sub _ _ q), r⟩
  · cases h
    obtain ⟨a, xs, rfl, q, r⟩ := r.rd_inv
    exact ⟨a, xs, rfl, sqL_le s.sub q, r⟩
  · split at h
    · rename_i _ a _ es e
      cases h
      obtain ⟨o, e1, e2⟩ := s.mu _ _ e
      cases e2 with
      | lst r' => exact ⟨a, _, r.v_inv, SqL.of e1, r'⟩
    · cases h
  · cases h
def zSrtY : ZRA := fun ds M Q => match ds with | [d] => ∃ es, lstD M d = some es ∧ SrtOk es ∧ Q (.lst (sortD es)) M | _ => False
theorem lra_srtY {K : PySem.W.Frag} : LRA K (rSrtY K) zSrtY := fun w xs ds Qz Q s r c h => by
  unfold zSrtY at h
  split at h
  · rename_i d
    obtain ⟨es, e1, h2, q⟩ := h
    cases r with
    | cons a r =>
      cases r
      obtain ⟨l, ys, rfl, hs, rr⟩ := lstD_rep s a e1
      exact ⟨l, ys, w.F, es, rfl, hs, s.sub, rr, h2, fun p zs hp rz => c.new s hp (.lst upd_same (rz.le (Le.put (s.nF hp)))) q⟩
  · exact h.elim
end Zl
namespace Zl
open PySem PySem.Spec PyProof.Rows L2

/-! ### list(d), d's keys tuples -/
theorem vals_refs : ∀ (ns : List NE), Vals (ns.map fun x => V.ref x.2.1) (ns.map fun x => Value.ref x.2.1)
  | [] => .nil
  | p :: ns => .cons rfl (vals_refs ns)
theorem keyN_of {w : World} : ∀ {xs : List NE} {ys : List (NestedKey × Addr × Value)}, PairN xs ys → ys.map ((·.key) ∘ entN w) = xs.map fun x => Value.ref x.2.1
  | _, _, .nil => rfl
  | _, _, .cons h t => by
    rw [List.map_cons, List.map_cons, keyN_of t]
    obtain ⟨_, e2, _⟩ := h
    show Value.ref _ :: _ = _
    rw [← e2]
section
variable {X : Cx}
def rListN (w : World) : List V → Hp → VK → Prop := fun xs H Q => ∃ (a : Addr) (ns : List NE), xs = [.ref a] ∧ H a = some (DN w a ns) ∧ ∀ p, H p = none → Q (.ref p) (upd H p (.lst (ns.map fun x => .ref x.2.1)))
theorem call_listN (hcalm : X.calm = true) : CallR X (.type "list") (rListN X.w) := by
  intro pins s σ H xs us Q I r q
  obtain ⟨a, ns, ex, hd, q⟩ := q
  subst ex
  obtain ⟨u, eu, rx⟩ := vals1 r
  subst eu
  cases rx
  obtain ⟨⟨h1, h2, ys, rel, o, es, ep, h3, h4, h5, h6, h7⟩, _, _⟩ := I.hok a _ hd
  have ke : es.toList.map (·.key) = ns.map fun x => Value.ref x.2.1 := by
    rw [h6, List.map_map]
    exact keyN_of rel
  have hsz : es.size = ns.length := by
    have := congrArg List.length ke
    simpa using this
  refine PySem.W.kdl_call (KdlSrc.rawDict (d := a) (es := es) (ep := ep) h1) (I.ok.hd hcalm) ⟨o, h3, h4, h5⟩ (by rw [hsz]; exact h2) fun h' tk acc c' hk hD hacc => ?_
  have hv : Vals (ns.map fun x => V.ref x.2.1) acc.toList := by
    have e : acc.toList = ns.map fun x => Value.ref x.2.1 := by
      apply List.ext_getElem?
      intro j
      rw [← ke, List.getElem?_map]
      by_cases hj : j < es.size
      · have hj2 : j < acc.size := by rw [hacc.1]; exact hj
        obtain ⟨hi, ev⟩ := hacc.2 j acc[j] (by simp [hj2])
        rw [Array.getElem?_toList, Array.getElem?_toList, Array.getElem?_eq_getElem hj2, Array.getElem?_eq_getElem hj, ev]
        rfl
      · have hj2 : acc.size ≤ j := by rw [hacc.1]; omega
        rw [Array.getElem?_toList, Array.getElem?_toList, Array.getElem?_eq_none hj2, Array.getElem?_eq_none (by omega)]
        rfl
    rw [e]
    exact vals_refs ns
  refine ⟨.ref s.heap.objs.size, upd H s.heap.objs.size (.lst (ns.map fun x => .ref x.2.1)), I.laid (t' := tk) hk (Nat.le_refl _)
    (show ObjOk X.prog X.w _ _ _ (.lst (ns.map fun x => .ref x.2.1)) from ⟨by rw [List.length_map]; exact h2, acc.toList, c', hv, by rw [Array.toArray_toList]; exact hD⟩), rfl, q _ (I.hok.fresh (Nat.le_refl _))⟩
end
def zListN (w : World) : ZRA := fun ds M Q => match ds with | [.v (.ref a)] => ∃ kvs, M a = some (.dN w a kvs) ∧ Q (.lst (kvs.map (·.1))) M | _ => False
theorem repN_keys {K : PySem.W.Frag} {F : Hp} {kvs : List (D × D)} {ns : List NE} (r : RepN K F kvs ns) : Reps K F (kvs.map (·.1)) (ns.map fun x => V.ref x.2.1) := by
  induction r with
  | nil => exact .nil
  | cons hk dp rk rv _ ih => exact .cons rk ih
theorem lra_listN {K : PySem.W.Frag} {w : World} : LRA K (rListN w) (zListN w) := fun u xs ds Qz Q s r c h => by
  unfold zListN at h
  split at h
  · rename_i a
    obtain ⟨kvs, e1, q⟩ := h
    cases r with
    | cons r0 r =>
      cases r
      obtain ⟨ns, e2, rn, _⟩ := dn_rep s e1
      exact ⟨a, ns, by rw [r0.v_inv], e2, fun p hp => c.new s hp (.lst upd_same ((repN_keys rn).le (Le.put (s.nF hp)))) q⟩
  · exact h.elim
/-! ### a list times an int, to be changed -/
def zMulM : ZR2 := fun d e M Q => match d, e with
  | .lst ds, .v (.int k) => 0 ≤ k ∧ k < 2 ^ 63 ∧ ds.length * k.toNat ≤ sizeLine ∧ ∀ p, M p = none → Q (.v (.ref p)) (mput M p (.lst (List.replicate k.toNat ds).flatten))
  | _, _ => False
theorem lr_mulM {K : PySem.W.Frag} : LR2 K (rMulA K) zMulM := fun w x y d e Qz Q s rx ry c h => by
  unfold zMulM at h
  split at h
  · obtain ⟨h1, h2, h3, q⟩ := h
    obtain ⟨a, xs, rfl, q1, r1⟩ := rx.lst_inv
    exact .inr (.inl ⟨a, _, xs, rfl, ry.v_inv, s.sub _ _ q1, by omega, h2, by rw [← r1.len]; exact h3, fun p hp => c.alloc s hp (.lst (r1.flatRep _)) (q p (s.nM hp))⟩)
  · exact h.elim
/-! ### a list and a list, to be changed -/
def zAddM : ZR2 := fun d e M Q => match d, e with
  | .lst xs, .lst ys => xs.length + ys.length ≤ sizeLine ∧ ∀ p, M p = none → Q (.v (.ref p)) (mput M p (.lst (xs ++ ys)))
  | _, _ => False
theorem lr_addM {K : PySem.W.Frag} : LR2 K (rAddA K) zAddM := fun w x y d e Qz Q s rx ry c h => by
  unfold zAddM at h
  split at h
  · obtain ⟨a, xs, rfl, q1, r1⟩ := rx.lst_inv
    obtain ⟨b, ys, rfl, q2, r2⟩ := ry.lst_inv
    exact .inr (.inr (.inr ⟨a, b, xs, ys, rfl, rfl, s.sub _ _ q1, s.sub _ _ q2, by rw [← r1.len, ← r2.len]; exact h.1, fun p hp => c.alloc s hp (.lst (r1.app r2)) (h.2 p (s.nM hp))⟩))
  · exact h.elim
/-! ### d.get(k, x) -/
def zDGet2 (zd zk zx : ZE) : ZE := fun δ M Q => zd δ M fun x M1 => (∃ kvs, dctOf M1 x = some kvs) ∧ zk δ M1 fun d M2 => zx δ M2 fun e M3 => ∃ kvs k, dctOf M3 x = some kvs ∧ kD d = some k ∧ Q ((valD kvs k).getD e) M3
theorem le_dget2 {K : PySem.W.Frag} {w0 : W3} {t u v : TE} {z zk zx : ZE} (h1 : LE K w0 t z) (h2 : LE K w0 u zk) (h3 : LE K w0 v zx) : LE K w0 (tDGet2 t u v) (zDGet2 z zk zx) := fun w σ δ Qz Q l s rs c h =>
  h1 w σ δ _ _ l s rs (fun u1 d x l1 s1 r1 ⟨⟨kvs0, e0⟩, h4⟩ => by
    obtain ⟨a, xs, ex, hr, _⟩ := dct_rd s1 r1 e0
    subst ex
    refine ⟨a, rfl, .inl ⟨xs, hr⟩, h2 u1 σ δ _ _ (l.tr l1) s1 (rs.le l1.le) (fun u2 e y l2 s2 r2 h5 => h3 u2 σ δ _ _ (l.tr (l1.tr l2)) s2 (rs.le (l1.tr l2).le) (fun u3 f z l3 s3 r3 ⟨kvs, k, e1, ek, q⟩ => ?_) h5) h4⟩
    obtain ⟨a', ys, ey, hr', rr⟩ := dct_rd s3 ((r1.le l2.le).le l3.le) e1
    cases ey
    refine ⟨valV ys k, .inl ⟨ys, k, hr', kD_rep r2 ek, rfl⟩, ?_⟩
    cases ev : valD kvs k with
    | none =>
      rw [rr.val.1 ev]
      rw [ev] at q
      exact (c.le (l1.tr (l2.tr l3))).go s3 r3 q
    | some d' =>
      obtain ⟨y', g2, ry⟩ := rr.val.2 _ ev
      rw [g2]
      rw [ev] at q
      exact (c.le (l1.tr (l2.tr l3))).go s3 ry q) h
/-! ### a name's list is data from now on -/
def zReb (i : Nat) (z : ZS) : ZS := fun D δ M => z { D with nx := fun δ' M' => ∃ a ds, δ'[i]? = some (some (.v (.ref a))) ∧ M' a = some (.lst ds) ∧ D.nx (δ'.set i (some (.lst ds))) (mdel M' a) } δ M
theorem ls_reb {K : PySem.W.Frag} {w0 : W3} {i : Nat} {t : TS} {z : ZS} (h1 : LS K w0 t z) : LS K w0 t (zReb i z) := fun w σ δ Dz D l s rs c h =>
  h1 w σ δ { Dz with nx := fun δ' M' => ∃ a ds, δ'[i]? = some (some (.v (.ref a))) ∧ M' a = some (.lst ds) ∧ Dz.nx (δ'.set i (some (.lst ds))) (mdel M' a) } D l s rs ⟨fun u δ' σ' lu su ru ⟨a, ds, e1, e2, q⟩ => by
    obtain ⟨o, e3, e4⟩ := su.mu _ _ e2
    cases e4 with
    | @lst _ xs rr =>
      obtain ⟨n1, s1⟩ := settled (o' := .lst xs) su e2 e3
      have eH : upd u.H a (.lst xs) = u.H := by
        funext b
        unfold upd
        split
        · rename_i q; rw [q, e3]
        · rfl
      obtain ⟨x, ex, rx⟩ := ru.get i _ e1
      have ev := rx.v_inv
      subst ev
      have := c.nx ⟨upd u.F a (.lst xs), mdel u.M a, upd u.H a (.lst xs)⟩ (δ'.set i (some (.lst ds))) σ' (lu.tr n1) s1 ?_ q
      · show D.nx σ' u.H
        rw [← eH]
        exact this
      · have k := (ru.le n1.le).set (d := .lst ds) (.lst upd_same (rr.le n1.le)) i
        have es : σ'.set i (some (V.ref a)) = σ' := by
          apply List.ext_getElem?
          intro j
          by_cases q : j = i
          · subst q
            rw [List.getElem?_set_self (List.getElem?_eq_some_iff.mp ex).1, ex]
          · rw [List.getElem?_set_ne (Ne.symm q)]
        rw [es] at k
        exact k, c.rt, c.bk, c.ct⟩ h
/-! ### a dict of lists is data from now on -/
def mdels (M : MS) (l : List Addr) : MS := fun b => if b ∈ l then none else M b
def zFz (z : ZE) : ZE := fun δ M Q => z δ M fun d M1 => match d with
  | .v (.ref p) => ∃ es : List (Key × Addr × List D), M1 p = some (.dct (es.map fun e => (e.1, .v (.ref e.2.1)))) ∧ (∀ e ∈ es, M1 e.2.1 = some (.lst e.2.2)) ∧ Q (.dct (es.map fun e => (e.1, .lst e.2.2))) (mdels M1 (p :: es.map (·.2.1)))
  | _ => False
theorem le_fz {K : PySem.W.Frag} {w0 : W3} {t : TE} {z : ZE} (h1 : LE K w0 t z) : LE K w0 (tLk t) (zFz z) := fun w σ δ Qz Q l s rs c h =>
  h1 w σ δ _ _ l s rs (fun u d x lu su r h2 => by
    split at h2
    · rename_i p
      obtain ⟨es, e1, e2, q⟩ := h2
      obtain ⟨o, e3, e4⟩ := su.mu _ _ e1
      cases e4 with
      | @dct _ xs rr =>
        have ex := r.v_inv
        subst ex
        refine ⟨p, xs, rfl, e3, fun od => ?_⟩
        have inM : ∀ b, b ∈ p :: es.map (·.2.1) → ∃ m, u.M b = some m := fun b hb => by
          rcases List.mem_cons.mp hb with rfl | hb
          · exact ⟨_, e1⟩
          · obtain ⟨e, he, rfl⟩ := List.mem_map.mp hb
            exact ⟨_, e2 e he⟩
        have nF : ∀ b, b ∈ p :: es.map (·.2.1) → u.F b = none := fun b hb => by
          obtain ⟨m, hm⟩ := inM b hb
          cases e : u.F b with
          | none => rfl
          | some o => rw [su.dis _ _ e] at hm; cases hm
        let F' : Hp := fun b => if b = p then some (.frz od (.dK xs)) else if b ∈ es.map (·.2.1) then u.H b else u.F b
        have leF : Le u.F F' := fun b o e => by
          have nb : b ∉ p :: es.map (·.2.1) := fun hb => by rw [nF b hb] at e; cases e
          have n1 : b ≠ p := fun q => nb (by rw [q]; exact List.mem_cons_self)
          have n2 : b ∉ es.map (·.2.1) := fun q => nb (List.mem_cons_of_mem _ q)
          show (if b = p then _ else if b ∈ _ then _ else _) = _
          rw [if_neg n1, if_neg n2]
          exact e
        have nx : Nx u ⟨F', mdels u.M (p :: es.map (·.2.1)), upd u.H p (.frz od (.dK xs))⟩ := by
          refine ⟨leF, fun b v eb _ n => ?_⟩
          have nb : b ∉ p :: es.map (·.2.1) := fun hb => by obtain ⟨m, hm⟩ := inM b hb; rw [hm] at n; cases n
          have n1 : b ≠ p := fun q => nb (by rw [q]; exact List.mem_cons_self)
          have n2 : b ∉ es.map (·.2.1) := fun q => nb (List.mem_cons_of_mem _ q)
          refine ⟨by show upd u.H p _ b = _; rw [upd_ne n1]; exact eb, by show (if b ∈ _ then none else u.M b) = none; rw [if_neg nb]; exact n, fun f => ?_⟩
          show (if b = p then _ else if b ∈ _ then _ else _) = none
          rw [if_neg n1, if_neg n2]
          exact f
        have ok : Ok K ⟨F', mdels u.M (p :: es.map (·.2.1)), upd u.H p (.frz od (.dK xs))⟩ := by
          refine ⟨fun b v eb => ?_, fun b v eb => ?_, fun b m eb => ?_⟩
          · have eb' : (if b = p then some (HO.frz od (.dK xs)) else if b ∈ es.map (·.2.1) then u.H b else u.F b) = some v := eb
            show upd u.H p _ b = some v
            by_cases n1 : b = p
            · rw [if_pos n1] at eb'
              rw [n1, upd_same]
              exact eb'
            · rw [if_neg n1] at eb'
              rw [upd_ne n1]
              split at eb'
              · exact eb'
              · exact su.sub _ _ eb'
          · have eb' : (if b = p then some (HO.frz od (.dK xs)) else if b ∈ es.map (·.2.1) then u.H b else u.F b) = some v := eb
            show (if b ∈ p :: es.map (·.2.1) then none else u.M b) = none
            split
            · rfl
            · rename_i nb
              rw [if_neg (fun q => nb (by rw [q]; exact List.mem_cons_self)), if_neg (fun q => nb (List.mem_cons_of_mem _ q))] at eb'
              exact su.dis _ _ eb'
          · have eb' : (if b ∈ p :: es.map (·.2.1) then none else u.M b) = some m := eb
            split at eb'
            · cases eb'
            · rename_i nb
              obtain ⟨o, g1, g2⟩ := su.mu _ _ eb'
              exact ⟨o, by show upd u.H p _ b = _; rw [upd_ne (fun q => nb (by rw [q]; exact List.mem_cons_self))]; exact g1, g2.le leF⟩
        refine c ⟨F', mdels u.M (p :: es.map (·.2.1)), upd u.H p (.frz od (.dK xs))⟩ _ _ (lu.tr nx) ok (.dct (o := od) (xs := xs) (by show (if p = p then _ else _) = _; rw [if_pos rfl]) ?_) q
        have key : ∀ (fs : List (Key × Addr × List D)) (ys : List (Key × V)), (∀ e ∈ fs, e ∈ es) → RepK K u.F (fs.map fun e => (e.1, D.v (.ref e.2.1))) ys → RepK K F' (fs.map fun e => (e.1, D.lst e.2.2)) ys := by
          intro fs
          induction fs with
          | nil => intro ys _ h; cases h; exact .nil
          | cons e fs ih =>
            intro ys hm h
            rw [List.map_cons] at h ⊢
            cases h with
            | cons h r =>
              have ev := h.v_inv
              subst ev
              have he := hm e List.mem_cons_self
              refine .cons ?_ (ih _ (fun x hx => hm x (List.mem_cons_of_mem _ hx)) r)
              obtain ⟨o, g1, g2⟩ := su.mu _ _ (e2 e he)
              cases g2 with
              | @lst _ zs rz =>
                refine .lst (xs := zs) ?_ (rz.le leF)
                have n1 : e.2.1 ≠ p := fun q => by
                  have := e2 e he
                  rw [q, e1] at this
                  cases this
                show (if e.2.1 = p then _ else if e.2.1 ∈ _ then _ else _) = _
                rw [if_neg n1, if_pos (List.mem_map.mpr ⟨e, he, rfl⟩)]
                exact g1
        exact key es xs (fun _ h => h) rr
    · exact h2.elim) h
/-! ### dict comprehensions -/
def zDcL (p : Addr) (g : ZG) (zt : ZT) (zk zv : ZE) (δ : ZSt) (Q : ZQ) : List D → MS → Prop
  | [], M => Q (.v (.ref p)) M
  | d :: ds, M => g d δ M fun δ1 M1 => zt δ1 M1 fun b M2 => if b = true then zk δ1 M2 fun kd M3 => zv δ1 M3 fun e M4 => ∃ kvs k, M4 p = some (.dct kvs) ∧ kD kd = some k ∧ kvs.length < sizeLine ∧ zDcL p g zt zk zv δ Q ds (mput M4 p (.dct (putKD kvs k e))) else zDcL p g zt zk zv δ Q ds M2
def zDc (zi : ZI) (g : ZG) (zt : ZT) (zk zv : ZE) (vs : List Nat) : ZE := fun δ M Q => zi δ M fun ds M1 => ∀ p, M1 p = none → zDcL p g zt zk zv (zwipe δ vs) Q ds (mput M1 p (.dct []))
theorem le_dc {K : PySem.W.Frag} {w0 : W3} {wi : TI} {zi : ZI} {g : TG} {gz : ZG} {tt : TT} {zt : ZT} {tk tv : TE} {zk zv : ZE} {vs : List Nat} (hi : LI K w0 wi zi) (hg : LG K w0 g gz) (hw : WipeOk g vs) (ht : LT K w0 tt zt) (hk : LE K w0 tk zk) (hv : LE K w0 tv zv) :
    LE K w0 (tDc wi g tt tk tv vs) (zDc zi gz zt zk zv vs) := fun w σ δ Qz Q l s rs c h =>
  hi w σ δ _ _ l s rs (fun w1 J ds l1 s1 hJ h1 => by
    have shift : ∀ {i : Nat} {d : Zl.D}, ds[i]? = some d → ds.drop i = d :: ds.drop (i + 1) := fun {i d} e => by
      obtain ⟨hi, e⟩ := List.getElem?_eq_some_iff.mp e
      rw [List.drop_eq_getElem_cons hi, e]
    intro p hp
    have l2 : Nx w1 ⟨w1.F, mput w1.M p (.dct []), upd w1.H p (.dK [])⟩ := nx_alloc s1 hp
    have s2 : Ok K ⟨w1.F, mput w1.M p (.dct []), upd w1.H p (.dK [])⟩ := Sim.alloc s1 hp (.dct .nil)
    refine ⟨fun i m H' => m + i = ds.length ∧ ∃ u, u.H = H' ∧ Nx w1 u ∧ Ok K u ∧ zDcL p gz zt zk zv (zwipe δ vs) Qz (ds.drop i) u.M, ⟨ds.length, rfl, ⟨w1.F, mput w1.M p (.dct []), upd w1.H p (.dK [])⟩, rfl, l2, s2, h1 p (s1.nM hp)⟩, ?_⟩
    rintro i m H' ⟨hm, u, rfl, lu, su, hu⟩
    obtain ⟨hgo, hstop⟩ := hJ u lu su
    by_cases hi : i < ds.length
    · obtain ⟨go, hy⟩ := hgo i hi
      refine .inr ⟨go, fun H2 => ∃ m', m' < m ∧ m' + (i + 1) = ds.length ∧ ∃ u, u.H = H2 ∧ Nx w1 u ∧ Ok K u ∧ zDcL p gz zt zk zv (zwipe δ vs) Qz (ds.drop (i + 1)) u.M, fun H2 z => z, fun x H2 yy => ?_⟩
      obtain ⟨v, d, rfl, eM, lv, sv, ed, rd⟩ := hy x H2 yy
      rw [shift ed] at hu
      have ww : L2.wipe (L2.wipe σ vs) vs = L2.wipe σ vs := wipe_eq (L2.wipe_length σ vs) fun j hj => by rw [wipe_get, if_neg hj]
      have hw2 : ∀ N : L2.St → Hp → Prop, g x (L2.wipe σ vs) v.H N → g x (L2.wipe σ vs) v.H fun σ2 H2 => L2.wipe σ2 vs = L2.wipe σ vs ∧ N σ2 H2 := fun N q => by
        have := hw x _ _ N q
        rw [ww] at this
        exact this
      refine hw2 _ (hg v (L2.wipe σ vs) (zwipe δ vs) x d _ _ ((l.tr l1).tr (lu.tr lv)) sv ((rs.wipe vs).le ((l1.tr lu).tr lv).le) rd (fun w3 δ3 σ3 l3 s3 r3 h3 => ?_) (by rw [eM]; exact hu))
      refine ht w3 σ3 δ3 _ _ (((l.tr l1).tr (lu.tr lv)).tr l3) s3 r3 (fun w4 b l4 s4 h4 => ?_) h3
      have l34 := lv.tr (l3.tr l4)
      cases b with
      | false => exact ⟨m - 1, by omega, by omega, w4, rfl, lu.tr l34, s4, h4⟩
      | true =>
        refine hk w4 σ3 δ3 _ _ ((l.tr l1).tr (lu.tr l34)) s4 (r3.le l4.le) (fun w5 e y l5 s5 r5 h5 => ?_) h4
        refine hv w5 σ3 δ3 _ _ (((l.tr l1).tr (lu.tr l34)).tr l5) s5 ((r3.le l4.le).le l5.le) (fun w6 f z l6 s6 r6 h6 => ?_) h5
        obtain ⟨kvs, k, k1, k2, k3, k4⟩ := h6
        obtain ⟨o, g1, g2⟩ := s6.mu _ _ k1
        cases g2 with
        | @dct _ xs rr =>
          exact ⟨xs, k, kD_rep (r5.le l6.le) k2, g1, by rw [← rr.len]; exact k3, m - 1, by omega, by omega, ⟨w6.F, mput w6.M p (.dct (putKD kvs k f)), upd w6.H p (.dK (putK xs k z))⟩, rfl, (lu.tr (l34.tr (l5.tr l6))).tr (nx_write k1), Sim.write s6 k1 (.dct (rr.put r6)), k4⟩
    · have e : i = ds.length := by omega
      subst e
      rw [List.drop_length] at hu
      exact .inl ⟨hstop, c u _ _ (l1.tr lu) su (.v _) hu⟩) h
/-! ### words -/
section
variable {δ : ZSt} {M : MS} {Q : ZQ} {D1 : ZEnds} {z zd zk zx : ZE}
theorem e_ltY {d e : D} : zLtY d e M Q = (ltOk d e = true ∧ Q (.v (.bl (ltD d e))) M) := rfl
theorem e_listN {w : World} {a : Addr} : zListN w [.v (.ref a)] M Q = ∃ kvs, M a = some (.dN w a kvs) ∧ Q (.lst (kvs.map (·.1))) M := rfl
theorem e_mulM {ds : List D} {k : Int} : zMulM (.lst ds) (.v (.int k)) M Q = (0 ≤ k ∧ k < 2 ^ 63 ∧ ds.length * k.toNat ≤ sizeLine ∧ ∀ p, M p = none → Q (.v (.ref p)) (mput M p (.lst (List.replicate k.toNat ds).flatten))) := rfl
theorem u_reb {i : Nat} {zs : ZS} : zReb i zs D1 δ M = zs { D1 with nx := fun δ' M' => ∃ a ds, δ'[i]? = some (some (.v (.ref a))) ∧ M' a = some (.lst ds) ∧ D1.nx (δ'.set i (some (.lst ds))) (mdel M' a) } δ M := rfl
theorem e_addM {xs ys : List D} : zAddM (.lst xs) (.lst ys) M Q = (xs.length + ys.length ≤ sizeLine ∧ ∀ p, M p = none → Q (.v (.ref p)) (mput M p (.lst (xs ++ ys)))) := rfl
def fzZ (d : D) (M1 : MS) (Q : ZQ) : Prop := match d with
  | .v (.ref p) => ∃ es : List (Key × Addr × List D), M1 p = some (.dct (es.map fun e => (e.1, .v (.ref e.2.1)))) ∧ (∀ e ∈ es, M1 e.2.1 = some (.lst e.2.2)) ∧ Q (.dct (es.map fun e => (e.1, .lst e.2.2))) (mdels M1 (p :: es.map (·.2.1)))
  | _ => False
theorem u_fz : zFz z δ M Q = z δ M fun d M1 => fzZ d M1 Q := rfl
theorem e_fz {p : Addr} : fzZ (.v (.ref p)) M Q = ∃ es : List (Key × Addr × List D), M p = some (.dct (es.map fun e => (e.1, .v (.ref e.2.1)))) ∧ (∀ e ∈ es, M e.2.1 = some (.lst e.2.2)) ∧ Q (.dct (es.map fun e => (e.1, .lst e.2.2))) (mdels M (p :: es.map (·.2.1))) := rfl
def dGet2Z (x d e : D) (M : MS) (Q : ZQ) : Prop := ∃ kvs k, dctOf M x = some kvs ∧ kD d = some k ∧ Q ((valD kvs k).getD e) M
theorem u_dget2 : zDGet2 zd zk zx δ M Q = zd δ M fun x M1 => (∃ kvs, dctOf M1 x = some kvs) ∧ zk δ M1 fun d M2 => zx δ M2 fun e M3 => dGet2Z x d e M3 Q := rfl
theorem e_dget2 {a : Addr} {i : Int} {e : D} : dGet2Z (.v (.ref a)) (.v (.int i)) e M Q = ∃ kvs, M a = some (.dct kvs) ∧ Q ((valD kvs (.inl i)).getD e) M := by
  unfold dGet2Z
  simp only [dctOf_ref, kD, Option.some.injEq, exists_eq_left', exists_and_left]
theorem u_dc {zi : ZI} {g : ZG} {zt : ZT} {zv : ZE} {vs : List Nat} : zDc zi g zt zk zv vs δ M Q = zi δ M fun ds M1 => ∀ p, M1 p = none → zDcL p g zt zk zv (zwipe δ vs) Q ds (mput M1 p (.dct [])) := rfl
end
/-! ### a dict comprehension given to a name -/
section
variable {X : Cx}
theorem sw_trueD {kx vx : Expr} {gs : List Comprehension} {scope : Scope} {pos py : Pos} {y : Str} {l : Nat} {env : Env} (hk : env.scope.kind = .function) (hy : env.scope.names.lookup y = some .local) (hl : (py.line == pos.line) = true)
    (ha : (scope.names.any fun (n, k) => n == y && (k == .local || k == .cell)) = false) : swapsWith (.DictComp kx vx gs scope pos) (some (.Name y py)) l env = pure true := by
  have ky : env.kindOf y = some .local := hy
  have hb : env.blockKind = .function := by unfold Env.blockKind; rw [hk]; rfl
  unfold swapsWith
  simp only [hb, ky, ha, Expr.pos, hl]
  rfl
theorem ps_setDc {i : Nat} {y : Str} {py : Pos} {kx vx tg iter : Expr} {ifs : List Expr} {scope : Scope} {own : List (Str × Nat)} {pos spos : Pos} {wi : TI} {g : TG} {tt : TT} {tk tv : TE} (hc : X.calm = true) (hN : X.N.Nodup) (hy : X.N[i]? = some y) (hyl : X.env.scope.names.lookup y = some .local)
    (hsw : swapsWith (.DictComp kx vx [⟨tg, iter, ifs, 0⟩] scope pos) (some (.Name y py)) spos.line X.env = pure true) (hi : PI X tg iter wi) (ok : BlkOk X.N X.env.scope scope own)
    (hg : ∀ (s : Shared) (H : Hp) (C : Addr) (cl : List (Str × Addr)) (fp : List Addr), PG (X.blk s H scope (compEnvC scope cl C X.env) fp) tg g) (ht : ∀ (s : Shared) (H : Hp) (C : Addr) (cl : List (Str × Addr)) (fp : List Addr), PTs (X.blk s H scope (compEnvC scope cl C X.env) fp) ifs tt)
    (hk : ∀ (s : Shared) (H : Hp) (C : Addr) (cl : List (Str × Addr)) (fp : List Addr), PE (X.blk s H scope (compEnvC scope cl C X.env) fp) kx tk)
    (he : ∀ (s : Shared) (H : Hp) (C : Addr) (cl : List (Str × Addr)) (fp : List Addr), PE (X.blk s H scope (compEnvC scope cl C X.env) fp) vx tv) (hs : ∀ x, foldedSetIterable iter X.env x = pure x := by intro _; rfl) :
    PS X (.Assign [.Name y py] (.DictComp kx vx [⟨tg, iter, ifs, 0⟩] scope pos) spos) (tAsg (tDc wi g tt tk tv (own.map (·.2))) (gName i)) := by
  refine ⟨fun pins s σ H D I h => ?_⟩
  rw [exec_Assign_Name_used _ _ _ _ hsw]
  refine wpAny_bind (wpAny_standAt (wpAny_bind ?_))
  show wpAny _ X.A (do let _ ← comprehension (.DictComp kx vx [⟨tg, iter, ifs, 0⟩] scope pos) scope X.env (firstIterPos [⟨tg, iter, ifs, 0⟩] pos) newDict false (eval iter X.env) (some (assign (.Name y py) X.env))) _ _ s
  have h : tDc wi g tt tk tv (own.map (·.2)) σ H (fun x H1 => gName i x σ H1 D.nx) := h
  refine wpAny_bind (thn (dc_core (Qf := fun _ s' => SP X pins D .next s') hc hN I hi ok hg ht hk he hs h fun L C s' m H' I' q hn f => ?_) fun _ s' hq => wpAny_pure (wpAny_pure hq))
  show wpAny _ _ (assign (.Name y py) X.env (.ref L)) _ _ _
  refine wpAny_assign_Name (store_ok2 (v := V.ref L) I' hN hy (.inl hyl) rfl (fun s2 I2 ⟨a, sb, ha⟩ => ?_) (.inr hyl))
  obtain ⟨f0, f1, f2, f3, f4, f5⟩ := f
  have haC : C ≠ a := by
    rcases ha with z | z
    · rw [z]; exact f1
    · exact fun e => f4 y a z e.symm
  refine ⟨m, hn.sameBut sb haC, fun h3 sb3 => ?_⟩
  exact ⟨_, H', I2.turned (t' := s2.toks) (fun b o hb e => (sb3.2 b hb).trans e) f0 f1 f3 f4 f5, q⟩
end
/-! ### sorted, one step; a dict comprehension by what holds at each turn -/
section
variable {M : MS} {Q : ZQ}
theorem e_srtL {es : List D} : zSrtY [.lst es] M Q = (SrtOk es ∧ Q (.lst (sortD es)) M) := by
  unfold zSrtY
  simp only [lstD, Option.some.injEq, exists_eq_left']
theorem e_srtM {a : Addr} : zSrtY [.v (.ref a)] M Q = ∃ es, M a = some (.lst es) ∧ SrtOk es ∧ Q (.lst (sortD es)) M := by
  have key : ∀ es, lstD M (.v (.ref a)) = some es ↔ M a = some (.lst es) := fun es => by
    unfold lstD
    cases e : M a with
    | none => simp [e]
    | some m => cases m <;> simp [e]
  unfold zSrtY
  simp only [key]
end
theorem zdc {p : Addr} {g : ZG} {zt : ZT} {zk zv : ZE} {δ : ZSt} {Q : ZQ} {ds : List D} (I : Nat → MS → Prop)
    (step : ∀ i d M (k1 : MS → Prop), ds[i]? = some d → I i M → (∀ M', I (i + 1) M' → k1 M') → g d δ M fun δ1 M1 => zt δ1 M1 fun b M2 => if b = true then zk δ1 M2 fun kd M3 => zv δ1 M3 fun e M4 => ∃ kvs k, M4 p = some (.dct kvs) ∧ kD kd = some k ∧ kvs.length < sizeLine ∧ k1 (mput M4 p (.dct (putKD kvs k e))) else k1 M2)
    (fin : ∀ M, I ds.length M → Q (.v (.ref p)) M) {M : MS} (h0 : I 0 M) : zDcL p g zt zk zv δ Q ds M := by
  have go : ∀ (r : List D) (i : Nat), ds.drop i = r → i ≤ ds.length → ∀ M, I i M → zDcL p g zt zk zv δ Q r M := by
    intro r
    induction r with
    | nil =>
      intro i e hi M h
      have : ds.length ≤ i := List.drop_eq_nil_iff.mp e
      have : i = ds.length := by omega
      subst this
      exact fin M h
    | cons d r ih =>
      intro i e hi M h
      have hd : ds[i]? = some d := by
        have := congrArg (fun l : List D => l[0]?) e
        simpa using this
      have hlt : i < ds.length := by
        rcases Nat.lt_or_ge i ds.length with h | h
        · exact h
        · rw [List.getElem?_eq_none h] at hd; cases hd
      have hr : ds.drop (i + 1) = r := by
        have e2 := List.drop_eq_getElem_cons hlt
        rw [e] at e2
        exact (List.cons.inj e2).2.symm
      exact step i d M _ hd h fun M h' => ih (i + 1) hr hlt M h'
  exact go ds 0 rfl (Nat.zero_le _) M h0
theorem Kp.no {M M' : MS} {p : Addr} (k : Kp M M') (h : M' p = none) : M p = none := by
  cases e : M p with
  | none => rfl
  | some o => rw [k p o e] at h; cases h
theorem Kx.no {M M' : MS} {x p : Addr} (k : Kx x M M') (h : M' p = none) (n : p ≠ x) : M p = none := by
  cases e : M p with
  | none => rfl
  | some o => rw [k p o n e] at h; cases h
theorem cut1_get {α : Type} {xs : List α} {i : Nat} : (Zl.cutD xs (some 1) none)[i]? = xs[i + 1]? := by
  have e1 : HT.sIx xs.length xs.length none = xs.length := rfl
  have e0 : HT.sIx xs.length 0 (some 1) = min 1 xs.length := rfl
  unfold Zl.cutD
  rw [e0, e1]
  by_cases h : 1 ≤ xs.length
  · rw [Nat.min_eq_left h, List.getElem?_take]
    split
    · rw [List.getElem?_drop, Nat.add_comm]
    · rw [List.getElem?_eq_none (by omega)]
  · have : xs = [] := List.eq_nil_of_length_eq_zero (by omega)
    subst this
    simp
theorem isT_td : isT "tuple" "dict" = false := by decide
theorem isT_ld : isT "list" "dict" = false := by decide
theorem isT_id : isT "int" "dict" = false := by decide
theorem isT_nd : isT "NoneType" "dict" = false := by decide
theorem isT_sd : isT "str" "dict" = false := by decide
theorem isT_bd : isT "bool" "dict" = false := by decide
theorem isT_is : isT "int" "str" = false := by decide
theorem isT_ns : isT "NoneType" "str" = false := by decide
theorem isT_bs : isT "bool" "str" = false := by decide
theorem e_isi_is {K : PySem.W.Frag} {d : D} {M : MS} {Q : ZQ} (h : nice d = true) : zIsi K [d, .tup [.v (.ty "int"), .v (.ty "str")]] M Q = Q (.v (.bl (isT (tn d) "int" || isT (tn d) "str"))) M := e_isi2 h rfl rfl
/-! ### words told apart -/
theorem e_eqw {x y : Str} {b : Bool} {M : MS} {Q : ZQ} (h : (PyData.strOk x && PyData.strOk y && (decide (x = y) == b)) = true) (q : Q (.v (.bl b)) M) : zEq (.v (.str x)) (.v (.str y)) M Q := by
  simp only [Bool.and_eq_true, beq_iff_eq] at h
  obtain ⟨⟨h1, h2⟩, h3⟩ := h
  have z : (0 : Nat) ≤ 64 := by decide
  by_cases e : x = y
  · subst e
    rw [decide_eq_true rfl] at h3
    subst h3
    exact (e_eqS (d := .v (.str x)) h1 z).mpr q
  · rw [decide_eq_false e] at h3
    subst h3
    exact (e_eqF (d := .v (.str x)) (e := .v (.str y)) h1 h2 z z (fun k => e (by cases k; rfl))).mpr q
theorem e_inw {x : Str} {ds : List D} {b : Bool} {M : MS} {Q : ZQ} (h : (flD (.v (.str x)) && ds.all flD && (inD (.v (.str x)) ds == b)) = true) (q : Q (.v (.bl b)) M) : zIn false (.v (.str x)) (.tup ds) M Q := by
  simp only [Bool.and_eq_true, beq_iff_eq] at h
  obtain ⟨⟨h1, h2⟩, h3⟩ := h
  refine ⟨ds, rfl, h1, h2, ?_⟩
  rw [h3]
  exact q
theorem e_inF {d : D} {ds : List D} {b neg : Bool} {M : MS} {Q : ZQ} (h1 : flD d = true) (h2 : ds.all flD = true) (h3 : inD d ds = b) (q : Q (.v (.bl (if neg then !b else b))) M) : zIn neg d (.tup ds) M Q := by
  refine ⟨ds, rfl, h1, h2, ?_⟩
  rw [h3]
  exact q
theorem Kp.dels {M M' : MS} (k : Kp M M') {ps : List Addr} (h : ∀ p ∈ ps, M p = none) : Kp M (mdels M' ps) := fun a m e => by
  show (if a ∈ ps then none else M' a) = _
  rw [if_neg (fun q => by rw [h a q] at e; cases e)]
  exact k a m e
theorem valD_range {g : Nat → D} {i n : Nat} (h : i < n) : valD ((List.range n).map fun (j : Nat) => (.inl ((j : Nat) : Int), g j)) (.inl ((i : Nat) : Int)) = some (g i) := by
  rw [valD_map (f := fun (j : Nat) => (j : Int)) (g := g)]
  rw [List.find?_range_eq_some.mpr ⟨by simp, List.mem_range.mpr h, fun j hj => by simp; omega⟩]
  rfl
theorem valD_rangeN {g : Nat → D} {n : Nat} : valD ((List.range n).map fun (j : Nat) => (.inl ((j : Nat) : Int), g j)) (.inl ((n : Nat) : Int)) = none := by
  rw [valD_map (f := fun (j : Nat) => (j : Int)) (g := g)]
  rw [List.find?_range_eq_none.mpr fun j hj => by simp; omega]
  rfl
theorem e_isB {g : Bool → Bool} {a b : Bool} {M : MS} {Q : ZQ} : zIsB g (.v (.bl a)) (.v (.bl b)) M Q = Q (.v (.bl (g (decide (a = b))))) M := rfl
end Zl
set_option linter.all false
namespace K20
open PySem PySem.Spec PyProof.Rows L2 Zl NdefX
local macro_rules | `(tactic| walk_at "z") => `(tactic| simp only [
  ↓u_ret, ↓u_retN, ↓u_seq, ↓u_asg, ↓u_ifs, ↓u_drop, ↓u_next, ↓u_break, ↓u_cont, ↓u_never, ↓u_c, ↓u_op, ↓u_un, ↓u_nil, ↓u_cons, ↓u_tup, ↓u_lst, ↓u_lstM, ↓u_cb, ↓u_and, ↓u_or, ↓u_not, ↓u_yes, ↓u_if, ↓u_call, ↓u_make, ↓u_aug, 
  ↓u_gsub, ↓u_for, ↓u_lc, ↓u_lcM, ↓u_par, ↓u_par3, ↓u_tupRg1, ↓u_tupRg2, ↓u_lstRg1, ↓u_lstRg1M, ↓u_seqI, ↓u_rng1, ↓u_rng2, ↓u_enum, ↓u_zip, ↓u_sl, ↓u_nopart, ↓u_part, ↓u_cutT, ↓u_cutL, ↓u_cutR, ↓u_revT, ↓u_dnew, ↓u_dnewM, ↓u_d1, 
  ↓u_fld, ↓u_sfld, ↓u_rz, ↓u_xo, ↓u_x0, ↓u_WB, ↓u_W0, ↓u_try, ↓u_xf, ↓u_isXc, ↓u_isXg, ↓u_nget, ↓u_nput, ↓u_nnew, ↓u_n1, ↓u_lamW, ↓u_act, ↓u_bm, ↓u_bm0, ↓u_dget, ↓u_dput, ↓u_keysI, ↓u_set, ↓u_lk, ↓u_nd, ↓u_acN, ↓u_mkF, ↓u_d1M, 
  ↓u_reb, ↓u_fz, ↓u_dget2, ↓u_dc, ↓u_lstI, ↓u_nx, ↓u_rt, ↓u_bk, ↓u_ct, ↓u_var0, ↓u_varS, ↓u_gn0, ↓u_gn1, ↓u_gn2, ↓u_gn3, ↓u_gn4, ↓u_gn5, ↓u_gn6, ↓u_gn7, ↓u_gn8, ↓u_gn9, ↓u_gn10, ↓u_gn11, ↓u_gn12, ↓u_gn13, ↓u_gn14, ↓u_gn15, 
  ↓u_gn16, ↓u_gn17, ↓u_gn18, ↓u_gn19, ↓u_gn20, ↓u_gn21, ↓u_gn22, ↓u_gn23, ↓e_bT, ↓e_andV, ↓e_orV, ↓e_notV, ↓e_chain, ↓onB_bl, ↓e_I0, ↓e_I, ↓e_U, ↓e_addI, ↓e_addS, ↓e_addT, ↓e_addL, ↓e_mulI, ↓e_mulL, ↓e_mulT, ↓e_ixT, ↓e_ixL, 
  ↓e_ixM, ↓e_setM, ↓e_isN, ↓e_isNotN, ↓e_eqI, ↓e_neI, ↓e_eqB, ↓e_neB, ↓e_lenT, ↓e_lenL, ↓e_lenR, ↓e_intI, ↓e_absI, ↓e_tupL, ↓e_tupT, ↓e_lstL, ↓e_lstT, ↓e_gtup, ↓e_gcons, ↓e_gnil, ↓e_isi_int, ↓e_isi_bool, ↓e_isi_tuple, 
  ↓e_isi_list, ↓e_isi_str, ↓e_isB, ↓e_isi_dict, ↓e_isi_is, ↓e_isi_tl, ↓e_allM, ↓e_anyM, ↓e_gunl, ↓e_nget, ↓e_nin, ↓e_nput, ↓e_popAt, ↓e_popI, ↓e_lenM, ↓e_tupM, ↓e_append, ↓e_extend, ↓e_pop, ↓e_min2, ↓e_max2, ↓e_dgetM, ↓e_dgetD, 
  ↓e_dinM, ↓e_dinD, ↓e_dput, ↓e_set, ↓e_lk, ↓e_ltY, ↓e_srtL, ↓e_srtM, ↓e_addM, ↓e_listN, ↓e_mulM, ↓e_fz, ↓e_dget2, ↓reduceIte, reduceCtorEq, if_true, if_false, Bool.false_eq_true, decide_eq_true_eq, Bool.not_eq_true', 
  decide_eq_false_iff_not, Bool.not_true, Bool.not_false, zstart, zwipe, List.map_cons, List.map_nil, List.length_cons, List.length_nil, Nat.reduceAdd, Nat.reduceSub, List.replicate_succ, List.replicate_zero, List.cons_append, 
  List.nil_append, List.append_nil, List.getElem?_cons_zero, List.getElem?_cons_succ, List.set_cons_zero, List.set_cons_succ, Option.some.injEq, exists_eq_left', exists_eq_left, exists_eq_right, true_and, and_true, 
  List.cons.injEq, D.v.injEq, V.int.injEq, V.bl.injEq, V.ref.injEq, V.str.injEq, List.zip_cons_cons, List.zip_nil_left, MO.lst.injEq, MO.ins.injEq, MO.dN.injEq, MO.tbl.injEq, MO.dct.injEq, keyB_2, mput_same, mput_mput, 
  exists_and_left, e_at0, e_at1, e_at2, e_at3, e_at4, e_at5, e_atn, e_set0, e_set1, e_set2, e_set3, e_set4, cmul_r, cmul_l, cmul_mod, cdw, cdw2, cpow18, cpow11, ten18, ten11, beq_self_eq_true, decide_true, decide_false, 
  Bool.true_eq_false, isI_t, nice_non, nice_bl, nice_int, nice_str, nice_tup, nice_lst, nice_rd, nice_dct, tn_non, tn_bl, tn_int, tn_str, tn_tup, tn_lst, tn_rd, tn_dct, id_eq, isT_td, isT_ld, isT_id, isT_nd, isT_sd, isT_bd, 
  isT_is, isT_ns, isT_bs, isT_tt, isT_ll, isT_ii, isT_bb, isT_bi, isT_ss, isT_dd, isT_tl, isT_lt, isT_it, isT_il, isT_ib, isT_nt, isT_nl, isT_ni, isT_nb, isT_st, isT_sl, isT_si, isT_sb, isT_ti, isT_tb, isT_li, isT_lb, isT_di, 
  isT_db, isT_dt, isT_dl, isT_bt, isT_bl, Bool.or_false, Bool.or_true, Bool.false_or, Bool.true_or, Bool.false_and, Bool.true_and, Bool.and_true, Bool.and_false, Int.reduceLT, Int.reduceLE, Int.reduceNeg, Nat.reduceLT, 
  Nat.reduceLeDiff, sizeLine_eq, Int.reduceAdd, Int.reduceSub, Int.reduceMul, isNon_e0, isNon_e1, isNon_e2, isNon_e3, List.reverse_cons, List.reverse_nil])
local macro_rules | `(tactic| walk_at "zh") => `(tactic| simp only [
  ↓u_ret, ↓u_retN, ↓u_seq, ↓u_asg, ↓u_ifs, ↓u_drop, ↓u_next, ↓u_break, ↓u_cont, ↓u_never, ↓u_c, ↓u_op, ↓u_un, ↓u_nil, ↓u_cons, ↓u_tup, ↓u_lst, ↓u_lstM, ↓u_cb, ↓u_and, ↓u_or, ↓u_not, ↓u_yes, ↓u_if, ↓u_call, ↓u_make, ↓u_aug, 
  ↓u_gsub, ↓u_for, ↓u_lc, ↓u_lcM, ↓u_par, ↓u_par3, ↓u_tupRg1, ↓u_tupRg2, ↓u_lstRg1, ↓u_lstRg1M, ↓u_seqI, ↓u_rng1, ↓u_rng2, ↓u_enum, ↓u_zip, ↓u_sl, ↓u_nopart, ↓u_part, ↓u_cutT, ↓u_cutL, ↓u_cutR, ↓u_revT, ↓u_dnew, ↓u_dnewM, ↓u_d1, 
  ↓u_fld, ↓u_sfld, ↓u_rz, ↓u_xo, ↓u_x0, ↓u_WB, ↓u_W0, ↓u_try, ↓u_xf, ↓u_isXc, ↓u_isXg, ↓u_nget, ↓u_nput, ↓u_nnew, ↓u_n1, ↓u_lamW, ↓u_act, ↓u_bm, ↓u_bm0, ↓u_dget, ↓u_dput, ↓u_keysI, ↓u_set, ↓u_lk, ↓u_nd, ↓u_acN, ↓u_mkF, ↓u_d1M, 
  ↓u_reb, ↓u_fz, ↓u_dget2, ↓u_dc, ↓u_lstI, ↓u_nx, ↓u_rt, ↓u_bk, ↓u_ct, ↓u_var0, ↓u_varS, ↓u_gn0, ↓u_gn1, ↓u_gn2, ↓u_gn3, ↓u_gn4, ↓u_gn5, ↓u_gn6, ↓u_gn7, ↓u_gn8, ↓u_gn9, ↓u_gn10, ↓u_gn11, ↓u_gn12, ↓u_gn13, ↓u_gn14, ↓u_gn15, 
  ↓u_gn16, ↓u_gn17, ↓u_gn18, ↓u_gn19, ↓u_gn20, ↓u_gn21, ↓u_gn22, ↓u_gn23, ↓e_bT, ↓e_andV, ↓e_orV, ↓e_notV, ↓e_chain, ↓onB_bl, ↓e_I0, ↓e_I, ↓e_U, ↓e_addI, ↓e_addS, ↓e_addT, ↓e_addL, ↓e_mulI, ↓e_mulL, ↓e_mulT, ↓e_ixT, ↓e_ixL, 
  ↓e_ixM, ↓e_setM, ↓e_isN, ↓e_isNotN, ↓e_eqI, ↓e_neI, ↓e_eqB, ↓e_neB, ↓e_lenT, ↓e_lenL, ↓e_lenR, ↓e_intI, ↓e_absI, ↓e_tupL, ↓e_tupT, ↓e_lstL, ↓e_lstT, ↓e_gtup, ↓e_gcons, ↓e_gnil, ↓e_isi_int, ↓e_isi_bool, ↓e_isi_tuple, 
  ↓e_isi_list, ↓e_isi_str, ↓e_isB, ↓e_isi_dict, ↓e_isi_is, ↓e_isi_tl, ↓e_allM, ↓e_anyM, ↓e_gunl, ↓e_nget, ↓e_nin, ↓e_nput, ↓e_popAt, ↓e_popI, ↓e_lenM, ↓e_tupM, ↓e_append, ↓e_extend, ↓e_pop, ↓e_min2, ↓e_max2, ↓e_dgetM, ↓e_dgetD, 
  ↓e_dinM, ↓e_dinD, ↓e_dput, ↓e_set, ↓e_lk, ↓e_ltY, ↓e_srtL, ↓e_srtM, ↓e_addM, ↓e_listN, ↓e_mulM, ↓e_fz, ↓e_dget2, ↓reduceIte, reduceCtorEq, if_true, if_false, Bool.false_eq_true, decide_eq_true_eq, Bool.not_eq_true', 
  decide_eq_false_iff_not, Bool.not_true, Bool.not_false, zstart, zwipe, List.map_cons, List.map_nil, List.length_cons, List.length_nil, Nat.reduceAdd, Nat.reduceSub, List.replicate_succ, List.replicate_zero, List.cons_append, 
  List.nil_append, List.append_nil, List.getElem?_cons_zero, List.getElem?_cons_succ, List.set_cons_zero, List.set_cons_succ, Option.some.injEq, exists_eq_left', exists_eq_left, exists_eq_right, true_and, and_true, 
  List.cons.injEq, D.v.injEq, V.int.injEq, V.bl.injEq, V.ref.injEq, V.str.injEq, List.zip_cons_cons, List.zip_nil_left, MO.lst.injEq, MO.ins.injEq, MO.dN.injEq, MO.tbl.injEq, MO.dct.injEq, keyB_2, mput_same, mput_mput, 
  exists_and_left, e_at0, e_at1, e_at2, e_at3, e_at4, e_at5, e_atn, e_set0, e_set1, e_set2, e_set3, e_set4, cmul_r, cmul_l, cmul_mod, cdw, cdw2, cpow18, cpow11, ten18, ten11, beq_self_eq_true, decide_true, decide_false, 
  Bool.true_eq_false, isI_t, nice_non, nice_bl, nice_int, nice_str, nice_tup, nice_lst, nice_rd, nice_dct, tn_non, tn_bl, tn_int, tn_str, tn_tup, tn_lst, tn_rd, tn_dct, id_eq, isT_td, isT_ld, isT_id, isT_nd, isT_sd, isT_bd, 
  isT_is, isT_ns, isT_bs, isT_tt, isT_ll, isT_ii, isT_bb, isT_bi, isT_ss, isT_dd, isT_tl, isT_lt, isT_it, isT_il, isT_ib, isT_nt, isT_nl, isT_ni, isT_nb, isT_st, isT_sl, isT_si, isT_sb, isT_ti, isT_tb, isT_li, isT_lb, isT_di, 
  isT_db, isT_dt, isT_dl, isT_bt, isT_bl, Bool.or_false, Bool.or_true, Bool.false_or, Bool.true_or, Bool.false_and, Bool.true_and, Bool.and_true, Bool.and_false, Int.reduceLT, Int.reduceLE, Int.reduceNeg, Nat.reduceLT, 
  Nat.reduceLeDiff, sizeLine_eq, Int.reduceAdd, Int.reduceSub, Int.reduceMul, isNon_e0, isNon_e1, isNon_e2, isNon_e3, List.reverse_cons, List.reverse_nil, *])
local macro_rules | `(tactic| walk_at "w") => `(tactic| repeat (first | (refine e_eqw (b := true) (by decide +kernel) ?_; try walk_at "z") | (refine e_eqw (b := false) (by decide +kernel) ?_; try walk_at "z") | (refine e_inw (b := true) (by decide +kernel) ?_; try walk_at "z") | (refine e_inw (b := false) (by decide +kernel) ?_; try walk_at "z")))
def top (i : Nat) : Stmt := PySem.Challenge.pw_slipcaught_k20_lags_of_kinds.main.body.getD i (.Pass ⟨0, 0, 0, 0⟩)
def d__law_hand : He.DefD := ⟨("_law_hand", none), "_law_hand", "_law_hand", defArgs (top 41), defBody (top 41), defScope (top 41), [], []⟩
def d__law_draw : He.DefD := ⟨("_law_draw", none), "_law_draw", "_law_draw", defArgs (top 42), defBody (top 42), defScope (top 42), [], []⟩
def d__law_any : He.DefD := ⟨("_law_any", none), "_law_any", "_law_any", defArgs (top 43), defBody (top 43), defScope (top 43), [], []⟩
def d_is_int : He.DefD := ⟨("is_int", none), "is_int", "is_int", defArgs (top 1), defBody (top 1), defScope (top 1), [], []⟩
def d_is_within : He.DefD := ⟨("is_within", none), "is_within", "is_within", defArgs (top 2), defBody (top 2), defScope (top 2), [], []⟩
def d_are_within : He.DefD := ⟨("are_within", none), "are_within", "are_within", defArgs (top 3), defBody (top 3), defScope (top 3), [], []⟩
def d_is_row : He.DefD := ⟨("is_row", none), "is_row", "is_row", defArgs (top 4), defBody (top 4), defScope (top 4), [], []⟩
def d_check_size : He.DefD := ⟨("check_size", none), "check_size", "check_size", defArgs (top 17), defBody (top 17), defScope (top 17), [], []⟩
def d_is_arc : He.DefD := ⟨("is_arc", none), "is_arc", "is_arc", defArgs (top 18), defBody (top 18), defScope (top 18), [], []⟩
def d_Kind___init__ : He.DefD := ⟨("Kind", some "__init__"), "__init__", "Kind.__init__", defArgs (inClass (top 19) 0), defBody (inClass (top 19) 0), defScope (inClass (top 19) 0), [], []⟩
def d_check_kind : He.DefD := ⟨("check_kind", none), "check_kind", "check_kind", defArgs (top 20), defBody (top 20), defScope (top 20), [], []⟩
def d_is_level_kind : He.DefD := ⟨("is_level_kind", none), "is_level_kind", "is_level_kind", defArgs (top 21), defBody (top 21), defScope (top 21), [], []⟩
def d_is_level : He.DefD := ⟨("is_level", none), "is_level", "is_level", defArgs (top 22), defBody (top 22), defScope (top 22), [], []⟩
def d_kept_arcs : He.DefD := ⟨("kept_arcs", none), "kept_arcs", "kept_arcs", defArgs (top 23), defBody (top 23), defScope (top 23), [], []⟩
def d_unlike_pairs : He.DefD := ⟨("unlike_pairs", none), "unlike_pairs", "unlike_pairs", defArgs (top 24), defBody (top 24), defScope (top 24), [], []⟩
def d_two_signs : He.DefD := ⟨("two_signs", none), "two_signs", "two_signs", defArgs (top 25), defBody (top 25), defScope (top 25), [], []⟩
def d_exchanged : He.DefD := ⟨("exchanged", none), "exchanged", "exchanged", defArgs (top 26), defBody (top 26), defScope (top 26), [], []⟩
def d_twins : He.DefD := ⟨("twins", none), "twins", "twins", defArgs (top 27), defBody (top 27), defScope (top 27), [], []⟩
def d_is_pair : He.DefD := ⟨("is_pair", none), "is_pair", "is_pair", defArgs (top 28), defBody (top 28), defScope (top 28), [], []⟩
def d_check_pairs : He.DefD := ⟨("check_pairs", none), "check_pairs", "check_pairs", defArgs (top 29), defBody (top 29), defScope (top 29), [], []⟩
def d_at_one_place : He.DefD := ⟨("at_one_place", none), "at_one_place", "at_one_place", defArgs (top 30), defBody (top 30), defScope (top 30), [], []⟩
def d_misheard : He.DefD := ⟨("misheard", none), "misheard", "misheard", defArgs (top 31), defBody (top 31), defScope (top 31), [], []⟩
def d_any_sign : He.DefD := ⟨("any_sign", none), "any_sign", "any_sign", defArgs (top 32), defBody (top 32), defScope (top 32), [], []⟩
def d_left_out : He.DefD := ⟨("left_out", none), "left_out", "left_out", defArgs (top 33), defBody (top 33), defScope (top 33), [], []⟩
def d_put_in : He.DefD := ⟨("put_in", none), "put_in", "put_in", defArgs (top 34), defBody (top 34), defScope (top 34), [], []⟩
def d_doubled : He.DefD := ⟨("doubled", none), "doubled", "doubled", defArgs (top 35), defBody (top 35), defScope (top 35), [], []⟩
def d_turned : He.DefD := ⟨("turned", none), "turned", "turned", defArgs (top 36), defBody (top 36), defScope (top 36), [], []⟩
def d_arcs_of : He.DefD := ⟨("arcs_of", none), "arcs_of", "arcs_of", defArgs (top 38), defBody (top 38), defScope (top 38), [], []⟩
def d_lags : He.DefD := ⟨("lags", none), "lags", "lags", defArgs (top 39), defBody (top 39), defScope (top 39), [], []⟩
def d__law_same : He.DefD := ⟨("_law_same", none), "_law_same", "_law_same", defArgs (top 44), defBody (top 44), defScope (top 44), [], []⟩
def d__law_kind_parts : He.DefD := ⟨("_law_kind_parts", none), "_law_kind_parts", "_law_kind_parts", defArgs (top 45), defBody (top 45), defScope (top 45), [], []⟩
def d__law_kind : He.DefD := ⟨("_law_kind", none), "_law_kind", "_law_kind", defArgs (top 46), defBody (top 46), defScope (top 46), [], []⟩
def d__law_parts_of : He.DefD := ⟨("_law_parts_of", none), "_law_parts_of", "_law_parts_of", defArgs (top 47), defBody (top 47), defScope (top 47), [], []⟩
def d__law_word : He.DefD := ⟨("_law_word", none), "_law_word", "_law_word", defArgs (top 48), defBody (top 48), defScope (top 48), [], []⟩
def d__law_kind_of : He.DefD := ⟨("_law_kind_of", none), "_law_kind_of", "_law_kind_of", defArgs (top 49), defBody (top 49), defScope (top 49), [], []⟩
def d__law_lags : He.DefD := ⟨("_law_lags", none), "_law_lags", "_law_lags", defArgs (top 50), defBody (top 50), defScope (top 50), [], []⟩
def d__law_balanced : He.DefD := ⟨("_law_balanced", none), "_law_balanced", "_law_balanced", defArgs (top 51), defBody (top 51), defScope (top 51), [], []⟩
def d__law_is_right_of : He.DefD := ⟨("_law_is_right_of", none), "_law_is_right_of", "_law_is_right_of", defArgs (top 52), defBody (top 52), defScope (top 52), [], []⟩
def d__law_is_refused : He.DefD := ⟨("_law_is_refused", none), "_law_is_refused", "_law_is_refused", defArgs (top 53), defBody (top 53), defScope (top 53), [], []⟩
def d_law : He.DefD := ⟨("law", none), "law", "law", defArgs (top 54), defBody (top 54), defScope (top 54), [], []⟩
/-! ### what of the module the proofs lean on -/
def tf : List He.Defn := []
def ts (K : PySem.W.Frag) : List (Addr × Addr × Str) := tf.map fun p => (He.codeOf K p, He.tabOf K (He.codeOf K p), qL p.1)
structure Tx (K : PySem.W.Frag) (mg : Str → Option Value) (base : Heap) : Prop where
  a_Kind : mg "Kind" = some (.ref (He.ga K "Kind"))
  a_NoKind : mg "NoKind" = some (.ref (He.ga K "NoKind"))
  a_SlipError : mg "SlipError" = some (.ref (He.ga K "SlipError"))
  d__law_hand : FunAt K mg "_law_hand" "_law_hand" (top 41) ["script"]
  d__law_draw : FunAt K mg "_law_draw" "_law_draw" (top 42) ["hand", "many"]
  d__law_any : FunAt K mg "_law_any" "_law_any" (top 43) ["hand", "some"]
  d_is_int : FunAt K mg "is_int" "is_int" (top 1) ["thing"]
  d_is_within : FunAt K mg "is_within" "is_within" (top 2) ["thing", "low", "high"]
  d_are_within : FunAt K mg "are_within" "are_within" (top 3) ["thing", "low", "high"]
  d_is_row : FunAt K mg "is_row" "is_row" (top 4) ["size", "thing"]
  d_check_size : FunAt K mg "check_size" "check_size" (top 17) ["size"]
  d_is_arc : FunAt K mg "is_arc" "is_arc" (top 18) ["size", "many", "thing"]
  in_Kind : ∃ (f : Addr) (fd : FuncData), FunD K "__init__" "Kind.__init__" (defArgs (inClass (top 19) 0)) (defBody (inClass (top 19) 0)) (defScope (inClass (top 19) 0)) [] [] f fd ∧ Mk K (He.ga K "Kind") f ∧ L2.Binds K fd ["self", "size", "many", "arcs", "ends"] []
  d_check_kind : FunAt K mg "check_kind" "check_kind" (top 20) ["kind"]
  d_is_level_kind : FunAt K mg "is_level_kind" "is_level_kind" (top 21) ["kind"]
  d_is_level : FunAt K mg "is_level" "is_level" (top 22) ["kind"]
  d_kept_arcs : FunAt K mg "kept_arcs" "kept_arcs" (top 23) ["size", "state"]
  d_unlike_pairs : FunAt K mg "unlike_pairs" "unlike_pairs" (top 24) ["size"]
  d_two_signs : FunAt K mg "two_signs" "two_signs" (top 25) ["size", "far", "is_exchange"]
  d_exchanged : FunAt K mg "exchanged" "exchanged" (top 26) ["size", "far"]
  d_twins : FunAt K mg "twins" "twins" (top 27) ["size"]
  d_is_pair : FunAt K mg "is_pair" "is_pair" (top 28) ["size", "thing"]
  d_check_pairs : FunAt K mg "check_pairs" "check_pairs" (top 29) ["size", "pairs"]
  d_at_one_place : FunAt K mg "at_one_place" "at_one_place" (top 30) ["size", "heard"]
  d_misheard : FunAt K mg "misheard" "misheard" (top 31) ["size", "pairs"]
  d_any_sign : FunAt K mg "any_sign" "any_sign" (top 32) ["size"]
  d_left_out : FunAt K mg "left_out" "left_out" (top 33) ["size"]
  d_put_in : FunAt K mg "put_in" "put_in" (top 34) ["size"]
  d_doubled : FunAt K mg "doubled" "doubled" (top 35) ["size"]
  d_turned : FunAt K mg "turned" "turned" (top 36) ["kind"]
  d_arcs_of : FunAt K mg "arcs_of" "arcs_of" (top 38) ["kind"]
  d_lags : FunAt K mg "lags" "lags" (top 39) ["kind"]
  d__law_same : FunAt K mg "_law_same" "_law_same" (top 44) ["one", "due"]
  d__law_kind_parts : FunAt K mg "_law_kind_parts" "_law_kind_parts" (top 45) ["hand", "size", "is_wide"]
  d__law_kind : FunAt K mg "_law_kind" "_law_kind" (top 46) ["parts"]
  d__law_parts_of : FunAt K mg "_law_parts_of" "_law_parts_of" (top 47) ["kind"]
  d__law_word : FunAt K mg "_law_word" "_law_word" (top 48) ["hand", "size"]
  d__law_kind_of : FunAt K mg "_law_kind_of" "_law_kind_of" (top 49) ["size", "word"]
  d__law_lags : FunAt K mg "_law_lags" "_law_lags" (top 50) ["kind"]
  d__law_balanced : FunAt K mg "_law_balanced" "_law_balanced" (top 51) ["hand", "size"]
  d__law_is_right_of : FunAt K mg "_law_is_right_of" "_law_is_right_of" (top 52) ["kind"]
  d__law_is_refused : FunAt K mg "_law_is_refused" "_law_is_refused" (top 53) ["odd"]
  d_law : FunAt K mg "law" "law" (top 54) ["script"]
  c_Kind : Cls K (He.ga K "Kind")
  s_Kind : InsC K (He.ga K "Kind")
  na_Kind_size : NoAttr K (He.ga K "Kind") "size"
  na_Kind_many : NoAttr K (He.ga K "Kind") "many"
  na_Kind_arcs : NoAttr K (He.ga K "Kind") "arcs"
  na_Kind_ends : NoAttr K (He.ga K "Kind") "ends"
  x_NoKind : XcC K (He.ga K "NoKind") ∧ XfC K (He.ga K "NoKind")
  x0_NoKind : Xc0At K mg "NoKind" (He.ga K "NoKind")
  f_ValueError : mg "ValueError" = none
  f_abs : mg "abs" = none
  f_all : mg "all" = none
  f_any : mg "any" = none
  f_bool : mg "bool" = none
  f_dict : mg "dict" = none
  f_enumerate : mg "enumerate" = none
  f_int : mg "int" = none
  f_isinstance : mg "isinstance" = none
  f_len : mg "len" = none
  f_list : mg "list" = none
  f_max : mg "max" = none
  f_range : mg "range" = none
  f_sorted : mg "sorted" = none
  f_str : mg "str" = none
  f_tuple : mg "tuple" = none
  f_zip : mg "zip" = none
  g_MOST_ARCS : ∃ t, mg "MOST_ARCS" = some (.int (6000) t)
  g_MOST_FAR : ∃ t, mg "MOST_FAR" = some (.int (2) t)
  g_MOST_SAID : ∃ t, mg "MOST_SAID" = some (.int (2) t)
  g_MOST_SIZE : ∃ t, mg "MOST_SIZE" = some (.int (12) t)
  g_MOST_STATES : ∃ t, mg "MOST_STATES" = some (.int (400) t)
  e_NoKind_SlipError : PySem.W.exmOne K (.ref (He.ga K "NoKind")) (.ref (He.ga K "SlipError")) = some true
  k_NoKind_NoKind : PySem.W.kitOne K (.ref (He.ga K "NoKind")) (.ref (He.ga K "NoKind")) = some true
  k_NoKind_ValueError : PySem.W.kitOne K (.ref (He.ga K "NoKind")) (.type "ValueError") = some true
  k_NoneType_Kind : PySem.W.kitOne K (.type "NoneType") (.ref (He.ga K "Kind")) = some false
  k_bool_Kind : PySem.W.kitOne K (.type "bool") (.ref (He.ga K "Kind")) = some false
  k_int_Kind : PySem.W.kitOne K (.type "int") (.ref (He.ga K "Kind")) = some false
  k_str_Kind : PySem.W.kitOne K (.type "str") (.ref (He.ga K "Kind")) = some false
  k_tuple_Kind : PySem.W.kitOne K (.type "tuple") (.ref (He.ga K "Kind")) = some false
  k_list_Kind : PySem.W.kitOne K (.type "list") (.ref (He.ga K "Kind")) = some false
  k_dict_Kind : PySem.W.kitOne K (.type "dict") (.ref (He.ga K "Kind")) = some false
theorem sc__law_hand : FnScope ["script", "cells", "cell"] ["script"] (defScope (top 41)) := ⟨rfl, rfl, rfl, by decide +kernel, rfl, by decide +kernel, by decide +kernel⟩
theorem sc__law_draw : FnScope ["hand", "many", "cell", "digit", "number"] ["hand", "many"] (defScope (top 42)) := ⟨rfl, rfl, rfl, by decide +kernel, rfl, by decide +kernel, by decide +kernel⟩
theorem sc__law_any : FnScope ["hand", "some"] ["hand", "some"] (defScope (top 43)) := ⟨rfl, rfl, rfl, by decide +kernel, rfl, by decide +kernel, by decide +kernel⟩
theorem sc_is_int : FnScope ["thing"] ["thing"] (defScope (top 1)) := ⟨rfl, rfl, rfl, by decide +kernel, rfl, by decide +kernel, by decide +kernel⟩
theorem sc_is_within : FnScope ["thing", "low", "high"] ["thing", "low", "high"] (defScope (top 2)) := ⟨rfl, rfl, rfl, by decide +kernel, rfl, by decide +kernel, by decide +kernel⟩
theorem sc_are_within : FnScope ["thing", "low", "high", "part"] ["thing", "low", "high"] (defScope (top 3)) := ⟨rfl, rfl, rfl, by decide +kernel, rfl, by decide +kernel, by decide +kernel⟩
theorem sc_is_row : FnScope ["size", "thing"] ["size", "thing"] (defScope (top 4)) := ⟨rfl, rfl, rfl, by decide +kernel, rfl, by decide +kernel, by decide +kernel⟩
theorem sc_check_size : FnScope ["size"] ["size"] (defScope (top 17)) := ⟨rfl, rfl, rfl, by decide +kernel, rfl, by decide +kernel, by decide +kernel⟩
theorem sc_is_arc : FnScope ["size", "many", "thing"] ["size", "many", "thing"] (defScope (top 18)) := ⟨rfl, rfl, rfl, by decide +kernel, rfl, by decide +kernel, by decide +kernel⟩
theorem sc_Kind___init__ : FnScope ["self", "size", "many", "arcs", "ends", "at", "arc", "state"] ["self", "size", "many", "arcs", "ends"] (defScope (inClass (top 19) 0)) := ⟨rfl, rfl, rfl, by decide +kernel, rfl, by decide +kernel, by decide +kernel⟩
theorem sc_check_kind : FnScope ["kind"] ["kind"] (defScope (top 20)) := ⟨rfl, rfl, rfl, by decide +kernel, rfl, by decide +kernel, by decide +kernel⟩
theorem sc_is_level_kind : FnScope ["kind", "state", "said", "heard", "later"] ["kind"] (defScope (top 21)) := ⟨rfl, rfl, rfl, by decide +kernel, rfl, by decide +kernel, by decide +kernel⟩
theorem sc_is_level : FnScope ["kind"] ["kind"] (defScope (top 22)) := ⟨rfl, rfl, rfl, by decide +kernel, rfl, by decide +kernel, by decide +kernel⟩
theorem sc_kept_arcs : FnScope ["size", "state", "sign"] ["size", "state"] (defScope (top 23)) := ⟨rfl, rfl, rfl, by decide +kernel, rfl, by decide +kernel, by decide +kernel⟩
theorem sc_unlike_pairs : FnScope ["size", "found", "one", "other"] ["size"] (defScope (top 24)) := ⟨rfl, rfl, rfl, by decide +kernel, rfl, by decide +kernel, by decide +kernel⟩
theorem sc_two_signs : FnScope ["size", "far", "is_exchange", "pairs", "arcs", "many", "one", "other", "turn", "sign", "last"] ["size", "far", "is_exchange"] (defScope (top 25)) := ⟨rfl, rfl, rfl, by decide +kernel, rfl, by decide +kernel, by decide +kernel⟩
theorem sc_exchanged : FnScope ["size", "far"] ["size", "far"] (defScope (top 26)) := ⟨rfl, rfl, rfl, by decide +kernel, rfl, by decide +kernel, by decide +kernel⟩
theorem sc_twins : FnScope ["size"] ["size"] (defScope (top 27)) := ⟨rfl, rfl, rfl, by decide +kernel, rfl, by decide +kernel, by decide +kernel⟩
theorem sc_is_pair : FnScope ["size", "thing"] ["size", "thing"] (defScope (top 28)) := ⟨rfl, rfl, rfl, by decide +kernel, rfl, by decide +kernel, by decide +kernel⟩
theorem sc_check_pairs : FnScope ["size", "pairs", "pair", "one", "other"] ["size", "pairs"] (defScope (top 29)) := ⟨rfl, rfl, rfl, by decide +kernel, rfl, by decide +kernel, by decide +kernel⟩
theorem sc_at_one_place : FnScope ["size", "heard", "arcs", "one", "other"] ["size", "heard"] (defScope (top 30)) := ⟨rfl, rfl, rfl, by decide +kernel, rfl, by decide +kernel, by decide +kernel⟩
theorem sc_misheard : FnScope ["size", "pairs", "one", "other"] ["size", "pairs"] (defScope (top 31)) := ⟨rfl, rfl, rfl, by decide +kernel, rfl, by decide +kernel, by decide +kernel⟩
theorem sc_any_sign : FnScope ["size"] ["size"] (defScope (top 32)) := ⟨rfl, rfl, rfl, by decide +kernel, rfl, by decide +kernel, by decide +kernel⟩
theorem sc_left_out : FnScope ["size", "sign"] ["size"] (defScope (top 33)) := ⟨rfl, rfl, rfl, by decide +kernel, rfl, by decide +kernel, by decide +kernel⟩
theorem sc_put_in : FnScope ["size", "sign"] ["size"] (defScope (top 34)) := ⟨rfl, rfl, rfl, by decide +kernel, rfl, by decide +kernel, by decide +kernel⟩
theorem sc_doubled : FnScope ["size", "sign"] ["size"] (defScope (top 35)) := ⟨rfl, rfl, rfl, by decide +kernel, rfl, by decide +kernel, by decide +kernel⟩
theorem sc_turned : FnScope ["kind", "arcs", "state", "said", "heard", "later"] ["kind"] (defScope (top 36)) := ⟨rfl, rfl, rfl, by decide +kernel, rfl, by decide +kernel, by decide +kernel⟩
theorem sc_arcs_of : FnScope ["kind", "found", "state", "arc"] ["kind"] (defScope (top 38)) := ⟨rfl, rfl, rfl, by decide +kernel, rfl, by decide +kernel, by decide +kernel⟩
theorem sc_lags : FnScope ["kind", "arcs", "found", "waiting", "here", "state", "said", "heard", "later", "lag"] ["kind"] (defScope (top 39)) := ⟨rfl, rfl, rfl, by decide +kernel, rfl, by decide +kernel, by decide +kernel⟩
theorem sc__law_same : FnScope ["one", "due", "name", "at"] ["one", "due"] (defScope (top 44)) := ⟨rfl, rfl, rfl, by decide +kernel, rfl, by decide +kernel, by decide +kernel⟩
theorem sc__law_kind_parts : FnScope ["hand", "size", "is_wide", "many", "arcs", "turn", "said", "heard", "rows", "ends", "state"] ["hand", "size", "is_wide"] (defScope (top 45)) := ⟨rfl, rfl, rfl, by decide +kernel, rfl, by decide +kernel, by decide +kernel⟩
theorem sc__law_kind : FnScope ["parts"] ["parts"] (defScope (top 46)) := ⟨rfl, rfl, rfl, by decide +kernel, rfl, by decide +kernel, by decide +kernel⟩
theorem sc__law_parts_of : FnScope ["kind"] ["kind"] (defScope (top 47)) := ⟨rfl, rfl, rfl, by decide +kernel, rfl, by decide +kernel, by decide +kernel⟩
theorem sc__law_word : FnScope ["hand", "size", "pairs", "a", "b", "some", "pair", "words"] ["hand", "size"] (defScope (top 48)) := ⟨rfl, rfl, rfl, by decide +kernel, rfl, by decide +kernel, by decide +kernel⟩
theorem sc__law_kind_of : FnScope ["size", "word"] ["size", "word"] (defScope (top 49)) := ⟨rfl, rfl, rfl, by decide +kernel, rfl, by decide +kernel, by decide +kernel⟩
theorem sc__law_lags : FnScope ["kind", "found", "queue", "here", "state", "said", "heard", "later", "lag"] ["kind"] (defScope (top 50)) := ⟨rfl, rfl, rfl, by decide +kernel, rfl, by decide +kernel, by decide +kernel⟩
theorem sc__law_balanced : FnScope ["hand", "size", "many", "wanted", "arcs", "state", "turn", "one", "other", "more", "said", "sign", "heard", "ends"] ["hand", "size"] (defScope (top 51)) := ⟨rfl, rfl, rfl, by decide +kernel, rfl, by decide +kernel, by decide +kernel⟩
theorem sc__law_is_right_of : FnScope ["kind", "slip", "due", "back", "lag"] ["kind"] (defScope (top 52)) := ⟨rfl, rfl, rfl, by decide +kernel, rfl, by decide +kernel, by decide +kernel⟩
theorem sc__law_is_refused : FnScope ["odd", "error"] ["odd"] (defScope (top 53)) := ⟨rfl, rfl, rfl, by decide +kernel, rfl, by decide +kernel, by decide +kernel⟩
theorem sc_law : FnScope ["script", "hand", "turn", "size", "some", "kind", "known"] ["script"] (defScope (top 54)) := ⟨rfl, rfl, rfl, by decide +kernel, rfl, by decide +kernel, by decide +kernel⟩
section
variable {P : Program} {w : World} {K : PySem.W.Frag} {mg : Str → Option Value} {base : Heap}
def zp__law_hand : ZSp := fun ds M Q E => ∃ ns : List Int, ds = [.rd (ns.map fun n => .v (.int n))] ∧ ns.length ≤ 63 ∧ ∀ h M', M h = none → Hx h M M' → Q (.v (.ref h)) M'
theorem hl__law_hand : ∀ ds M Q E, zp__law_hand ds M Q E → ds.length = 1 := fun ds M Q E h => by
  obtain ⟨d, rfl, _⟩ := h
  rfl
def zp__law_draw : ZSp := fun ds M Q E => ∃ (h : Addr) (many : Int), ds = [.v (.ref h), .v (.int many)] ∧ Hd M h ∧ 0 < many ∧ many.natAbs.log2 < 9000 ∧
  ∀ (r : Int) M', Hx h M M' → 0 ≤ r → r < many → Q (.v (.int r)) M'
theorem hl__law_draw : ∀ ds M Q E, zp__law_draw ds M Q E → ds.length = 2 := fun ds M Q E h => by
  obtain ⟨d, _, rfl, _⟩ := h
  rfl
def zp__law_any : ZSp := fun ds M Q E => ∃ (h : Addr) (s : D) (xs : List D), ds = [.v (.ref h), s] ∧ (s = .lst xs ∨ s = .tup xs) ∧ Hd M h ∧ xs ≠ [] ∧ xs.length ≤ sizeLine ∧
  ∀ x M', x ∈ xs → Hx h M M' → Q x M'
theorem hl__law_any : ∀ ds M Q E, zp__law_any ds M Q E → ds.length = 2 := fun ds M Q E h => by
  obtain ⟨d, _, _, rfl, _⟩ := h
  rfl
def zp_is_int : ZSp := fun ds M Q E => ∃ d, ds = [d] ∧ nice d = true ∧ Q (.v (.bl (isI d))) M
theorem hl_is_int : ∀ ds M Q E, zp_is_int ds M Q E → ds.length = 1 := fun ds M Q E h => by
  obtain ⟨d, rfl, _⟩ := h
  rfl
def zp_is_within : ZSp := fun ds M Q E => ∃ (d : D) (lo hi : Int), ds = [d, .v (.int lo), .v (.int hi)] ∧ nice d = true ∧ Q (.v (.bl (isW lo hi d))) M
theorem hl_is_within : ∀ ds M Q E, zp_is_within ds M Q E → ds.length = 3 := fun ds M Q E h => by
  obtain ⟨d, _, _, rfl, _⟩ := h
  rfl
theorem kit_self {K : PySem.W.Frag} (v : Value) : PySem.W.kitOne K v v = some true := by
  unfold PySem.W.kitOne
  rw [if_pos (by simp)]

def zp_check_size : ZSp := fun ds M Q E => ∃ s : Int, ds = [.v (.int s)] ∧ 2 ≤ s ∧ s ≤ 12 ∧ Q (.v .non) M
theorem hl_check_size : ∀ ds M Q E, zp_check_size ds M Q E → ds.length = 1 := fun ds M Q E h => by
  obtain ⟨d, rfl, _⟩ := h
  rfl
def zp_are_within : ZSp := fun ds M Q E => ∃ (lo hi : Int) (row : List Int), ds = [rowD row, .v (.int lo), .v (.int hi)] ∧ row.length ≤ 1000000 ∧ (∀ x ∈ row, lo ≤ x ∧ x ≤ hi) ∧ Q (.v (.bl true)) M
theorem hl_are_within : ∀ ds M Q E, zp_are_within ds M Q E → ds.length = 3 := fun ds M Q E h => by
  obtain ⟨d, _, _, rfl, _⟩ := h
  rfl
def zp_is_row : ZSp := fun ds M Q E => ∃ (size : Int) (row : List Int), ds = [.v (.int size), rowD row] ∧ row.length ≤ 1000000 ∧ (∀ x ∈ row, 0 ≤ x ∧ x < size) ∧ Q (.v (.bl true)) M
theorem hl_is_row : ∀ ds M Q E, zp_is_row ds M Q E → ds.length = 2 := fun ds M Q E h => by
  obtain ⟨d, _, rfl, _⟩ := h
  rfl
def keyD (p : Int × Int) : D := .tup [.v (.int p.1), .v (.int p.2)]
theorem keyOf_keyD {p : Int × Int} : keyOf (keyD p) = some (.tup [.num p.1, .num p.2]) := rfl
theorem keyB_keyD {p : Int × Int} : keyB (keyD p) = true := id (Eq.refl true)
theorem keyD_inj {p q : Int × Int} : (keyOf (keyD p) = keyOf (keyD q)) ↔ p = q := by
  rw [keyOf_keyD, keyOf_keyD]
  constructor
  · intro h
    simp only [Option.some.injEq, NestedKey.tup.injEq, List.cons.injEq, NestedKey.num.injEq, and_true] at h
    exact Prod.ext h.1 h.2
  · rintro rfl
    rfl
theorem nodup_lt : ∀ (n : Nat) (l : List Nat), l.Nodup → (∀ x ∈ l, x < n) → l.length ≤ n
  | 0, l, _, h => by
    cases l with
    | nil => exact Nat.le_refl _
    | cons a r => exact absurd (h a List.mem_cons_self) (Nat.not_lt_zero _)
  | n + 1, l, nd, h => by
    have key := nodup_lt n (l.filter fun x => decide (x ≠ n)) (nd.sublist List.filter_sublist) fun x hx => by
      have h1 := List.mem_filter.mp hx
      have h2 := h x h1.1
      have h3 : x ≠ n := of_decide_eq_true h1.2
      omega
    have : l.length ≤ (l.filter fun x => decide (x ≠ n)).length + 1 := by
      clear key h
      induction l with
      | nil => exact Nat.zero_le _
      | cons a r ih =>
        rw [List.nodup_cons] at nd
        rw [List.filter_cons]
        by_cases q : a = n
        · have er : r.filter (fun x => decide (x ≠ n)) = r := List.filter_eq_self.mpr fun x hx => decide_eq_true fun z => nd.1 (by rw [q, ← z]; exact hx)
          rw [if_neg (by simp [q]), er]
          exact Nat.le_refl _
        · rw [if_pos (by simp [q])]
          have := ih nd.2
          simp only [List.length_cons]
          omega
    omega
theorem rg_at {n : Int} {i : Nat} {d : D} (h : ((List.range n.toNat).map fun i => D.v (.int ((i : Nat) : Int)))[i]? = some d) : i < n.toNat ∧ d = .v (.int ((i : Nat) : Int)) := by
  rw [List.getElem?_map] at h
  by_cases hi : i < n.toNat
  · rw [List.getElem?_range hi] at h
    cases h
    exact ⟨hi, rfl⟩
  · rw [List.getElem?_eq_none (by simpa using hi)] at h
    cases h
theorem isW_in {lo hi x : Int} (h1 : lo ≤ x) (h2 : x ≤ hi) : isW lo hi (.v (.int x)) = true := by
  unfold isW
  simp
  omega
theorem row_at {row : List Int} {i : Nat} {x : Int} (h : row[i]? = some x) : atI (dInts row) i = some (.v (.int x)) := by
  rw [zat_nat, Zl.ints_get, h]
  rfl
theorem mput_none {M : MS} {p q : Addr} {o : MO} (h : mput M p o q = none) : q ≠ p ∧ M q = none := by
  by_cases e : q = p
  · rw [e, mput_same] at h; cases h
  · rw [mput_ne e] at h; exact ⟨e, h⟩
/-! ### drawing -/
theorem drw {h : Addr} {many : Int} {M : MS} {Q : ZQ} {E : ZX} (hH : Hd M h) (h0 : 0 < many) (h1 : many < 2 ^ 62) (k : ∀ (r : Int) M', Hx h M M' → 0 ≤ r → r < many → Q (.v (.int r)) M') : zp__law_draw [.v (.ref h), .v (.int many)] M Q E :=
  ⟨h, many, rfl, hH, h0, log2_small (by omega), k⟩
theorem anyof {h : Addr} {s : D} {xs : List D} {M : MS} {Q : ZQ} {E : ZX} (hH : Hd M h) (hs : s = .lst xs ∨ s = .tup xs) (h0 : xs ≠ []) (hl : xs.length ≤ sizeLine) (k : ∀ x M', x ∈ xs → Hx h M M' → Q x M') : zp__law_any [.v (.ref h), s] M Q E :=
  ⟨h, s, xs, rfl, hs, hH, h0, hl, k⟩
theorem drws {h : Addr} {i j : Nat} {size : Int} {δ : ZSt} {W : ZW} {Q : List D → MS → Prop} {M : MS} {ds : List D} (e0 : δ[0]? = some (some (.v (.ref h)))) (ej : δ[j]? = some (some (.v (.int size)))) (hi : i ≠ 0) (hj : i ≠ j)
    (hH : Hd M h) (h0 : 0 < size) (h1 : size < 2 ^ 62) (hl : ds.length ≤ sizeLine) (k : ∀ (row : List Int) M', row.length = ds.length → (∀ x ∈ row, 0 ≤ x ∧ x < size) → Hx h M M' → Q (dInts row) M') :
    zLcL (zgName i) zYes (zCall zp__law_draw W (zCons (zVar 0) (zCons (zVar j) zNil))) δ Q ds [] M := by
  refine zlc (fun n acc M' => ∃ row : List Int, acc = dInts row ∧ row.length = n ∧ (∀ x ∈ row, 0 ≤ x ∧ x < size) ∧ Hx h M M') hl ?_ ?_ ⟨[], rfl, rfl, (fun x hx => absurd hx List.not_mem_nil), Hx.rf hH⟩
  · rintro n d acc M' k1 k2 hd ⟨row, rfl, hn, hb, hx⟩ hk1 hk2
    unfold zgName zYes
    dsimp only
    rw [if_pos rfl]
    refine ⟨.v (.ref h), by rw [List.getElem?_set_ne hi]; exact e0, .v (.int size), by rw [List.getElem?_set_ne hj]; exact ej, ?_⟩
    show zp__law_draw [.v (.ref h), .v (.int size)] M' k1 (fun C fs M2 => W C fs (δ.set i (some d)) M2)
    refine drw hx.1 h0 h1 fun r M2 hx2 a b => ?_
    refine hk1 _ _ ⟨row ++ [r], by unfold dInts; simp, by rw [List.length_append, hn]; rfl, fun x hxm => ?_, hx.tr hx2⟩
    rcases List.mem_append.mp hxm with hxm | hxm
    · exact hb x hxm
    · rw [List.mem_singleton.mp hxm]; exact ⟨a, b⟩
  · rintro acc M' ⟨row, rfl, hn, hb, hx⟩ _
    exact k row M' hn hb hx
/-- a place where ways come together -/
theorem zsq {s1 s2 : ZS} {D : ZEnds} {δ : ZSt} {M : MS} (P : ZSt → MS → Prop) (h1 : ∀ N : ZSt → MS → Prop, (∀ δ M, P δ M → N δ M) → s1 { D with nx := N } δ M) (h2 : ∀ δ M, P δ M → s2 D δ M) : zSeq s1 s2 D δ M := h1 _ h2
theorem drwf {h : Addr} {i n : Nat} {c : Int} {δ : ZSt} {W : ZW} {Q : List D → MS → Prop} {M : MS} (e0 : δ[0]? = some (some (.v (.ref h)))) (hi : i ≠ 0) (hil : i < δ.length)
    (hH : Hd M h) (h0 : 0 < c) (h1 : c < 2 ^ 62) (hl : n ≤ sizeLine) (k : ∀ (ends : List Int) M', ends.Pairwise (· < ·) → (∀ x ∈ ends, 0 ≤ x ∧ x < n) → ends.length ≤ n → Hx h M M' → Q (dInts ends) M') :
    zLcL (zgName i) (bT (zOp zEq (zCall zp__law_draw W (zCons (zVar 0) (zCons (zC (.v (.int c))) zNil))) (zC (.v (.int 0))))) (zVar i) δ Q ((List.range n).map fun i => .v (.int (i : Nat))) [] M := by
  refine zlc (fun m acc M' => ∃ ends : List Int, acc = dInts ends ∧ ends.Pairwise (· < ·) ∧ (∀ x ∈ ends, 0 ≤ x ∧ x < m) ∧ ends.length ≤ m ∧ Hx h M M') (by rw [List.length_map, List.length_range]; exact hl) ?_ ?_ ⟨[], rfl, .nil, (fun x hx => absurd hx List.not_mem_nil), Nat.zero_le _, Hx.rf hH⟩
  · rintro m d acc M' k1 k2 hd ⟨ends, rfl, hp, hb, hn, hx⟩ hk1 hk2
    rw [List.getElem?_map] at hd
    have hm : m < n := by
      rcases Nat.lt_or_ge m n with q | q
      · exact q
      · rw [List.getElem?_eq_none (by simpa using q)] at hd; cases hd
    rw [List.getElem?_range hm] at hd
    cases hd
    unfold zgName
    refine ⟨.v (.ref h), by rw [List.getElem?_set_ne hi]; exact e0, ?_⟩
    refine ⟨h, c, rfl, hx.1, h0, log2_small (by omega), fun r M2 hx2 a b => ?_⟩
    dsimp only [zC]
    rw [e_eqI]
    dsimp only
    by_cases q : r = 0
    · rw [if_pos (decide_eq_true q)]
      refine ⟨.v (.int (m : Nat)), List.getElem?_set_self hil, hk1 _ _ ⟨ends ++ [(m : Int)], by unfold dInts; simp, ?_, fun x hxm => ?_, by rw [List.length_append, List.length_singleton]; omega, hx.tr hx2⟩⟩
      · refine List.pairwise_append.mpr ⟨hp, List.pairwise_singleton .., fun x hx y hy => ?_⟩
        rw [List.mem_singleton.mp hy]
        exact (hb x hx).2
      · rcases List.mem_append.mp hxm with hxm | hxm
        · have := hb x hxm; omega
        · rw [List.mem_singleton.mp hxm]; omega
    · rw [if_neg (by rw [decide_eq_false q]; decide)]
      exact hk2 _ ⟨ends, rfl, hp, fun x hxm => by have := hb x hxm; omega, by omega, hx.tr hx2⟩
  · rintro acc M' ⟨ends, rfl, hp, hb, hn, hx⟩ _
    rw [List.length_map, List.length_range] at hb hn
    exact k ends M' hp hb hn hx
theorem cut_nat {α : Type} {xs : List α} {a b : Nat} : Zl.cutD xs (some (a : Int)) (some (b : Int)) = (xs.take b).drop a := by
  unfold Zl.cutD
  rw [HT.sIx_nat, HT.sIx_nat]
  apply List.ext_getElem?
  intro i
  rw [List.getElem?_take, List.getElem?_drop, List.getElem?_drop, List.getElem?_take]
  by_cases h1 : a + i < xs.length
  · by_cases h2 : a + i < b
    · rw [if_pos (by omega), if_pos h2, show min a xs.length = a by omega]
    · rw [if_neg (by omega), if_neg h2]
  · rw [List.getElem?_eq_none (by omega : xs.length ≤ a + i), List.getElem?_eq_none (by omega)]
    split <;> split <;> rfl
theorem cut_to {α : Type} {xs : List α} {b : Nat} : Zl.cutD xs none (some (b : Int)) = xs.take b := by
  unfold Zl.cutD
  rw [HT.sIx_nat, HT.sIx_none]
  apply List.ext_getElem?
  intro i
  rw [List.getElem?_take, List.getElem?_drop, List.getElem?_take]
  by_cases h1 : i < xs.length
  · by_cases h2 : i < b
    · rw [if_pos (by omega), if_pos h2, Nat.zero_add]
    · rw [if_neg (by omega), if_neg h2]
  · rw [List.getElem?_eq_none (by omega : xs.length ≤ i), List.getElem?_eq_none (by omega)]
    split <;> split <;> rfl
theorem cut_from {α : Type} {xs : List α} {a : Nat} : Zl.cutD xs (some (a : Int)) none = xs.drop a := by
  unfold Zl.cutD
  rw [HT.sIx_nat, HT.sIx_none]
  apply List.ext_getElem?
  intro i
  rw [List.getElem?_take, List.getElem?_drop, List.getElem?_drop]
  by_cases h1 : a + i < xs.length
  · rw [if_pos (by omega), show min a xs.length = a by omega]
  · rw [List.getElem?_eq_none (by omega : xs.length ≤ a + i)]
    split
    · rw [List.getElem?_eq_none (by omega)]
    · rfl
theorem cutD_take2 {α : Type} {xs : List α} : Zl.cutD xs none (some 2) = xs.take 2 := cut_to (b := 2)
/-! ### arcs -/
open PySem.W (alike alikeAll dataLt dataLe AllAlike Sortable keyToks)
abbrev Arc : Type := Int × List Int × List Int × Int
def arcD (a : Arc) : D := .tup [.v (.int a.1), rowD a.2.1, rowD a.2.2.1, .v (.int a.2.2.2)]
def rowP (r : List Int) : PyData := .tuple (r.map PyData.int)
def arcP (a : Arc) : PyData := .tuple [.int a.1, rowP a.2.1, rowP a.2.2.1, .int a.2.2.2]
theorem toPys_ints : ∀ {r : List Int}, toPys (dInts r) = r.map PyData.int
  | [] => rfl
  | x :: r => by
    have ih := toPys_ints (r := r)
    unfold dInts at ih ⊢
    rw [List.map_cons, List.map_cons, ← ih]
    rfl
theorem toPy_row {r : List Int} : toPy (rowD r) = rowP r := by
  show PyData.tuple (toPys (dInts r)) = _
  rw [toPys_ints]
  rfl
theorem toPy_arc {a : Arc} : toPy (arcD a) = arcP a := by
  show PyData.tuple [.int a.1, toPy (rowD a.2.1), toPy (rowD a.2.2.1), .int a.2.2.2] = _
  rw [toPy_row, toPy_row]
  rfl
theorem plD_row {r : List Int} : plD (rowD r) = true := by
  show plDs (dInts r) = true
  induction r with
  | nil => rfl
  | cons x r ih => exact ih
theorem plD_arc {a : Arc} : plD (arcD a) = true := by
  show (true && (plD (rowD a.2.1) && (plD (rowD a.2.2.1) && (true && true)))) = true
  rw [plD_row, plD_row]
  rfl
theorem alike_ints : ∀ {r s : List Int}, alikeAll (r.map PyData.int) (s.map PyData.int) = true
  | [], s => by cases s <;> rfl
  | x :: r, [] => rfl
  | x :: r, y :: s => by
    show (alike (.int x) (.int y) && alikeAll (r.map PyData.int) (s.map PyData.int)) = true
    rw [alike_ints]
    rfl
theorem alike_row {r s : List Int} : alike (rowP r) (rowP s) = true := alike_ints
theorem alike_arc {a b : Arc} : alike (arcP a) (arcP b) = true := by
  show (alike (.int a.1) (.int b.1) && (alike (rowP a.2.1) (rowP b.2.1) && (alike (rowP a.2.2.1) (rowP b.2.2.1) && (alike (.int a.2.2.2) (.int b.2.2.2) && true)))) = true
  rw [alike_row, alike_row]
  rfl
theorem depth_ints : ∀ {r : List Int}, PyData.depthAll (r.map PyData.int) = 0
  | [] => rfl
  | x :: r => by
    show max (PyData.depth (.int x)) (PyData.depthAll (r.map PyData.int)) = 0
    rw [depth_ints]
    rfl
theorem depth_row {r : List Int} : (rowP r).depth = 1 := by
  show PyData.depthAll (r.map PyData.int) + 1 = 1
  rw [depth_ints]
theorem depth_arc {a : Arc} : (arcP a).depth ≤ 32 := by
  have h1 := depth_row (r := a.2.1)
  have h2 := depth_row (r := a.2.2.1)
  show max (PyData.depth (.int a.1)) (max (rowP a.2.1).depth (max (rowP a.2.2.1).depth (max (PyData.depth (.int a.2.2.2)) 0))) + 1 ≤ 32
  rw [h1, h2]
  show max 0 (max 1 (max 1 (max 0 0))) + 1 ≤ 32
  decide
def aLt (a b : Arc) : Bool := dataLt (arcP a) (arcP b)
theorem ltOk_arc {a b : Arc} : ltOk (arcD a) (arcD b) = true := by
  unfold ltOk
  rw [plD_arc, plD_arc, toPy_arc, toPy_arc, alike_arc, decide_eq_true depth_arc]
  rfl
theorem ltD_arc {a b : Arc} : ltD (arcD a) (arcD b) = aLt a b := by
  unfold ltD
  rw [toPy_arc, toPy_arc]
  rfl
theorem aLt_irrefl {a : Arc} : aLt a a = false := PyProof.Rows.lex_irrefl _
theorem aLt_trans {a b c : Arc} (h1 : aLt a b = true) (h2 : aLt b c = true) : aLt a c = true := PyProof.Rows.lex_trans _ _ _ h1 h2
theorem eqv_ints : ∀ {r s : List Int}, PyData.eqvAll (r.map PyData.int) (s.map PyData.int) = true → r = s
  | [], [], _ => rfl
  | [], y :: s, h => by cases h
  | x :: r, [], h => by cases h
  | x :: r, y :: s, h => by
    have h : (PyData.eqv (.int x) (.int y) && PyData.eqvAll (r.map PyData.int) (s.map PyData.int)) = true := by
      have := PySem.W.eqv_all_cons (.int x) (.int y) (r.map PyData.int) (s.map PyData.int)
      rw [← this]
      exact h
    obtain ⟨h1, h2⟩ := Bool.and_eq_true_iff.mp h
    have h1 : x = y := by simpa [PyData.eqv] using h1
    rw [h1, eqv_ints h2]
theorem arc_eqv {a b : Arc} (h : PyData.eqv (arcP a) (arcP b) = true) : a = b := by
  have h : (PyData.eqv (.int a.1) (.int b.1) && (PyData.eqv (rowP a.2.1) (rowP b.2.1) && (PyData.eqv (rowP a.2.2.1) (rowP b.2.2.1) && (PyData.eqv (.int a.2.2.2) (.int b.2.2.2) && true)))) = true := by
    have e : PyData.eqv (arcP a) (arcP b) = PyData.eqvAll [.int a.1, rowP a.2.1, rowP a.2.2.1, .int a.2.2.2] [.int b.1, rowP b.2.1, rowP b.2.2.1, .int b.2.2.2] := by
      unfold arcP
      rw [PyData.eqv]
    rw [e] at h
    simp only [PySem.W.eqv_all_cons] at h
    exact h
  simp only [Bool.and_eq_true] at h
  obtain ⟨h1, h2, h3, h4, _⟩ := h
  have h1 : a.1 = b.1 := by simpa [PyData.eqv] using h1
  have h4 : a.2.2.2 = b.2.2.2 := by simpa [PyData.eqv] using h4
  unfold rowP at h2 h3
  rw [PyData.eqv] at h2 h3
  exact Prod.ext h1 (Prod.ext (eqv_ints h2) (Prod.ext (eqv_ints h3) h4))
theorem aLt_total {a b : Arc} (h1 : aLt a b = false) (h2 : aLt b a = false) : a = b := by
  have e := PyProof.Rows.lex_total _ _ h1 h2
  cases q : PyData.eqv (arcP a) (arcP b) with
  | true => exact arc_eqv q
  | false =>
    exfalso
    have t := (PySem.W.toks_eqv (arcP a) (arcP b) alike_arc).2 q
    have t1 := t [] [.inl 0]
    have t2 := t [.inl 0] []
    rw [e] at t1 t2
    rw [PyProof.Rows.lex_irrefl] at t1 t2
    rw [PySem.W.lex_pre] at t1 t2
    cases t1
def sortA (l : List Arc) : List Arc := l.mergeSort fun a b => !aLt b a
theorem dataLe_arc {a b : Arc} : dataLe false toPy (arcD a) (arcD b) = !aLt b a := by
  show (!dataLt (toPy (arcD b)) (toPy (arcD a))) = _
  rw [toPy_arc, toPy_arc]
  rfl
theorem sortD_arc {l : List Arc} : sortD (l.map arcD) = (sortA l).map arcD := by
  show (l.map arcD).mergeSort (dataLe false toPy) = _
  exact (List.map_mergeSort (r := fun a b => !aLt b a) (s := dataLe false toPy) (f := arcD) fun a _ b _ => (dataLe_arc (a := a) (b := b)).symm).symm
theorem srtOk_arc {l : List Arc} (h : l.length ≤ sizeLine) : SrtOk (l.map arcD) := by
  refine ⟨fun d hd => ?_, fun d hd e he => ?_, .inl fun d hd => ?_, by rw [List.length_map]; exact h⟩
  · obtain ⟨a, _, rfl⟩ := List.mem_map.mp hd
    exact ⟨plD_arc, by rw [toPy_arc]; exact depth_arc⟩
  · rw [List.map_map] at hd he
    obtain ⟨a, _, rfl⟩ := List.mem_map.mp hd
    obtain ⟨b, _, rfl⟩ := List.mem_map.mp he
    show alike (toPy (arcD a)) (toPy (arcD b)) = true
    rw [toPy_arc, toPy_arc]
    exact alike_arc
  · rw [List.map_map] at hd
    obtain ⟨a, _, rfl⟩ := List.mem_map.mp hd
    exact ⟨.int a.1, _, toPy_arc⟩
theorem sortA_perm {l : List Arc} : (sortA l).Perm l := List.mergeSort_perm _ _
theorem sortA_len {l : List Arc} : (sortA l).length = l.length := sortA_perm.length_eq
theorem sortA_pw {l : List Arc} (h : l.Nodup) : (sortA l).Pairwise fun a b => aLt a b = true := by
  have h1 : (sortA l).Pairwise fun a b => (!aLt b a) = true := by
    refine List.pairwise_mergeSort (fun a b c h1 h2 => ?_) (fun a b => ?_) l
    · have h1 : aLt b a = false := by simpa using h1
      have h2 : aLt c b = false := by simpa using h2
      have : aLt c a = false := by
        cases q : aLt c a with
        | false => rfl
        | true =>
          rcases PyProof.Rows.lex_negTrans _ (keyToks (arcP b)) _ q with z | z
          · exact absurd (show aLt c b = true from z) (by rw [h2]; decide)
          · exact absurd (show aLt b a = true from z) (by rw [h1]; decide)
      rw [this]
      rfl
    · cases q : aLt a b with
      | false => simp
      | true =>
        cases r : aLt b a with
        | false => simp
        | true =>
          have := aLt_trans q r
          rw [aLt_irrefl] at this
          cases this
  have h2 : (sortA l).Nodup := sortA_perm.nodup_iff.mpr h
  refine (h1.and h2).imp fun {a b} ⟨h3, h4⟩ => ?_
  have h3 : aLt b a = false := by simpa using h3
  cases q : aLt a b with
  | true => rfl
  | false => exact absurd (aLt_total q h3) h4
theorem pw_nodup {l : List Arc} (h : l.Pairwise fun a b => aLt a b = true) : l.Nodup := h.imp fun {a b} h q => by
  rw [q, aLt_irrefl] at h
  cases h
/-! pairs -/
def pLt (p q : Int × Int) : Prop := p.1 < q.1 ∨ (p.1 = q.1 ∧ p.2 < q.2)
theorem ltOk_pair {p q : Int × Int} : ltOk (keyD p) (keyD q) = true := id (Eq.refl true)
theorem ltD_pair {p q : Int × Int} (h : pLt p q) : ltD (keyD p) (keyD q) = true := by
  show PyProof.Rows.lexLt PyProof.Rows.itemOrd (PySem.W.keyToksAll [.int p.1, .int p.2]) (PySem.W.keyToksAll [.int q.1, .int q.2]) = true
  by_cases e : p.1 = q.1
  · have h2 : p.2 < q.2 := by rcases h with h | h <;> omega
    have e1 : PyData.eqv (.int p.1) (.int q.1) = true := by simp [PyData.eqv, e]
    have e2 : PyData.eqv (.int p.2) (.int q.2) = false := by simp [PyData.eqv]; omega
    rw [PySem.W.dataLt_all_yes rfl e1, PySem.W.dataLt_all_no rfl e2, PySem.W.dataLt_int]
    exact decide_eq_true h2
  · have h2 : p.1 < q.1 := by rcases h with h | h <;> omega
    have e1 : PyData.eqv (.int p.1) (.int q.1) = false := by simp [PyData.eqv, e]
    rw [PySem.W.dataLt_all_no rfl e1, PySem.W.dataLt_int]
    exact decide_eq_true h2
/-! ### kinds -/
structure ArcOk (size many : Int) (a : Arc) : Prop where
  f0 : 0 ≤ a.1
  f1 : a.1 < many
  t0 : 0 ≤ a.2.2.2
  t1 : a.2.2.2 < many
  s : ∀ x ∈ a.2.1, 0 ≤ x ∧ x < size
  h : ∀ x ∈ a.2.2.1, 0 ≤ x ∧ x < size
  sl : a.2.1.length ≤ 2
  hl : a.2.2.1.length ≤ 2
  pos : 0 < a.2.1.length + a.2.2.1.length
structure KOk (size many : Int) (arcs : List Arc) (ends : List Int) : Prop where
  s1 : 2 ≤ size
  s2 : size ≤ 12
  m1 : 1 ≤ many
  m2 : many ≤ 400
  l : arcs.length ≤ 6000
  a : ∀ a ∈ arcs, ArcOk size many a
  srt : arcs.Pairwise fun a b => aLt a b = true
  e : ends.Pairwise (· < ·)
  eb : ∀ x ∈ ends, 0 ≤ x ∧ x < many
def turnA (a : Arc) : Arc := (a.1, a.2.2.1, a.2.1, a.2.2.2)
theorem turnA_inj {a b : Arc} (h : turnA a = turnA b) : a = b := by
  obtain ⟨a1, a2, a3, a4⟩ := a
  obtain ⟨b1, b2, b3, b4⟩ := b
  simp only [turnA, Prod.mk.injEq] at h
  obtain ⟨h1, h2, h3, h4⟩ := h
  rw [h1, h2, h3, h4]
theorem nodup_map {l : List Arc} (h : l.Nodup) : (l.map turnA).Nodup := by
  refine List.pairwise_map.mpr (h.imp fun {a b} h q => h (turnA_inj q))
theorem KOk.turned {size many : Int} {arcs : List Arc} {ends : List Int} (k : KOk size many arcs ends) : KOk size many (sortA (arcs.map turnA)) ends := by
  refine ⟨k.s1, k.s2, k.m1, k.m2, by rw [sortA_len, List.length_map]; exact k.l, fun a ha => ?_, sortA_pw (nodup_map (pw_nodup k.srt)), k.e, k.eb⟩
  obtain ⟨b, hb, rfl⟩ := List.mem_map.mp (sortA_perm.mem_iff.mp ha)
  obtain ⟨f0, f1, t0, t1, s, h, sl, hl, pos⟩ := k.a b hb
  exact ⟨f0, f1, t0, t1, h, s, hl, sl, by show 0 < b.2.2.1.length + b.2.1.length; omega⟩
/-! ### lags -/
abbrev Fnd : Type := List (Option Int)
def wA (a : Arc) : Int := (a.2.1.length : Int) - a.2.2.1.length
def at_ (f : Fnd) (i : Int) : Option Int := (f[i.toNat]?).getD none
def loopA (h : Int) : List Arc → Fnd → List Int → Option (Fnd × List Int)
  | [], f, s => some (f, s)
  | a :: as, f, s => match at_ f a.2.2.2 with
    | none => loopA h as (f.set a.2.2.2.toNat (some (h + wA a))) (s ++ [a.2.2.2])
    | some v => if v = h + wA a then loopA h as f s else none
theorem loopA_cons {h : Int} {a : Arc} {as : List Arc} {f : Fnd} {s : List Int} : loopA h (a :: as) f s = match at_ f a.2.2.2 with
    | none => loopA h as (f.set a.2.2.2.toNat (some (h + wA a))) (s ++ [a.2.2.2])
    | some v => if v = h + wA a then loopA h as f s else none := rfl
theorem loopA_app {h : Int} : ∀ {as bs : List Arc} {f : Fnd} {s : List Int}, loopA h (as ++ bs) f s = (loopA h as f s).bind fun p => loopA h bs p.1 p.2
  | [], _, _, _ => rfl
  | a :: as, bs, f, s => by
    rw [List.cons_append, loopA_cons, loopA_cons]
    cases at_ f a.2.2.2 with
    | none => exact loopA_app
    | some v =>
      dsimp only
      split
      · exact loopA_app
      · rfl
def outA (arcs : List Arc) (i : Int) : List Arc := arcs.filter fun a => decide (a.1 = i)
def dfs (arcs : List Arc) : Nat → Fnd → List Int → Option Fnd
  | 0, _, _ => none
  | n + 1, f, s => match s.getLast? with
    | none => some f
    | some here => match loopA ((at_ f here).getD 0) (outA arcs here) f s.dropLast with
      | none => none
      | some (f', s') => dfs arcs n f' s'
def f0 (many : Int) : Fnd := some 0 :: List.replicate (many.toNat - 1) none
def lagsO (many : Int) (arcs : List Arc) (ends : List Int) : Option Fnd := match dfs arcs 500 (f0 many) [0] with
  | none => none
  | some f => if ends.any (fun e => match at_ f e with | none => false | some v => decide (v ≠ 0)) = true then none else some f
/-- how many are not found yet -/
def nn (f : Fnd) : Nat := (f.filter (·.isNone)).length
theorem nn_set : ∀ {f : Fnd} {i : Nat} {v : Int}, f[i]? = some none → nn (f.set i (some v)) + 1 = nn f
  | [], i, v, h => by simp at h
  | x :: f, 0, v, h => by
    simp at h
    subst h
    simp [nn]
  | x :: f, i + 1, v, h => by
    have ih := nn_set (f := f) (i := i) (v := v) (by simpa using h)
    unfold nn at ih ⊢
    rw [List.set_cons_succ, List.filter_cons, List.filter_cons]
    split
    · rw [List.length_cons, List.length_cons]; omega
    · exact ih
theorem at_set {f : Fnd} {i j v : Int} (hi : 0 ≤ i) (hl : i.toNat < f.length) (hj : 0 ≤ j) : at_ (f.set i.toNat (some v)) j = if j = i then some v else at_ f j := by
  unfold at_
  by_cases q : j = i
  · subst q
    rw [if_pos rfl, List.getElem?_set_self hl]
    rfl
  · rw [if_neg q, List.getElem?_set_ne (by omega)]
/-- what the search keeps -/
structure LI (many : Int) (f : Fnd) (s : List Int) : Prop where
  len : f.length = many.toNat
  st : ∀ i ∈ s, 0 ≤ i ∧ i < many ∧ ∃ v, at_ f i = some v
theorem loopA_keep {size many h : Int} : ∀ {as : List Arc} {f : Fnd} {s : List Int}, (∀ a ∈ as, ArcOk size many a) → LI many f s → ∀ {f' : Fnd} {s' : List Int}, loopA h as f s = some (f', s') →
    LI many f' s' ∧ s'.length + nn f' = s.length + nn f ∧ (∀ i v, 0 ≤ i → at_ f i = some v → at_ f' i = some v) ∧ (∀ a ∈ as, at_ f' a.2.2.2 = some (h + wA a)) ∧
      (∀ i v, 0 ≤ i → at_ f' i = some v → at_ f i = some v ∨ (i ∈ s' ∧ ∃ a ∈ as, a.2.2.2 = i ∧ v = h + wA a)) ∧ (∀ i ∈ s, i ∈ s')
  | [], f, s, _, li, f', s', e => by
    cases e
    exact ⟨li, rfl, fun _ _ _ h => h, (fun a ha => nomatch ha), (fun i v _ h => .inl h), fun _ h => h⟩
  | a :: as, f, s, ha, li, f', s', e => by
    have hA := ha a List.mem_cons_self
    have t0 := hA.t0
    have t1 := hA.t1
    have hl : a.2.2.2.toNat < f.length := by rw [li.len]; omega
    unfold loopA at e
    cases q : at_ f a.2.2.2 with
    | none =>
      rw [q] at e
      have li2 : LI many (f.set a.2.2.2.toNat (some (h + wA a))) (s ++ [a.2.2.2]) := by
        refine ⟨by rw [List.length_set]; exact li.len, fun i hi => ?_⟩
        rcases List.mem_append.mp hi with hi | hi
        · obtain ⟨h1, h2, v, h3⟩ := li.st i hi
          refine ⟨h1, h2, ?_⟩
          rw [at_set t0 hl h1]
          split
          · exact ⟨_, rfl⟩
          · exact ⟨v, h3⟩
        · rw [List.mem_singleton.mp hi]
          exact ⟨t0, t1, _, by rw [at_set t0 hl t0, if_pos rfl]⟩
      obtain ⟨k1, k2, k3, k4, k5, k6⟩ := loopA_keep (fun b hb => ha b (List.mem_cons_of_mem _ hb)) li2 e
      have hn : f[a.2.2.2.toNat]? = some none := by
        unfold at_ at q
        rw [List.getElem?_eq_getElem hl] at q ⊢
        exact congrArg some q
      have := nn_set (v := h + wA a) hn
      refine ⟨k1, by rw [k2, List.length_append, List.length_singleton]; omega, fun i v hi hv => k3 i v hi ?_, fun b hb => ?_, fun i v hi hv => ?_, fun i hi => k6 i (List.mem_append_left _ hi)⟩
      · rw [at_set t0 hl hi, if_neg (fun z => by rw [z, q] at hv; cases hv)]
        exact hv
      · rcases List.mem_cons.mp hb with rfl | hb
        · exact k3 _ _ t0 (by rw [at_set t0 hl t0, if_pos rfl])
        · exact k4 b hb
      · rcases k5 i v hi hv with z | ⟨z, b, hb, h1, h2⟩
        · rw [at_set t0 hl hi] at z
          split at z
          · rename_i ei
            cases z
            exact .inr ⟨k6 _ (by rw [ei]; exact List.mem_append_right _ List.mem_cons_self), a, List.mem_cons_self, ei.symm, rfl⟩
          · exact .inl z
        · exact .inr ⟨z, b, List.mem_cons_of_mem _ hb, h1, h2⟩
    | some v =>
      rw [q] at e
      dsimp only at e
      split at e
      · rename_i hv
        obtain ⟨k1, k2, k3, k4, k5, k6⟩ := loopA_keep (fun b hb => ha b (List.mem_cons_of_mem _ hb)) li e
        refine ⟨k1, k2, k3, fun b hb => ?_, fun i v hi hv => ?_, k6⟩
        · rcases List.mem_cons.mp hb with rfl | hb
          · exact k3 _ _ t0 (by rw [q, hv])
          · exact k4 b hb
        · rcases k5 i v hi hv with z | ⟨z, b, hb, h1, h2⟩
          · exact .inl z
          · exact .inr ⟨z, b, List.mem_cons_of_mem _ hb, h1, h2⟩
      · cases e
/-- where ways lead, what they sum to -/
inductive Way (arcs : List Arc) : Int → Int → Prop
  | nil : Way arcs 0 0
  | step {i v : Int} {a : Arc} (h : Way arcs i v) (ha : a ∈ arcs) (e : a.1 = i) : Way arcs a.2.2.2 (v + wA a)
structure DI (many : Int) (arcs : List Arc) (f : Fnd) (s : List Int) : Prop extends LI many f s where
  z : at_ f 0 = some 0
  way : ∀ i v, 0 ≤ i → at_ f i = some v → Way arcs i v
  cl : ∀ i v, 0 ≤ i → at_ f i = some v → i ∈ s ∨ ∀ a ∈ arcs, a.1 = i → at_ f a.2.2.2 = some (v + wA a)
theorem mem_out {arcs : List Arc} {a : Arc} {i : Int} : a ∈ outA arcs i ↔ a ∈ arcs ∧ a.1 = i := by
  unfold outA
  rw [List.mem_filter, decide_eq_true_eq]
theorem dfs_step {size many : Int} {arcs : List Arc} (hA : ∀ a ∈ arcs, ArcOk size many a) {f : Fnd} {s : List Int} (d : DI many arcs f s) {here : Int} (e : s.getLast? = some here) {f' : Fnd} {s' : List Int}
    (h : loopA ((at_ f here).getD 0) (outA arcs here) f s.dropLast = some (f', s')) : DI many arcs f' s' ∧ s'.length + nn f' + 1 = s.length + nn f := by
  have hs : s = s.dropLast ++ [here] := by
    obtain ⟨ys, rfl⟩ := List.getLast?_eq_some_iff.mp e
    simp
  have hm : here ∈ s := by rw [hs]; simp
  obtain ⟨h0, h1, v, hv⟩ := d.st here hm
  have li : LI many f s.dropLast := ⟨d.len, fun i hi => d.st i (by rw [hs]; exact List.mem_append_left _ hi)⟩
  obtain ⟨k1, k2, k3, k4, k5, k6⟩ := loopA_keep (fun a ha => hA a (mem_out.mp ha).1) li h
  rw [hv] at k4 k5
  have len : s.length = s.dropLast.length + 1 := by rw [hs]; simp
  refine ⟨⟨k1, k3 0 0 (Int.le_refl 0) d.z, fun i w hi hw => ?_, fun i w hi hw => ?_⟩, by omega⟩
  · rcases k5 i w hi hw with z | ⟨_, a, ha, rfl, rfl⟩
    · exact d.way i w hi z
    · have ha := mem_out.mp ha
      exact .step (d.way here v h0 hv) ha.1 ha.2
  · rcases k5 i w hi hw with z | ⟨z, _⟩
    · rcases d.cl i w hi z with y | y
      · rw [hs] at y
        rcases List.mem_append.mp y with y | y
        · exact .inl (k6 i y)
        · rw [List.mem_singleton.mp y] at z ⊢
          rw [hv] at z
          cases z
          exact .inr fun a ha ea => k4 a (mem_out.mpr ⟨ha, ea⟩)
      · exact .inr fun a ha ea => k3 _ _ (hA a ha).t0 (y a ha ea)
    · exact .inl z
theorem dfs_ok {size many : Int} {arcs : List Arc} (hA : ∀ a ∈ arcs, ArcOk size many a) : ∀ (n : Nat) {f : Fnd} {s : List Int}, DI many arcs f s → ∀ {g : Fnd}, dfs arcs n f s = some g → DI many arcs g []
  | 0, f, s, d, g, e => by cases e
  | n + 1, f, s, d, g, e => by
    unfold dfs at e
    cases q : s.getLast? with
    | none =>
      rw [q] at e
      cases e
      rw [List.getLast?_eq_none_iff.mp q] at d
      exact d
    | some here =>
      rw [q] at e
      dsimp only at e
      cases r : loopA ((at_ f here).getD 0) (outA arcs here) f s.dropLast with
      | none => rw [r] at e; cases e
      | some p =>
        rw [r] at e
        exact dfs_ok hA n (dfs_step hA d q r).1 e
/-- a number at each state, so that each arc adds its own -/
def Pot (arcs : List Arc) (p : Int → Int) : Prop := ∀ i v, Way arcs i v → v = p i
theorem loopA_pot {size many h : Int} {arcs : List Arc} {p : Int → Int} (hp : Pot arcs p) {here : Int} (hw : Way arcs here h) : ∀ {as : List Arc} {f : Fnd} {s : List Int}, (∀ a ∈ as, ArcOk size many a ∧ a ∈ arcs ∧ a.1 = here) → f.length = many.toNat → (∀ i v, 0 ≤ i → at_ f i = some v → v = p i) → loopA h as f s ≠ none
  | [], f, s, _, _, _ => fun z => by cases z
  | a :: as, f, s, ha, hl, hf => by
    obtain ⟨hA, hm, ea⟩ := ha a List.mem_cons_self
    have t0 := hA.t0
    have t1 := hA.t1
    have hpa : h + wA a = p a.2.2.2 := hp _ _ (.step hw hm ea)
    unfold loopA
    cases q : at_ f a.2.2.2 with
    | none =>
      dsimp only
      refine loopA_pot hp hw (fun b hb => ha b (List.mem_cons_of_mem _ hb)) (by rw [List.length_set]; exact hl) fun i v hi hv => ?_
      rw [at_set t0 (by omega) hi] at hv
      split at hv
      · rename_i ei
        cases hv
        rw [ei]
        exact hpa
      · exact hf i v hi hv
    | some v =>
      dsimp only
      rw [if_pos (by rw [hf _ _ t0 q, hpa])]
      exact loopA_pot hp hw (fun b hb => ha b (List.mem_cons_of_mem _ hb)) hl hf
theorem dfs_pot {size many : Int} {arcs : List Arc} (hA : ∀ a ∈ arcs, ArcOk size many a) {p : Int → Int} (hp : Pot arcs p) : ∀ (n : Nat) {f : Fnd} {s : List Int}, DI many arcs f s → s.length + nn f < n → dfs arcs n f s ≠ none
  | 0, f, s, d, h => by omega
  | n + 1, f, s, d, h => by
    unfold dfs
    cases q : s.getLast? with
    | none => exact fun z => by cases z
    | some here =>
      dsimp only
      have hm : here ∈ s := List.mem_of_getLast? q
      obtain ⟨h0, h1, v, hv⟩ := d.st here hm
      cases r : loopA ((at_ f here).getD 0) (outA arcs here) f s.dropLast with
      | none =>
        exfalso
        rw [hv] at r
        exact loopA_pot hp (d.way here v h0 hv) (fun a ha => ⟨hA a (mem_out.mp ha).1, (mem_out.mp ha).1, (mem_out.mp ha).2⟩) d.len (fun i w hi hw => hp i w (d.way i w hi hw)) r
      | some g =>
        dsimp only
        obtain ⟨d2, k⟩ := dfs_step hA d q r
        exact dfs_pot hA hp n d2 (by omega)
theorem nn_rep {n : Nat} : nn (List.replicate n none) = n := by
  induction n with
  | zero => rfl
  | succ n ih =>
    unfold nn at ih ⊢
    rw [List.replicate_succ, List.filter_cons]
    simp only [Option.isNone_none, if_true, List.length_cons, ih]
theorem nn_f0 {many : Int} : nn (f0 many) = many.toNat - 1 := by
  have h := nn_rep (n := many.toNat - 1)
  unfold nn at h ⊢
  unfold f0
  rw [List.filter_cons]
  exact h
theorem at_f0 {many i v : Int} (h0 : 0 ≤ i) (h : at_ (f0 many) i = some v) : i = 0 ∧ v = 0 := by
  unfold at_ f0 at h
  obtain ⟨j, rfl⟩ := Int.eq_ofNat_of_zero_le h0
  cases j with
  | zero => simp at h; exact ⟨rfl, h.symm⟩
  | succ j =>
    exfalso
    rw [Int.toNat_natCast, List.getElem?_cons_succ, List.getElem?_replicate] at h
    split at h <;> cases h
theorem DI.start {many : Int} {arcs : List Arc} (hm : 1 ≤ many) : DI many arcs (f0 many) [0] := by
  refine ⟨⟨by unfold f0; rw [List.length_cons, List.length_replicate]; omega, fun i hi => ?_⟩, rfl, fun i v h0 h => ?_, fun i v h0 h => ?_⟩
  · rw [List.mem_singleton.mp hi]
    exact ⟨Int.le_refl 0, by omega, 0, rfl⟩
  · obtain ⟨rfl, rfl⟩ := at_f0 h0 h
    exact .nil
  · obtain ⟨rfl, rfl⟩ := at_f0 h0 h
    exact .inl List.mem_cons_self
theorem DI.pot {many : Int} {arcs : List Arc} {f : Fnd} (d : DI many arcs f []) (hA : ∀ a ∈ arcs, 0 ≤ a.2.2.2) : ∀ i v, Way arcs i v → 0 ≤ i ∧ at_ f i = some v := by
  intro i v h
  induction h with
  | nil => exact ⟨Int.le_refl 0, d.z⟩
  | step h ha e ih =>
    refine ⟨hA _ ha, ?_⟩
    rcases d.cl _ _ ih.1 ih.2 with z | z
    · cases z
    · exact z _ ha e
theorem way_turn {arcs brcs : List Arc} (h : ∀ a ∈ arcs, turnA a ∈ brcs) {i v : Int} (w : Way arcs i v) : Way brcs i (-v) := by
  induction w with
  | nil => exact .nil
  | @step i v a _ ha e ih =>
    have := Way.step ih (h a ha) (show (turnA a).1 = i from e)
    have ew : -v + wA (turnA a) = -(v + wA a) := by
      unfold wA turnA
      dsimp only
      omega
    rw [ew] at this
    exact this
def negF (f : Fnd) : Fnd := f.map fun o => o.map fun v => -v
theorem at_neg {f : Fnd} {i : Int} : at_ (negF f) i = (at_ f i).map fun v => -v := by
  unfold at_ negF
  rw [List.getElem?_map]
  cases f[i.toNat]? with
  | none => rfl
  | some o => rfl
theorem fnd_ext {f g : Fnd} {n : Nat} (h1 : f.length = n) (h2 : g.length = n) (h : ∀ i v, 0 ≤ i → (at_ f i = some v ↔ at_ g i = some v)) : f = g := by
  apply List.ext_getElem?
  intro j
  by_cases hj : j < n
  · have h := fun v => h j v (by omega)
    unfold at_ at h
    rw [Int.toNat_natCast, List.getElem?_eq_getElem (by omega), List.getElem?_eq_getElem (by omega)] at h
    rw [List.getElem?_eq_getElem (by omega), List.getElem?_eq_getElem (by omega)]
    have h : ∀ v, f[j] = some v ↔ g[j] = some v := h
    cases e : f[j] with
    | none =>
      cases e2 : g[j] with
      | none => rfl
      | some v => rw [(h v).mpr e2] at e; cases e
    | some v => rw [(h v).mp e]
  · rw [List.getElem?_eq_none (by omega), List.getElem?_eq_none (by omega)]
theorem dfs_turn {size many : Int} {arcs : List Arc} {ends : List Int} (k : KOk size many arcs ends) {f : Fnd} (h : dfs arcs 500 (f0 many) [0] = some f) : dfs (sortA (arcs.map turnA)) 500 (f0 many) [0] = some (negF f) := by
  have m1 := k.m1
  have m2 := k.m2
  have d := dfs_ok k.a 500 (DI.start m1) h
  have hp := d.pot fun a ha => (k.a a ha).t0
  have mem1 : ∀ a ∈ arcs, turnA a ∈ sortA (arcs.map turnA) := fun a ha => sortA_perm.mem_iff.mpr (List.mem_map.mpr ⟨a, ha, rfl⟩)
  have mem2 : ∀ b ∈ sortA (arcs.map turnA), turnA b ∈ arcs := fun b hb => by
    obtain ⟨a, ha, rfl⟩ := List.mem_map.mp (sortA_perm.mem_iff.mp hb)
    exact ha
  have pot : Pot (sortA (arcs.map turnA)) fun i => -((at_ f i).getD 0) := fun i v w => by
    have := (hp i _ (way_turn mem2 w)).2
    show v = -((at_ f i).getD 0)
    rw [this]
    show v = - -v
    omega
  have ne := dfs_pot k.turned.a pot 500 (DI.start m1) (by rw [nn_f0]; simp; omega)
  cases e : dfs (sortA (arcs.map turnA)) 500 (f0 many) [0] with
  | none => exact absurd e ne
  | some g =>
    have d2 := dfs_ok k.turned.a 500 (DI.start m1) e
    have hp2 := d2.pot fun a ha => (k.turned.a a ha).t0
    refine congrArg some (fnd_ext d2.len (by unfold negF; rw [List.length_map]; exact d.len) fun i v hi => ?_)
    rw [at_neg]
    constructor
    · intro z
      have := (hp i _ (way_turn mem2 (d2.way i v hi z))).2
      rw [this]
      show some (- -v) = some v
      rw [Int.neg_neg]
    · intro z
      obtain ⟨u, hu, rfl⟩ := Option.map_eq_some_iff.mp z
      exact (hp2 i _ (way_turn mem1 (d.way i u hi hu))).2
theorem lags_turn {size many : Int} {arcs : List Arc} {ends : List Int} (k : KOk size many arcs ends) : lagsO many (sortA (arcs.map turnA)) ends = (lagsO many arcs ends).map negF := by
  have k2 := k.turned
  have tt : sortA ((sortA (arcs.map turnA)).map turnA) = arcs := by
    have perm : (sortA ((sortA (arcs.map turnA)).map turnA)).Perm arcs := by
      refine sortA_perm.trans ((sortA_perm.map turnA).trans ?_)
      rw [List.map_map]
      have : (turnA ∘ turnA) = id := rfl
      rw [this, List.map_id]
    refine perm.eq_of_pairwise (le := fun a b => aLt a b = true) (fun a b _ _ h1 h2 => ?_) (sortA_pw (nodup_map (pw_nodup k2.srt))) k.srt
    have := aLt_trans h1 h2
    rw [aLt_irrefl] at this
    cases this
  unfold lagsO
  cases e : dfs arcs 500 (f0 many) [0] with
  | none =>
    cases e2 : dfs (sortA (arcs.map turnA)) 500 (f0 many) [0] with
    | none => rfl
    | some g =>
      have := dfs_turn k2 e2
      rw [tt, e] at this
      cases this
  | some f =>
    rw [dfs_turn k e]
    dsimp only
    have ea : (ends.any fun e => match at_ (negF f) e with | none => false | some v => decide (v ≠ 0)) = ends.any fun e => match at_ f e with | none => false | some v => decide (v ≠ 0) := by
      congr 1
      funext x
      rw [at_neg]
      cases at_ f x with
      | none => rfl
      | some v =>
        show decide (-v ≠ 0) = decide (v ≠ 0)
        exact decide_eq_decide.mpr (by omega)
    rw [ea]
    split <;> rfl
/-! ### promises -/
def zp_is_arc : ZSp := fun ds M Q E => ∃ (size many : Int) (a : Arc), ds = [.v (.int size), .v (.int many), arcD a] ∧ ArcOk size many a ∧ Q (.v (.bl true)) M
theorem hl_is_arc : ∀ ds M Q E, zp_is_arc ds M Q E → ds.length = 3 := fun ds M Q E h => by
  obtain ⟨_, _, _, rfl, _⟩ := h
  rfl
def arcsD (arcs : List Arc) : D := .tup (arcs.map arcD)
def kinF (size many arcs ends : D) : List (Str × D) := [("size", size), ("many", many), ("arcs", arcs), ("ends", ends)]
theorem knP1 {a : D} : putD "size" a [] = [(("size" : Str), a)] := rfl
theorem knP2 {a b : D} : putD "many" b [(("size" : Str), a)] = [(("size" : Str), a), (("many" : Str), b)] := rfl
theorem knP3 {a b c : D} : putD "arcs" c [(("size" : Str), a), (("many" : Str), b)] = [(("size" : Str), a), (("many" : Str), b), (("arcs" : Str), c)] := rfl
theorem knP4 {a b c d : D} : putD "ends" d [(("size" : Str), a), (("many" : Str), b), (("arcs" : Str), c)] = kinF a b c d := rfl
theorem knL1 {a b c d : D} : (kinF a b c d).lookup ("size" : Str) = some a := rfl
theorem knL2 {a b c d : D} : (kinF a b c d).lookup ("many" : Str) = some b := rfl
theorem knL3 {a b c d : D} : (kinF a b c d).lookup ("arcs" : Str) = some c := rfl
theorem knL4 {a b c d : D} : (kinF a b c d).lookup ("ends" : Str) = some d := rfl
abbrev kinD (K : PySem.W.Frag) (size many : Int) (arcs : List Arc) (ends : List Int) : D := .ins (He.ga K "Kind") (kinF (.v (.int size)) (.v (.int many)) (arcsD arcs) (rowD ends))
def zp_Kind___init__ (K : PySem.W.Frag) : ZSp := fun ds M Q E => ∃ (x dx : Addr) (size many : Int) (arcs : List Arc) (ends : List Int), ds = [.v (.ref x), .v (.int size), .v (.int many), arcsD arcs, rowD ends] ∧ M x = some (.ins (He.ga K "Kind") dx []) ∧ KOk size many arcs ends ∧
  Q (.v .non) (mput M x (.ins (He.ga K "Kind") dx (kinF (.v (.int size)) (.v (.int many)) (arcsD arcs) (rowD ends))))
theorem hl_Kind___init__ {K : PySem.W.Frag} : ∀ ds M Q E, zp_Kind___init__ K ds M Q E → ds.length = 5 := fun ds M Q E h => by
  obtain ⟨_, _, _, _, _, _, rfl, _⟩ := h
  rfl
def zp_Kind (K : PySem.W.Frag) : ZSp := fun ds M Q E => ∃ (size many : Int) (arcs : List Arc) (ends : List Int), ds = [.v (.int size), .v (.int many), arcsD arcs, rowD ends] ∧ KOk size many arcs ends ∧ Q (kinD K size many arcs ends) M
theorem mk_Kind {K : PySem.W.Frag} : MakesAs (He.ga K "Kind") (zp_Kind___init__ K) (zp_Kind K) := fun ds M Q E ⟨size, many, arcs, ends, e, h, k⟩ x dx hx => by
  subst e
  refine ⟨x, dx, size, many, arcs, ends, rfl, mput_same, h, rfl, _, mput_same, ?_⟩
  rw [mput_mput, mdel_mput hx]
  exact k
def zp_check_kind (K : PySem.W.Frag) : ZSp := fun ds M Q E => ∃ d, ds = [d] ∧ ((∃ size many arcs ends, d = kinD K size many arcs ends ∧ Q (.v .non) M) ∨ (nice d = true ∧ E (He.ga K "NoKind") [] M))
theorem hl_check_kind {K : PySem.W.Frag} : ∀ ds M Q E, zp_check_kind K ds M Q E → ds.length = 1 := fun ds M Q E h => by
  obtain ⟨_, rfl, _⟩ := h
  rfl
def lvA (a : Arc) : Bool := decide (a.2.1.length = 1) && decide (a.2.2.1.length = 1)
def zp_is_level (K : PySem.W.Frag) : ZSp := fun ds M Q E => ∃ (size many : Int) (arcs : List Arc) (ends : List Int), ds = [kinD K size many arcs ends] ∧ KOk size many arcs ends ∧ Q (.v (.bl (arcs.all lvA))) M
theorem hl_is_level {K : PySem.W.Frag} : ∀ ds M Q E, zp_is_level K ds M Q E → ds.length = 1 := fun ds M Q E h => by
  obtain ⟨_, _, _, _, rfl, _⟩ := h
  rfl
abbrev zp_is_level_kind := zp_is_level
theorem hl_is_level_kind {K : PySem.W.Frag} : ∀ ds M Q E, zp_is_level_kind K ds M Q E → ds.length = 1 := hl_is_level
def keptA (size st : Int) : List Arc := (List.range size.toNat).map fun (s : Nat) => (st, [(s : Int)], [(s : Int)], st)
def zp_kept_arcs : ZSp := fun ds M Q E => ∃ size st : Int, ds = [.v (.int size), .v (.int st)] ∧ 2 ≤ size ∧ size ≤ 12 ∧ Q (.lst ((keptA size st).map arcD)) M
theorem hl_kept_arcs : ∀ ds M Q E, zp_kept_arcs ds M Q E → ds.length = 2 := fun ds M Q E h => by
  obtain ⟨_, _, rfl, _⟩ := h
  rfl
/-- the pairs of a sign and another one -/
def oneP (n a : Nat) : List (Int × Int) := ((List.range n).filter fun b => decide (b ≠ a)).map fun (b : Nat) => ((a : Int), (b : Int))
def upP (n k : Nat) : List (Int × Int) := (List.range k).flatMap (oneP n)
def zp_unlike_pairs : ZSp := fun ds M Q E => ∃ size : Int, ds = [.v (.int size)] ∧ 2 ≤ size ∧ size ≤ 12 ∧ ∀ M', Kp M M' → Q (.lst ((upP size.toNat size.toNat).map keyD)) M'
theorem hl_unlike_pairs : ∀ ds M Q E, zp_unlike_pairs ds M Q E → ds.length = 1 := fun ds M Q E h => by
  obtain ⟨_, rfl, _⟩ := h
  rfl
/-- a kind of that size -/
def anyK (K : PySem.W.Frag) (size : Int) (M : MS) (Q : ZQ) : Prop := ∀ many arcs ends M', KOk size many arcs ends → Kp M M' → Q (kinD K size many arcs ends) M'
def zp_two_signs (K : PySem.W.Frag) : ZSp := fun ds M Q E => ∃ (size far : Int) (b : Bool), ds = [.v (.int size), .v (.int far), .v (.bl b)] ∧ 2 ≤ size ∧ size ≤ 12 ∧ 1 ≤ far ∧ far ≤ 2 ∧ anyK K size M Q
theorem hl_two_signs {K : PySem.W.Frag} : ∀ ds M Q E, zp_two_signs K ds M Q E → ds.length = 3 := fun ds M Q E h => by
  obtain ⟨_, _, _, rfl, _⟩ := h
  rfl
def zp_exchanged (K : PySem.W.Frag) : ZSp := fun ds M Q E => ∃ (size far : Int), ds = [.v (.int size), .v (.int far)] ∧ 2 ≤ size ∧ size ≤ 12 ∧ 1 ≤ far ∧ far ≤ 2 ∧ anyK K size M Q
theorem hl_exchanged {K : PySem.W.Frag} : ∀ ds M Q E, zp_exchanged K ds M Q E → ds.length = 2 := fun ds M Q E h => by
  obtain ⟨_, _, rfl, _⟩ := h
  rfl
def zp_made1 (K : PySem.W.Frag) : ZSp := fun ds M Q E => ∃ size : Int, ds = [.v (.int size)] ∧ 2 ≤ size ∧ size ≤ 12 ∧ anyK K size M Q
theorem hl_made1 {K : PySem.W.Frag} : ∀ ds M Q E, zp_made1 K ds M Q E → ds.length = 1 := fun ds M Q E h => by
  obtain ⟨_, rfl, _⟩ := h
  rfl
/-- pairs of unlike signs, ascending -/
structure PsOk (size : Int) (ps : List (Int × Int)) : Prop where
  b : ∀ p ∈ ps, 0 ≤ p.1 ∧ p.1 < size ∧ 0 ≤ p.2 ∧ p.2 < size ∧ p.1 ≠ p.2
  s : ps.Pairwise pLt
  l : ps.length ≤ 200
def zp_is_pair : ZSp := fun ds M Q E => ∃ (size : Int) (p : Int × Int), ds = [.v (.int size), keyD p] ∧ 0 ≤ p.1 ∧ p.1 < size ∧ 0 ≤ p.2 ∧ p.2 < size ∧ p.1 ≠ p.2 ∧ Q (.v (.bl true)) M
theorem hl_is_pair : ∀ ds M Q E, zp_is_pair ds M Q E → ds.length = 2 := fun ds M Q E h => by
  obtain ⟨_, _, rfl, _⟩ := h
  rfl
def pairsD (ps : List (Int × Int)) : D := .tup (ps.map keyD)
def zp_check_pairs : ZSp := fun ds M Q E => ∃ (size : Int) (ps : List (Int × Int)), ds = [.v (.int size), pairsD ps] ∧ PsOk size ps ∧ Q (.v .non) M
theorem hl_check_pairs : ∀ ds M Q E, zp_check_pairs ds M Q E → ds.length = 2 := fun ds M Q E h => by
  obtain ⟨_, _, rfl, _⟩ := h
  rfl
/-- what is heard of what at one place: no sign said and heard alike -/
abbrev Hrd : Type := List Int × List Int
def hrdD (h : Hrd) : D := .tup [rowD h.1, rowD h.2]
structure HrOk (size : Int) (hs : List Hrd) : Prop where
  b : ∀ h ∈ hs, (∀ x ∈ h.1, 0 ≤ x ∧ x < size) ∧ (∀ x ∈ h.2, 0 ≤ x ∧ x < size) ∧ h.1.length ≤ 2 ∧ h.2.length ≤ 2 ∧ 0 < h.1.length + h.2.length
  nd : hs.Nodup
  l : hs.length ≤ 1000
def hrA (h : Hrd) : Arc := (0, h.1, h.2, 1)
/-- the arcs of what is heard at one place -/
def placeA (size : Int) (hs : List Hrd) : List Arc := sortA (keptA size 0 ++ keptA size 1 ++ hs.map hrA)
def pairsH (ps : List (Int × Int)) : List Hrd := ps.map fun p => ([p.1], [p.2])
def signsH (size : Int) (f : Int → Hrd) : List Hrd := (List.range size.toNat).map fun (s : Nat) => f s
def zp_at_one_place (K : PySem.W.Frag) : ZSp := fun ds M Q E => ∃ (size : Int) (hs : List Hrd), ds = [.v (.int size), .lst (hs.map hrdD)] ∧ 2 ≤ size ∧ size ≤ 12 ∧ HrOk size hs ∧ Q (kinD K size 2 (placeA size hs) [1]) M
theorem hl_at_one_place {K : PySem.W.Frag} : ∀ ds M Q E, zp_at_one_place K ds M Q E → ds.length = 2 := fun ds M Q E h => by
  obtain ⟨_, _, rfl, _⟩ := h
  rfl
def zp_misheard (K : PySem.W.Frag) : ZSp := fun ds M Q E => ∃ (size : Int) (ps : List (Int × Int)), ds = [.v (.int size), pairsD ps] ∧ 2 ≤ size ∧ size ≤ 12 ∧ PsOk size ps ∧ Q (kinD K size 2 (placeA size (pairsH ps)) [1]) M
theorem hl_misheard {K : PySem.W.Frag} : ∀ ds M Q E, zp_misheard K ds M Q E → ds.length = 2 := fun ds M Q E h => by
  obtain ⟨_, _, rfl, _⟩ := h
  rfl
def zp_any_sign (K : PySem.W.Frag) : ZSp := fun ds M Q E => ∃ size : Int, ds = [.v (.int size)] ∧ 2 ≤ size ∧ size ≤ 12 ∧ ∀ M', Kp M M' → Q (kinD K size 2 (placeA size (pairsH (upP size.toNat size.toNat))) [1]) M'
theorem hl_any_sign {K : PySem.W.Frag} : ∀ ds M Q E, zp_any_sign K ds M Q E → ds.length = 1 := fun ds M Q E h => by
  obtain ⟨_, rfl, _⟩ := h
  rfl
def zp_signs (f : Int → Hrd) (K : PySem.W.Frag) : ZSp := fun ds M Q E => ∃ size : Int, ds = [.v (.int size)] ∧ 2 ≤ size ∧ size ≤ 12 ∧ Q (kinD K size 2 (placeA size (signsH size f)) [1]) M
theorem hl_signs {f : Int → Hrd} {K : PySem.W.Frag} : ∀ ds M Q E, zp_signs f K ds M Q E → ds.length = 1 := fun ds M Q E h => by
  obtain ⟨_, rfl, _⟩ := h
  rfl
abbrev zp_left_out := zp_signs fun s => ([s], [])
abbrev zp_put_in := zp_signs fun s => ([], [s])
abbrev zp_doubled := zp_signs fun s => ([s], [s, s])
def zp_turned (K : PySem.W.Frag) : ZSp := fun ds M Q E => ∃ (size many : Int) (arcs : List Arc) (ends : List Int), ds = [kinD K size many arcs ends] ∧ KOk size many arcs ends ∧ Q (kinD K size many (sortA (arcs.map turnA)) ends) M
theorem hl_turned {K : PySem.W.Frag} : ∀ ds M Q E, zp_turned K ds M Q E → ds.length = 1 := fun ds M Q E h => by
  obtain ⟨_, _, _, _, rfl, _⟩ := h
  rfl
def bkD (many : Int) (arcs : List Arc) : List (Key × D) := (List.range many.toNat).map fun (i : Nat) => (.inl (i : Int), .lst ((outA arcs i).map arcD))
def zp_arcs_of (K : PySem.W.Frag) : ZSp := fun ds M Q E => ∃ (size many : Int) (arcs : List Arc) (ends : List Int), ds = [kinD K size many arcs ends] ∧ KOk size many arcs ends ∧ ∀ M', Kp M M' → Q (.dct (bkD many arcs)) M'
theorem hl_arcs_of {K : PySem.W.Frag} : ∀ ds M Q E, zp_arcs_of K ds M Q E → ds.length = 1 := fun ds M Q E h => by
  obtain ⟨_, _, _, _, rfl, _⟩ := h
  rfl
def optI : Option Int → D
  | none => .v .non
  | some v => .v (.int v)
def fndD (f : Fnd) : D := .tup (f.map optI)
def lagD : Option Fnd → D
  | none => .v .non
  | some f => fndD f
def zp_lags (K : PySem.W.Frag) : ZSp := fun ds M Q E => ∃ d, ds = [d] ∧ ((∃ (size many : Int) (arcs : List Arc) (ends : List Int), d = kinD K size many arcs ends ∧ KOk size many arcs ends ∧ ∀ M', Kp M M' → Q (lagD (lagsO many arcs ends)) M') ∨ (nice d = true ∧ E (He.ga K "NoKind") [] M))
theorem hl_lags {K : PySem.W.Frag} : ∀ ds M Q E, zp_lags K ds M Q E → ds.length = 1 := fun ds M Q E h => by
  obtain ⟨_, rfl, _⟩ := h
  rfl
abbrev kpD (size many : Int) (arcs : List Arc) (ends : List Int) : D := .tup [.v (.int size), .v (.int many), arcsD arcs, rowD ends]
def zp__law_lags : ZSp := fun ds M Q E => ∃ (size many : Int) (arcs : List Arc) (ends : List Int), ds = [kpD size many arcs ends] ∧ KOk size many arcs ends ∧ ∀ M', Kp M M' → Q (lagD (lagsO many arcs ends)) M'
theorem hl__law_lags : ∀ ds M Q E, zp__law_lags ds M Q E → ds.length = 1 := fun ds M Q E h => by
  obtain ⟨_, _, _, _, rfl, _⟩ := h
  rfl
/-- None, a number, or a row of these -/
inductive Sm : Nat → D → Prop
  | non {n : Nat} : Sm n (.v .non)
  | int {n : Nat} {i : Int} : Sm n (.v (.int i))
  | tup {n : Nat} {ds : List D} (hl : ds.length ≤ 10000) (h : ∀ d ∈ ds, Sm n d) : Sm (n + 1) (.tup ds)
def zp__law_same : Nat → ZSp
  | 0 => zpNo
  | n + 1 => fun ds M Q E => ∃ d, ds = [d, d] ∧ Sm n d ∧ n ≤ 20 ∧ Q (.v (.bl true)) M
theorem hl__law_same {n : Nat} : ∀ ds M Q E, zp__law_same (n + 1) ds M Q E → ds.length = 2 := fun ds M Q E h => by
  obtain ⟨d, rfl, _⟩ := h
  rfl
def zp__law_kind (K : PySem.W.Frag) : ZSp := fun ds M Q E => ∃ (size many : Int) (arcs : List Arc) (ends : List Int), ds = [kpD size many arcs ends] ∧ KOk size many arcs ends ∧ Q (kinD K size many arcs ends) M
theorem hl__law_kind {K : PySem.W.Frag} : ∀ ds M Q E, zp__law_kind K ds M Q E → ds.length = 1 := fun ds M Q E h => by
  obtain ⟨_, _, _, _, rfl, _⟩ := h
  rfl
def zp__law_parts_of (K : PySem.W.Frag) : ZSp := fun ds M Q E => ∃ (size many : Int) (arcs : List Arc) (ends : List Int), ds = [kinD K size many arcs ends] ∧ Q (kpD size many arcs ends) M
theorem hl__law_parts_of {K : PySem.W.Frag} : ∀ ds M Q E, zp__law_parts_of K ds M Q E → ds.length = 1 := fun ds M Q E h => by
  obtain ⟨_, _, _, _, rfl, _⟩ := h
  rfl
def zp__law_kind_parts : ZSp := fun ds M Q E => ∃ (h : Addr) (size : Int) (b : Bool), ds = [.v (.ref h), .v (.int size), .v (.bl b)] ∧ Hd M h ∧ 2 ≤ size ∧ size ≤ 12 ∧ ∀ many arcs ends M', KOk size many arcs ends → Hk h M M' → Q (kpD size many arcs ends) M'
theorem hl__law_kind_parts : ∀ ds M Q E, zp__law_kind_parts ds M Q E → ds.length = 3 := fun ds M Q E h => by
  obtain ⟨_, _, _, rfl, _⟩ := h
  rfl
def zp__law_balanced : ZSp := fun ds M Q E => ∃ (h : Addr) (size : Int), ds = [.v (.ref h), .v (.int size)] ∧ Hd M h ∧ 2 ≤ size ∧ size ≤ 12 ∧ ∀ many arcs ends M', KOk size many arcs ends → Hk h M M' → Q (kpD size many arcs ends) M'
theorem hl__law_balanced : ∀ ds M Q E, zp__law_balanced ds M Q E → ds.length = 2 := fun ds M Q E h => by
  obtain ⟨_, _, rfl, _⟩ := h
  rfl
def WordOk (size : Int) (d : D) : Prop := (∃ far : Int, 1 ≤ far ∧ far ≤ 2 ∧ d = .tup [.v (.str "exchanged"), .v (.int far)]) ∨ (∃ ps, PsOk size ps ∧ d = .tup [.v (.str "misheard"), pairsD ps]) ∨ d = .tup [.v (.str "any")] ∨ d = .tup [.v (.str "twins")] ∨
  d = .tup [.v (.str "out")] ∨ d = .tup [.v (.str "in")] ∨ d = .tup [.v (.str "doubled")]
def zp__law_word : ZSp := fun ds M Q E => ∃ (h : Addr) (size : Int), ds = [.v (.ref h), .v (.int size)] ∧ Hd M h ∧ 2 ≤ size ∧ size ≤ 12 ∧ ∀ d M', WordOk size d → Hk h M M' → Q d M'
theorem hl__law_word : ∀ ds M Q E, zp__law_word ds M Q E → ds.length = 2 := fun ds M Q E h => by
  obtain ⟨_, _, rfl, _⟩ := h
  rfl
def zp__law_kind_of (K : PySem.W.Frag) : ZSp := fun ds M Q E => ∃ (size : Int) (d : D), ds = [.v (.int size), d] ∧ 2 ≤ size ∧ size ≤ 12 ∧ WordOk size d ∧ anyK K size M Q
theorem hl__law_kind_of {K : PySem.W.Frag} : ∀ ds M Q E, zp__law_kind_of K ds M Q E → ds.length = 2 := fun ds M Q E h => by
  obtain ⟨_, _, rfl, _⟩ := h
  rfl
def zp__law_is_right_of : ZSp := fun ds M Q E => ∃ (size many : Int) (arcs : List Arc) (ends : List Int), ds = [kpD size many arcs ends] ∧ KOk size many arcs ends ∧ ∀ M', Kp M M' → Q (.v (.bl true)) M'
theorem hl__law_is_right_of : ∀ ds M Q E, zp__law_is_right_of ds M Q E → ds.length = 1 := fun ds M Q E h => by
  obtain ⟨_, _, _, _, rfl, _⟩ := h
  rfl
def zp__law_is_refused : ZSp := fun ds M Q E => ∃ d, ds = [d] ∧ nice d = true ∧ Q (.v (.bl true)) M
theorem hl__law_is_refused : ∀ ds M Q E, zp__law_is_refused ds M Q E → ds.length = 1 := fun ds M Q E h => by
  obtain ⟨_, rfl, _⟩ := h
  rfl
/-! ### kinds made -/
theorem oneP_len {n a : Nat} : (oneP n a).length ≤ n := by
  unfold oneP
  rw [List.length_map]
  exact Nat.le_trans (List.length_filter_le ..) (by rw [List.length_range]; exact Nat.le_refl _)
theorem upP_succ {n k : Nat} : upP n (k + 1) = upP n k ++ oneP n k := by
  unfold upP
  rw [List.range_succ, List.flatMap_append]
  simp
theorem upP_len {n : Nat} : ∀ {k : Nat}, (upP n k).length ≤ k * n
  | 0 => by simp [upP]
  | k + 1 => by
    rw [upP_succ, List.length_append, Nat.succ_mul]
    exact Nat.add_le_add upP_len oneP_len
theorem mem_oneP {n a : Nat} {p : Int × Int} : p ∈ oneP n a ↔ ∃ b : Nat, p = ((a : Int), (b : Int)) ∧ b < n ∧ b ≠ a := by
  unfold oneP
  simp only [List.mem_map, List.mem_filter, List.mem_range, decide_eq_true_eq]
  constructor
  · rintro ⟨b, ⟨h1, h2⟩, rfl⟩
    exact ⟨b, rfl, h1, h2⟩
  · rintro ⟨b, rfl, h1, h2⟩
    exact ⟨b, ⟨h1, h2⟩, rfl⟩
theorem mem_upP {n k : Nat} {p : Int × Int} : p ∈ upP n k ↔ ∃ a b : Nat, p = ((a : Int), (b : Int)) ∧ a < k ∧ b < n ∧ b ≠ a := by
  unfold upP
  simp only [List.mem_flatMap, List.mem_range, mem_oneP]
  constructor
  · rintro ⟨a, h1, b, rfl, h2, h3⟩
    exact ⟨a, b, rfl, h1, h2, h3⟩
  · rintro ⟨a, b, rfl, h1, h2, h3⟩
    exact ⟨a, h1, b, rfl, h2, h3⟩
theorem pw_filter_range {n : Nat} {q : Nat → Bool} : ((List.range n).filter q).Pairwise (· < ·) := List.Pairwise.filter _ List.pairwise_lt_range
theorem pw_one {n a : Nat} : (oneP n a).Pairwise pLt := by
  unfold oneP
  rw [List.pairwise_map]
  exact pw_filter_range.imp fun {b c} h => .inr ⟨rfl, by show (b : Int) < c; omega⟩
theorem pw_up {n : Nat} : ∀ {k : Nat}, (upP n k).Pairwise pLt
  | 0 => .nil
  | k + 1 => by
    rw [upP_succ, List.pairwise_append]
    refine ⟨pw_up, pw_one, fun p hp q hq => ?_⟩
    obtain ⟨a, b, rfl, h1, _⟩ := mem_upP.mp hp
    obtain ⟨c, rfl, _⟩ := mem_oneP.mp hq
    exact .inl (by show (a : Int) < k; omega)
theorem up_ok {size : Int} (s1 : 2 ≤ size) (s2 : size ≤ 12) : PsOk size (upP size.toNat size.toNat) := by
  refine ⟨fun p hp => ?_, pw_up, Nat.le_trans upP_len (Nat.le_trans (Nat.mul_le_mul (show size.toNat ≤ 12 by omega) (show size.toNat ≤ 12 by omega)) (by decide))⟩
  obtain ⟨a, b, rfl, h1, h2, h3⟩ := mem_upP.mp hp
  refine ⟨?_, ?_, ?_, ?_, ?_⟩ <;> dsimp only <;> omega
/-- arcs from below f to below l, each once -/
structure AX (size f l : Int) (A : List Arc) : Prop where
  nd : A.Nodup
  b : ∀ a ∈ A, ArcOk size l a ∧ a.1 < f
theorem ArcOk.up {size l l2 : Int} {a : Arc} (h : ArcOk size l a) (hl : l ≤ l2) : ArcOk size l2 a := by
  obtain ⟨f0, f1, t0, t1, s, hh, sl, hl', pos⟩ := h
  exact ⟨f0, by omega, t0, by omega, s, hh, sl, hl', pos⟩
theorem AX.add {size f l f2 l2 : Int} {A B : List Arc} (h : AX size f l A) (g : AX size f2 l2 B) (hf : f ≤ f2) (hl : l ≤ l2) (n : ∀ b ∈ B, f ≤ b.1 ∨ l ≤ b.2.2.2) : AX size f2 l2 (A ++ B) := by
  refine ⟨List.nodup_append.mpr ⟨h.nd, g.nd, fun a ha b hb q => ?_⟩, fun a ha => ?_⟩
  · subst q
    have h1 := h.b a ha
    have h2 := h1.1.t1
    have := n a hb
    omega
  · rcases List.mem_append.mp ha with ha | ha
    · have := h.b a ha
      exact ⟨this.1.up hl, by omega⟩
    · exact g.b a ha
theorem ax_one {size f l : Int} {a : Arc} (h : ArcOk size l a) (hf : a.1 < f) : AX size f l [a] := ⟨by simp, fun b hb => by rw [List.mem_singleton.mp hb]; exact ⟨h, hf⟩⟩
def passA (size st to : Int) : List Arc := (List.range size.toNat).map fun (s : Nat) => (st, [(s : Int)], [(s : Int)], to)
theorem kept_pass {size st : Int} : keptA size st = passA size st st := rfl
theorem pass_len {size st to : Int} : (passA size st to).length = size.toNat := by
  unfold passA
  rw [List.length_map, List.length_range]
theorem ax_pass {size st to f l : Int} (h0 : 0 ≤ st) (h1 : st < f) (hf : f ≤ l) (h2 : 0 ≤ to) (h3 : to < l) : AX size f l (passA size st to) := by
  refine ⟨?_, fun a ha => ?_⟩
  · unfold passA
    refine List.pairwise_map.mpr (List.nodup_range.imp fun {x y} h q => h ?_)
    simp only [Prod.mk.injEq, List.cons.injEq, and_true, true_and] at q
    omega
  · obtain ⟨s, hs, rfl⟩ := List.mem_map.mp ha
    have hs := List.mem_range.mp hs
    refine ⟨⟨h0, by dsimp only; omega, h2, h3, fun x hx => ?_, fun x hx => ?_, Nat.le_succ 1, Nat.le_succ 1, Nat.succ_pos 1⟩, h1⟩
    · rw [List.mem_singleton.mp hx]; omega
    · rw [List.mem_singleton.mp hx]; omega
theorem ax_kept {size : Int} : AX size 2 2 (keptA size 0 ++ keptA size 1) :=
  AX.add (f := 1) (l := 1) (ax_pass (by decide) (by decide) (by decide) (by decide) (by decide)) (ax_pass (by decide) (by decide) (by decide) (by decide) (by decide)) (by decide) (by decide) fun b hb => by
    obtain ⟨s, _, rfl⟩ := List.mem_map.mp hb
    exact .inl (Int.le_refl 1)
theorem KOk.of {size many : Int} {A : List Arc} {ends : List Int} (s1 : 2 ≤ size) (s2 : size ≤ 12) (m1 : 1 ≤ many) (m2 : many ≤ 400) (l : A.length ≤ 6000) (a : ∀ a ∈ A, ArcOk size many a) (nd : A.Nodup) (e : ends.Pairwise (· < ·)) (eb : ∀ x ∈ ends, 0 ≤ x ∧ x < many) : KOk size many (sortA A) ends :=
  ⟨s1, s2, m1, m2, by rw [sortA_len]; exact l, fun b hb => a b (sortA_perm.mem_iff.mp hb), sortA_pw nd, e, eb⟩
theorem AX.kok {size m f : Int} {A : List Arc} (h : AX size f m A) (s1 : 2 ≤ size) (s2 : size ≤ 12) (m1 : 2 ≤ m) (m2 : m ≤ 400) (l : A.length ≤ 6000) : KOk size m (sortA A) [1] :=
  .of s1 s2 (by omega) m2 l (fun a ha => (h.b a ha).1) h.nd (List.pairwise_singleton ..) fun x hx => by rw [List.mem_singleton.mp hx]; omega
theorem ax_heard {size : Int} {hs : List Hrd} (h : HrOk size hs) : AX size 2 2 (hs.map hrA) := by
  refine ⟨?_, fun a ha => ?_⟩
  · refine List.pairwise_map.mpr (h.nd.imp fun {x y} h q => h ?_)
    simp only [hrA, Prod.mk.injEq, and_true, true_and] at q
    exact Prod.ext q.1 q.2
  · obtain ⟨x, hx, rfl⟩ := List.mem_map.mp ha
    obtain ⟨h1, h2, h3, h4, h5⟩ := h.b x hx
    exact ⟨⟨Int.le_refl 0, (by decide : (0 : Int) < 2), (by decide : (0 : Int) ≤ 1), (by decide : (1 : Int) < 2), h1, h2, h3, h4, h5⟩, (by decide : (0 : Int) < 2)⟩
theorem kept_len {size st : Int} : (keptA size st).length = size.toNat := pass_len
theorem ax_place {size : Int} {hs : List Hrd} (h : HrOk size hs) : AX size 2 2 (keptA size 0 ++ keptA size 1 ++ hs.map hrA) := by
  refine ⟨List.nodup_append.mpr ⟨ax_kept.nd, (ax_heard h).nd, fun a ha b hb q => ?_⟩, fun a ha => ?_⟩
  · subst q
    obtain ⟨x, _, rfl⟩ := List.mem_map.mp hb
    rcases List.mem_append.mp ha with ha | ha <;> obtain ⟨s, _, e⟩ := List.mem_map.mp ha <;> simp [hrA] at e
  · rcases List.mem_append.mp ha with ha | ha
    · exact ax_kept.b a ha
    · exact (ax_heard h).b a ha
theorem place_kok {size : Int} {hs : List Hrd} (s1 : 2 ≤ size) (s2 : size ≤ 12) (h : HrOk size hs) : KOk size 2 (placeA size hs) [1] :=
  (ax_place h).kok s1 s2 (by decide) (by decide) (by rw [List.length_append, List.length_append, kept_len, kept_len, List.length_map]; have := h.l; omega)
/-! pairs heard one for another -/
theorem hr_pairs {size : Int} {ps : List (Int × Int)} (h : PsOk size ps) : HrOk size (pairsH ps) := by
  refine ⟨fun x hx => ?_, List.pairwise_map.mpr (h.s.imp fun {p q} h e => ?_), by unfold pairsH; rw [List.length_map]; have := h.l; omega⟩
  · obtain ⟨p, hp, rfl⟩ := List.mem_map.mp hx
    obtain ⟨h1, h2, h3, h4, _⟩ := h.b p hp
    refine ⟨fun x hx => ?_, fun x hx => ?_, Nat.le_succ 1, Nat.le_succ 1, Nat.succ_pos 1⟩
    · rw [List.mem_singleton.mp hx]; exact ⟨h1, h2⟩
    · rw [List.mem_singleton.mp hx]; exact ⟨h3, h4⟩
  · simp only [Prod.mk.injEq, List.cons.injEq, and_true] at e
    rcases h with h | h <;> omega
/-- what each sign is heard as -/
theorem hr_signs {size : Int} (s2 : size ≤ 12) (f : Int → Hrd) (hf : ∀ x y, f x = f y → x = y) (hb : ∀ x, 0 ≤ x → x < size → (∀ y ∈ (f x).1, 0 ≤ y ∧ y < size) ∧ (∀ y ∈ (f x).2, 0 ≤ y ∧ y < size) ∧ (f x).1.length ≤ 2 ∧ (f x).2.length ≤ 2 ∧ 0 < (f x).1.length + (f x).2.length) :
    HrOk size (signsH size f) := by
  refine ⟨fun x hx => ?_, List.pairwise_map.mpr (List.nodup_range.imp fun {x y} h q => h (by have := hf _ _ q; omega)), by unfold signsH; rw [List.length_map, List.length_range]; omega⟩
  obtain ⟨s, hs, rfl⟩ := List.mem_map.mp hx
  have hs := List.mem_range.mp hs
  exact hb s (by omega) (by omega)
def outH : Int → Hrd := fun s => ([s], [])
def inH : Int → Hrd := fun s => ([], [s])
def dblH : Int → Hrd := fun s => ([s], [s, s])
theorem ok_outH {size : Int} (s2 : size ≤ 12) : HrOk size (signsH size fun s => ([s], [])) := hr_signs s2 (fun x => ([x], [])) (fun x y h => by simpa using h) (fun x h0 h1 => ⟨fun y hy => by rw [List.mem_singleton.mp hy]; exact ⟨h0, h1⟩, fun y hy => (List.not_mem_nil hy).elim, Nat.le_succ 1, Nat.zero_le 2, Nat.succ_pos 0⟩)
theorem ok_inH {size : Int} (s2 : size ≤ 12) : HrOk size (signsH size fun s => ([], [s])) := hr_signs s2 (fun x => ([], [x])) (fun x y h => by simpa using h) (fun x h0 h1 => ⟨fun y hy => (List.not_mem_nil hy).elim, fun y hy => by rw [List.mem_singleton.mp hy]; exact ⟨h0, h1⟩, Nat.zero_le 2, Nat.le_succ 1, Nat.succ_pos 0⟩)
theorem ok_dblH {size : Int} (s2 : size ≤ 12) : HrOk size (signsH size fun s => ([s], [s, s])) := hr_signs s2 (fun x => ([x], [x, x])) (fun x y h => by simpa using h) (fun x h0 h1 => ⟨fun y hy => by rw [List.mem_singleton.mp hy]; exact ⟨h0, h1⟩, fun y hy => by rw [show y = x by simpa using hy]; exact ⟨h0, h1⟩, Nat.le_succ 1, Nat.le_refl 2, Nat.succ_pos 2⟩)
/-! ### arcs as keys -/
theorem keysOf_ints : ∀ {r : List Int}, keysOf (dInts r) = some (r.map NestedKey.num)
  | [] => rfl
  | x :: r => by
    have ih := keysOf_ints (r := r)
    show (match keyOf (.v (.int x)), keysOf (dInts r) with | some k, some ks => some (k :: ks) | _, _ => none) = _
    rw [ih]
    rfl
theorem keyOf_row {r : List Int} : keyOf (rowD r) = some (.tup (r.map NestedKey.num)) := by
  show (keysOf (dInts r)).map NestedKey.tup = _
  rw [keysOf_ints]
  rfl
theorem keysOf_arc {a : Arc} : keysOf [.v (.int a.1), rowD a.2.1, rowD a.2.2.1, .v (.int a.2.2.2)] = some [.num a.1, .tup (a.2.1.map NestedKey.num), .tup (a.2.2.1.map NestedKey.num), .num a.2.2.2] := by
  simp only [keysOf, keyOf_row]
  rfl
theorem keyOf_arc {a : Arc} : keyOf (arcD a) = some (.tup [.num a.1, .tup (a.2.1.map NestedKey.num), .tup (a.2.2.1.map NestedKey.num), .num a.2.2.2]) := by
  show (keysOf _).map NestedKey.tup = _
  rw [keysOf_arc]
  rfl
theorem nums_inj : ∀ {r s : List Int}, r.map NestedKey.num = s.map NestedKey.num → r = s
  | [], [], _ => rfl
  | [], y :: s, h => nomatch h
  | x :: r, [], h => nomatch h
  | x :: r, y :: s, h => by
    simp only [List.map_cons, List.cons.injEq, NestedKey.num.injEq] at h
    rw [h.1, nums_inj h.2]
theorem arc_inj {a b : Arc} : keyOf (arcD a) = keyOf (arcD b) ↔ a = b := by
  rw [keyOf_arc, keyOf_arc]
  constructor
  · intro h
    simp only [Option.some.injEq, NestedKey.tup.injEq, List.cons.injEq, NestedKey.num.injEq, and_true] at h
    exact Prod.ext h.1 (Prod.ext (nums_inj h.2.1) (Prod.ext (nums_inj h.2.2.1) h.2.2.2))
  · rintro rfl
    rfl
theorem kdepth_nums : ∀ {r : List Int}, NestedKey.depthAll (r.map NestedKey.num) = 0
  | [] => rfl
  | x :: r => by
    have ih := kdepth_nums (r := r)
    show max (NestedKey.depth (.num x)) (NestedKey.depthAll (r.map NestedKey.num)) = 0
    rw [ih]
    rfl
theorem keyB_arc {a : Arc} : keyB (arcD a) = true := by
  unfold keyB arcD
  dsimp only
  rw [keysOf_arc]
  refine decide_eq_true ?_
  have h1 : (NestedKey.tup (a.2.1.map NestedKey.num)).depth = 1 := by
    show NestedKey.depthAll (a.2.1.map NestedKey.num) + 1 = 1
    rw [kdepth_nums]
  have h2 : (NestedKey.tup (a.2.2.1.map NestedKey.num)).depth = 1 := by
    show NestedKey.depthAll (a.2.2.1.map NestedKey.num) + 1 = 1
    rw [kdepth_nums]
  show max (NestedKey.depth (.num a.1)) (max (NestedKey.tup (a.2.1.map NestedKey.num)).depth (max (NestedKey.tup (a.2.2.1.map NestedKey.num)).depth (max (NestedKey.depth (.num a.2.2.2)) 0))) + 1 ≤ 8
  rw [h1, h2]
  show max 0 (max 1 (max 1 (max 0 0))) + 1 ≤ 8
  decide
def yesD (A : List Arc) : List (D × D) := A.map fun a => (arcD a, .v (.bl true))
def addA (A : List Arc) (a : Arc) : List Arc := if a ∈ A then A else A ++ [a]
theorem getN_yes {a : Arc} : ∀ {A : List Arc}, getN (yesD A) (arcD a) = if a ∈ A then some (.v (.bl true)) else none
  | [] => rfl
  | b :: A => by
    have ih := getN_yes (a := a) (A := A)
    unfold getN yesD at ih ⊢
    rw [List.map_cons, List.find?_cons]
    dsimp only
    by_cases h : b = a
    · subst h
      rw [decide_eq_true rfl]
      simp
    · rw [decide_eq_false (fun z => h (arc_inj.mp z)), ih]
      have hp : ¬ a = b := fun z => h z.symm
      by_cases m : a ∈ A
      · rw [if_pos m, if_pos (List.mem_cons_of_mem _ m)]
      · rw [if_neg m, if_neg (by simp [hp, m])]
theorem put_yes {A : List Arc} {a : Arc} : putN (yesD A) (arcD a) (.v (.bl true)) = yesD (addA A a) := by
  unfold addA
  by_cases h : a ∈ A
  · rw [if_pos h]
    unfold putN
    rw [getN_yes, if_pos h]
    show (yesD A).map _ = yesD A
    unfold yesD
    rw [List.map_map]
    refine List.map_congr_left fun b _ => ?_
    show (if keyOf (arcD b) = keyOf (arcD a) then (arcD b, D.v (.bl true)) else (arcD b, .v (.bl true))) = _
    split <;> rfl
  · rw [if_neg h, putN_new (by rw [getN_yes, if_neg h])]
    unfold yesD
    rw [List.map_append]
    rfl
theorem yes_keys {A : List Arc} : (yesD A).map (·.1) = A.map arcD := by
  unfold yesD
  rw [List.map_map]
  rfl
theorem yes_len {A : List Arc} : (yesD A).length = A.length := List.length_map ..
/-- arcs drawn, each once -/
structure DA (size many : Int) (n : Nat) (A : List Arc) : Prop where
  nd : A.Nodup
  b : ∀ a ∈ A, ArcOk size many a
  l : A.length ≤ n
theorem DA.add {size many : Int} {n : Nat} {A : List Arc} {a : Arc} (h : DA size many n A) (ha : ArcOk size many a) : DA size many (n + 1) (addA A a) := by
  unfold addA
  split
  · exact ⟨h.nd, h.b, Nat.le_succ_of_le h.l⟩
  · rename_i na
    refine ⟨List.nodup_append.mpr ⟨h.nd, by simp, fun x hx y hy q => na (by rw [← List.mem_singleton.mp hy, ← q]; exact hx)⟩, fun x hx => ?_, by rw [List.length_append, List.length_singleton]; have := h.l; omega⟩
    rcases List.mem_append.mp hx with hx | hx
    · exact h.b x hx
    · rw [List.mem_singleton.mp hx]; exact ha
/-! ### arcs by where they start -/
structure BK (M0 M : MS) (p : Addr) (n : Nat) (r : Nat → Addr) (c : Nat → List Arc) : Prop where
  d : M p = some (.dct ((List.range n).map fun (j : Nat) => (.inl ((j : Nat) : Int), .v (.ref (r j)))))
  e : ∀ j, j < n → M (r j) = some (.lst ((c j).map arcD))
  inj : ∀ i j, i < n → j < n → r i = r j → i = j
  np : ∀ j, j < n → r j ≠ p
  kp : Kp M0 M
  z : M0 p = none
  zr : ∀ j, j < n → M0 (r j) = none
theorem BK.add {M0 M : MS} {p q : Addr} {n : Nat} {r : Nat → Addr} {kvs : List (Key × D)} (b : BK M0 M p n r fun _ => []) (hq : M q = none) (hk : mput M q (.lst []) p = some (.dct kvs)) :
    BK M0 (mput (mput M q (.lst [])) p (.dct (putKD kvs (.inl ((n : Nat) : Int)) (.v (.ref q))))) p (n + 1) (fun j => if j = n then q else r j) fun _ => [] := by
  have npq : p ≠ q := fun z => by subst z; rw [b.d] at hq; cases hq
  have nrq : ∀ j, j < n → r j ≠ q := fun j hj z => by have := b.e j hj; rw [z, hq] at this; cases this
  rw [mput_ne npq, b.d] at hk
  cases hk
  refine ⟨?_, fun j hj => ?_, fun i j hi hj e => ?_, fun j hj => ?_, (b.kp.put (b.kp.no hq)).put b.z, b.z, fun j hj => ?_⟩
  · rw [mput_same, putKD_new valD_rangeN, List.range_succ, List.map_append]
    refine congrArg (fun l => some (MO.dct l)) (congr (congrArg _ (List.map_congr_left fun j hj => ?_)) ?_)
    · have := List.mem_range.mp hj
      rw [if_neg (by omega)]
    · simp
  · by_cases e : j = n
    · subst e
      rw [if_pos rfl, mput_ne npq.symm, mput_same]
      rfl
    · rw [if_neg e, mput_ne (b.np j (by omega)), mput_ne (nrq j (by omega))]
      exact b.e j (by omega)
  · split at e <;> split at e
    · omega
    · exact absurd e.symm (nrq j (by omega))
    · exact absurd e (nrq i (by omega))
    · exact b.inj i j (by omega) (by omega) e
  · split
    · exact npq.symm
    · exact b.np j (by omega)
  · split
    · exact b.kp.no hq
    · exact b.zr j (by omega)
theorem BK.app {M0 M : MS} {p : Addr} {n j : Nat} {r : Nat → Addr} {c : Nat → List Arc} {a : Arc} (b : BK M0 M p n r c) (hj : j < n) : BK M0 (mput M (r j) (.lst ((c j).map arcD ++ [arcD a]))) p n r fun i => c i ++ if i = j then [a] else [] := by
  refine ⟨?_, fun i hi => ?_, b.inj, b.np, b.kp.put (b.zr j hj), b.z, b.zr⟩
  · rw [mput_ne (b.np j hj).symm]
    exact b.d
  · by_cases e : i = j
    · subst e
      rw [mput_same, if_pos rfl, List.map_append]
      rfl
    · rw [mput_ne (fun z => e (b.inj i j hi hj z)), if_neg e, List.append_nil]
      exact b.e i hi
theorem outA_succ {arcs : List Arc} {i : Nat} {a : Arc} (h : arcs[i]? = some a) {x : Int} : outA (arcs.take (i + 1)) x = outA (arcs.take i) x ++ if x = a.1 then [a] else [] := by
  unfold outA
  rw [List.take_succ, h, List.filter_append]
  refine congrArg _ ?_
  show [a].filter _ = _
  rw [List.filter_cons]
  by_cases e : a.1 = x
  · rw [decide_eq_true e, if_pos rfl, if_pos e.symm]
    rfl
  · rw [decide_eq_false e, if_neg (by decide), if_neg (fun q => e q.symm)]
    rfl
/-! ### what the search has found -/
theorem at_fnd {f : Fnd} {i : Int} (h0 : 0 ≤ i) (h1 : i.toNat < f.length) : atI (f.map optI) i = some (optI (at_ f i)) := by
  obtain ⟨j, rfl⟩ := Int.eq_ofNat_of_zero_le h0
  rw [zat_nat, List.getElem?_map]
  unfold at_
  rw [Int.toNat_natCast] at h1 ⊢
  rw [List.getElem?_eq_getElem h1]
  rfl
theorem loopA_take {h : Int} {as : List Arc} {i : Nat} {a : Arc} {f : Fnd} {s : List Int} (e : as[i]? = some a) {f' : Fnd} {s' : List Int} (hl : loopA h (as.take i) f s = some (f', s')) : loopA h (as.take (i + 1)) f s = loopA h [a] f' s' := by
  rw [List.take_succ, e, loopA_app, hl]
  rfl
theorem loopA_none {h : Int} {as : List Arc} {i : Nat} {f : Fnd} {s : List Int} (hl : loopA h (as.take i) f s = none) : loopA h as f s = none := by
  rw [← List.take_append_drop i as, loopA_app, hl]
  rfl
theorem level_lags {size many : Int} {arcs : List Arc} {ends : List Int} (k : KOk size many arcs ends) (h : arcs.all lvA = true) : ∃ f, lagsO many arcs ends = some f ∧ ∀ o ∈ f, o = none ∨ o = some 0 := by
  have m1 := k.m1
  have m2 := k.m2
  have w0 : ∀ a ∈ arcs, wA a = 0 := fun a ha => by
    have := List.all_eq_true.mp h a ha
    unfold lvA at this
    simp only [Bool.and_eq_true, decide_eq_true_eq] at this
    unfold wA
    omega
  have pot : Pot arcs fun _ => 0 := fun i v w => by
    induction w with
    | nil => rfl
    | step w ha e ih =>
      have := w0 _ ha
      show _ = (0 : Int)
      have ih : _ = (0 : Int) := ih
      omega
  have ne := dfs_pot k.a pot 500 (DI.start m1) (by rw [nn_f0]; simp; omega)
  cases e : dfs arcs 500 (f0 many) [0] with
  | none => exact absurd e ne
  | some f =>
    have d := dfs_ok k.a 500 (DI.start m1) e
    have zero : ∀ i v, 0 ≤ i → at_ f i = some v → v = 0 := fun i v hi hv => pot i v (d.way i v hi hv)
    refine ⟨f, ?_, fun o ho => ?_⟩
    · unfold lagsO
      rw [e]
      dsimp only
      have ea : (ends.any fun e => match at_ f e with | none => false | some v => decide (v ≠ 0)) = false := by
        rw [List.any_eq_false]
        intro x hx
        cases q : at_ f x with
        | none => simp
        | some v =>
          have := zero x v (k.eb x hx).1 q
          simp [this]
      rw [ea]
      rfl
    · obtain ⟨i, hi⟩ := List.mem_iff_getElem?.mp ho
      cases o with
      | none => exact .inl rfl
      | some v =>
        right
        have := zero i v (by omega) (by unfold at_; rw [Int.toNat_natCast, hi]; rfl)
        rw [this]
theorem sorted_len : ∀ {xs : List Int} {n : Nat}, xs.Pairwise (· < ·) → (∀ x ∈ xs, 0 ≤ x ∧ x < n) → xs.length ≤ n := by
  intro xs
  have key : ∀ (xs : List Int) (lo hi : Int), lo ≤ hi → xs.Pairwise (· < ·) → (∀ x ∈ xs, lo ≤ x ∧ x < hi) → (xs.length : Int) ≤ hi - lo := by
    intro xs
    induction xs with
    | nil => intro lo hi h _ _; simp; omega
    | cons a r ih =>
      intro lo hi h hp hb
      have ha := hb a List.mem_cons_self
      have hp' := List.pairwise_cons.mp hp
      have := ih (a + 1) hi (by omega) hp'.2 fun x hx => ⟨by have := hp'.1 x hx; omega, (hb x (List.mem_cons_of_mem _ hx)).2⟩
      rw [List.length_cons]
      omega
  intro n hp hb
  have := key xs 0 n (by omega) hp hb
  omega
def badE (f : Fnd) (e : Int) : Bool := match at_ f e with | none => false | some v => decide (v ≠ 0)
def endO (ends : List Int) : Option Fnd → Option Fnd
  | none => none
  | some f => if ends.any (badE f) = true then none else some f
theorem lagsO_end {many : Int} {arcs : List Arc} {ends : List Int} : lagsO many arcs ends = endO ends (dfs arcs 500 (f0 many) [0]) := by
  unfold lagsO
  cases dfs arcs 500 (f0 many) [0] <;> rfl
theorem KOk.elen {size many : Int} {arcs : List Arc} {ends : List Int} (hk : KOk size many arcs ends) : ends.length ≤ 400 := by
  have := sorted_len hk.e (n := many.toNat) (fun x hx => by have := hk.eb x hx; omega)
  have := hk.m2
  omega
def dfs1 (arcs : List Arc) (m : Nat) : Option (Fnd × List Int) → Option Fnd
  | none => none
  | some (f, s) => dfs arcs m f s
theorem dfs_snoc {arcs : List Arc} {m : Nat} {f : Fnd} {s0 : List Int} {here v : Int} (hv : at_ f here = some v) : dfs arcs (m + 1) f (s0 ++ [here]) = dfs1 arcs m (loopA v (outA arcs here) f s0) := by
  conv => lhs; unfold dfs
  rw [List.getLast?_concat]
  dsimp only
  rw [hv, List.dropLast_concat]
  show (match loopA v (outA arcs here) f s0 with | none => none | some (f', s') => dfs arcs m f' s') = _
  cases loopA v (outA arcs here) f s0 <;> rfl
theorem in_n0 {v : Int} (hv : v ≠ 0) : inD (optI (some v)) [D.v V.non, D.v (V.int 0)] = false := by
  show (false || ((0 : Int) == v || false)) = false
  simp
  exact fun z => hv z.symm
theorem valD_app {k : Key} : ∀ {xs ys : List (Key × D)}, valD (xs ++ ys) k = (valD xs k).or (valD ys k)
  | [], ys => by rw [List.nil_append, valD_nil]; rfl
  | (k', d) :: xs, ys => by
    rw [List.cons_append, valD_cons, valD_cons]
    split
    · rfl
    · exact valD_app
/-- what the law has found: a dict with what f tells -/
structure FD (f : Fnd) (kvs : List (Key × D)) : Prop where
  v : ∀ i : Int, 0 ≤ i → valD kvs (.inl i) = (at_ f i).map fun v => .v (.int v)
  l : kvs.length + nn f ≤ 400
theorem FD.put {f : Fnd} {kvs : List (Key × D)} (h : FD f kvs) {i v : Int} (h0 : 0 ≤ i) (hl : i.toNat < f.length) (e : at_ f i = none) : FD (f.set i.toNat (some v)) (putKD kvs (.inl i) (.v (.int v))) := by
  have en : valD kvs (.inl i) = none := by rw [h.v i h0, e]; rfl
  rw [putKD_new en]
  refine ⟨fun j hj => ?_, ?_⟩
  · rw [valD_app, at_set h0 hl hj, valD_cons, valD_nil]
    by_cases q : j = i
    · subst q
      rw [en, if_pos rfl, if_pos rfl]
      rfl
    · rw [if_neg q, if_neg (fun z => q (by cases z; rfl)), h.v j hj]
      cases at_ f j <;> rfl
  · have hn : f[i.toNat]? = some none := by
      unfold at_ at e
      rw [List.getElem?_eq_getElem hl] at e ⊢
      exact congrArg some e
    have := nn_set (v := v) hn
    have := h.l
    rw [List.length_append, List.length_singleton]
    omega
theorem nn_set0 {n : Nat} {f : Fnd} (h : f = List.replicate n none) : nn f = n := by rw [h, nn_rep]
theorem row_atI {row : List Int} {i : Int} (h0 : 0 ≤ i) (h1 : i < row.length) : ∃ x, atI (dInts row) i = some (.v (.int x)) ∧ row[i.toNat]? = some x := by
  obtain ⟨n, rfl⟩ := Int.eq_ofNat_of_zero_le h0
  exact ⟨row[n]'(by omega), row_at (List.getElem?_eq_getElem _), List.getElem?_eq_getElem _⟩
theorem lags_bad {size many : Int} {arcs : List Arc} {ends : List Int} (k : KOk size many arcs ends) {e v : Int} (w : Way arcs e v) (he : e ∈ ends) (hv : v ≠ 0) : lagsO many arcs ends = none := by
  rw [lagsO_end]
  cases h : dfs arcs 500 (f0 many) [0] with
  | none => rfl
  | some f =>
    have d := dfs_ok k.a 500 (DI.start k.m1) h
    have := (d.pot (fun a ha => (k.a a ha).t0) e v w).2
    show (if ends.any (badE f) = true then none else some f) = none
    rw [if_pos]
    refine List.any_eq_true.mpr ⟨e, he, ?_⟩
    unfold badE
    rw [this]
    simpa using hv
theorem mem_place {size : Int} {hs : List Hrd} {x : Hrd} (h : x ∈ hs) : hrA x ∈ placeA size hs := sortA_perm.mem_iff.mpr (List.mem_append_right _ (List.mem_map.mpr ⟨x, h, rfl⟩))
theorem ok__law_hand (T : Tx K mg base) : DefAt P w K mg base 1 "_law_hand" ["script"] (zp__law_hand) := by
  refine zok T.d__law_hand sc__law_hand hl__law_hand (fun f cdv A outer s H E w0 Ez hr hW => ⟨(tSeq (tAsg (tLc (iSeq K (tSl (rSlS K) (tVar 0) tNoPart (tPart (tC (.int 63))))) (gName 2) tYes (tCB rAbs (tCons (tCB rInt1 (tCons (tVar 2) tNil)) tNil)) [2]) (gName 1))
  (tRet (tLst (tCons (tVar 1) (tCons (tC (.int 0)) (tCons (tC (.int 0)) (tCons (tOp (rAddA K) (tC (.int 97)) (tOp (rMulA K) (tC (.int 3)) (tCB (rLenA K) (tCons (tVar 1) tNil)))) (tCons (tC (.int 0)) tNil)))))))), _,
  (pss_cons (ps_setLc (i := 1) (own := [("cell", 2)]) rfl sc__law_hand.nd rfl rfl (sw_true rfl rfl rfl (by decide +kernel)) (pi_seq (pe_slice sl_seqA (pv 0) po_none (po_some pe_int))) (blkOk_by (by kernel_rfl)) (fun _ _ _ _ _ => (pg_name (i := 2) sc__law_hand.nd rfl (Or.inl rfl))) (fun _ _ _ _ _ => pts_nil) (fun _ _ _ _ _ => (pe_callB call_abs rfl T.f_abs (by decide +kernel) (pa_cons (pe_callTy call_int1 rfl T.f_int (by decide +kernel) (pa_cons (pv 2) pa_nil)) pa_nil))))
  (pss_one (ps_ret (pe_lst (pa_cons (pv 1) (pa_cons pe_int (pa_cons pe_int (pa_cons (pe_op op_addA pe_int (pe_op op_mulA pe_int (pe_callB call_lenA rfl T.f_len (by decide +kernel) (pa_cons (pv 1) pa_nil)))) (pa_cons pe_int pa_nil))))))))),
  (ls_seq (ls_asg (le_lc (li_seq (le_cut le_var lo_none (lo_some le_c))) lg_name mono_name (wo_name (by decide)) lt_yes (le_cb lra_abs (la_cons (le_cb lra_int (la_cons le_var la_nil)) la_nil))) lg_name)
  (ls_ret (le_lstM (la_cons le_var (la_cons le_c (la_cons le_c (la_cons (le_op lr_add le_c (le_op lr_mul le_c (le_cb lra_len (la_cons le_var la_nil)))) (la_cons le_c la_nil)))))))), ?z⟩)
  case z =>
    intro ds Qz h
    obtain ⟨ns, rfl, hn, k⟩ := h
    walk_at "z"
    have hl : (Zl.cutD (ns.map fun n => D.v (.int n)) none (some 63)).length ≤ 63 := by
      unfold Zl.cutD
      rw [List.length_take, List.length_drop, List.length_map]
      omega
    have hm : ∀ d, d ∈ Zl.cutD (ns.map fun n => D.v (.int n)) none (some 63) → ∃ i : Int, d = .v (.int i) := fun d hd => by
      obtain ⟨n, _, rfl⟩ := List.mem_map.mp (List.mem_of_mem_drop (List.mem_of_mem_take hd))
      exact ⟨n, rfl⟩
    generalize Zl.cutD (ns.map fun n => D.v (.int n)) none (some 63) = xs at hl hm
    refine zlc (fun i acc M' => M' = w0.M ∧ ∀ c ∈ acc, ∃ i : Int, c = .v (.int i)) (by rw [sizeLine_eq]; omega) ?_ ?_ ⟨rfl, by simp⟩
    · rintro i d acc M' k1 k2 hd ⟨rfl, ha⟩ h1 h2
      obtain ⟨n, rfl⟩ := hm d (List.mem_of_getElem? hd)
      walk_at "z"
      refine h1 _ _ ⟨rfl, fun c hc => ?_⟩
      rcases List.mem_append.mp hc with hc | hc
      · exact ha c hc
      · exact ⟨_, List.mem_singleton.mp hc⟩
    · rintro acc M' ⟨rfl, ha⟩ hl2
      try walk_at "z"
      intro p hp
      exact k p _ hp (Hd.put (l := 0) ha)
theorem ok__law_draw (T : Tx K mg base) : DefAt P w K mg base 1 "_law_draw" ["hand", "many"] (zp__law_draw) := by
  refine zok T.d__law_draw sc__law_draw hl__law_draw (fun f cdv A outer s H E w0 Ez hr hW => ⟨(tSeq (tIfS (tAnd (tTest (tOp (rEqD K) (tOp (rIx K) (tVar 0) (tC (.int 2))) (tC (.int 0)))) (tTest (tOp (rI0 fun i j => .bl (decide (i < j))) (tOp (rIx K) (tVar 0) (tC (.int 1))) (tCB (rLenA K) (tCons (tOp (rIx K) (tVar 0) (tC (.int 0))) tNil))))) (tSeq (tAsg (tOp (rIx K) (tOp (rIx K) (tVar 0) (tC (.int 0))) (tOp (rIx K) (tVar 0) (tC (.int 1)))) (gName 2))
  (tSeq (tAsg (tOp (rAddA K) (tOp (rIx K) (tVar 0) (tC (.int 1))) (tC (.int 1))) (gSub (tVar 0) (tC (.int 1)) rSetL))
  (tSeq (tAsg (tOp (rI (fun _ j => 0 < j) fun i j => .int (i % j)) (tCB rInt1 (tCons (tOp (rAddA K) (tOp (rAddA K) (tOp (rMulA K) (tOp (rIx K) (tVar 0) (tC (.int 3))) (tC (.int 69621))) (tOp (rMulA K) (tVar 2) (tC (.int 40692)))) (tC (.int 61))) tNil)) (tC (.int 2147483629))) (gSub (tVar 0) (tC (.int 3)) rSetL))
  (tIfS (tTest (tOp (rI0 fun i j => .bl (decide (j ≤ i))) (tVar 2) (tOp (rI CPow fun i j => .int (i ^ j.toNat)) (tC (.int 10)) (tC (.int 18))))) (tAsg (tVar 2) (gSub (tVar 0) (tC (.int 2)) rSetL)) tNext)))) tNext)
  (tSeq (tIfS (tTest (tOp (rI0 fun i j => .bl (decide (j < i))) (tOp (rIx K) (tVar 0) (tC (.int 2))) (tC (.int 0)))) (tSeq (tAsg (tOp (rI (fun _ j => 0 < j) fun i j => .int (i % j)) (tCB rInt1 (tCons (tOp (rIx K) (tVar 0) (tC (.int 2))) tNil)) (tVar 1)) (gName 3))
  (tSeq (tAsg (tOp (rI CDivW fun i j => .int (i / j)) (tOp (rIx K) (tVar 0) (tC (.int 2))) (tVar 1)) (gSub (tVar 0) (tC (.int 2)) rSetL))
  (tRet (tVar 3)))) tNext)
  (tSeq (tAsg (tOp (rAddA K) (tOp (rIx K) (tVar 0) (tC (.int 4))) (tC (.int 1))) (gSub (tVar 0) (tC (.int 4)) rSetL))
  (tSeq (tAsg (tOp (rI (fun _ j => 0 < j) fun i j => .int (i % j)) (tCB rInt1 (tCons (tOp (rMulA K) (tCB rInt1 (tCons (tOp (rAddA K) (tOp (rIx K) (tVar 0) (tC (.int 3))) (tOp (rMulA K) (tC (.int 7919)) (tOp (rIx K) (tVar 0) (tC (.int 4))))) tNil)) (tC (.int 48271))) tNil)) (tC (.int 2147483647))) (gName 4))
  (tSeq (tAsg (tOp (rI (fun _ j => 0 < j) fun i j => .int (i % j)) (tCB rInt1 (tCons (tOp (rMulA K) (tVar 4) (tOp (rAddA K) (tOp (rI CDivW fun i j => .int (i / j)) (tVar 4) (tC (.int 1009))) (tC (.int 69621)))) tNil)) (tC (.int 2147483647))) (gName 4))
  (tSeq (tAsg (tOp (rI (fun _ j => 0 < j) fun i j => .int (i % j)) (tCB rInt1 (tCons (tOp (rMulA K) (tVar 4) (tOp (rAddA K) (tOp (rI CDivW fun i j => .int (i / j)) (tVar 4) (tC (.int 2003))) (tC (.int 40014)))) tNil)) (tC (.int 2147483563))) (gName 4))
  (tRet (tOp (rI (fun _ j => 0 < j) fun i j => .int (i % j)) (tCB rInt1 (tCons (tOp (rI CDivW fun i j => .int (i / j)) (tVar 4) (tC (.int 16))) tNil)) (tVar 1))))))))), _,
  (pss_cons (ps_if (PW.pt (pw_and (pt_cmpR (op_eqD hr.units) (pe_ix ix_seq (pv 0) pe_int (fun _ _ => rfl)) pe_int (nomark _)) (pw_and1 (pt_cmpR op_lt (pe_ix ix_seq (pv 0) pe_int (fun _ _ => rfl)) (pe_callB call_lenA rfl T.f_len (by decide +kernel) (pa_cons (pe_ix ix_seq (pv 0) pe_int (fun _ _ => rfl)) pa_nil)) (nomark _))))) (pss_cons (ps_set (i := 2) sc__law_draw.nd rfl (Or.inl rfl) (pe_ix ix_seq (pe_ix ix_seq (pv 0) pe_int (fun _ _ => rfl)) (pe_ix ix_seq (pv 0) pe_int (fun _ _ => rfl)) (fun _ _ => rfl)))
  (pss_cons (ps_asg (pe_op op_addA (pe_ix ix_seq (pv 0) pe_int (fun _ _ => rfl)) pe_int) (pg_sub (pv 0) pe_int set_list))
  (pss_cons (ps_asg (pe_op op_mod (pe_callTy call_int1 rfl T.f_int (by decide +kernel) (pa_cons (pe_op op_addA (pe_op op_addA (pe_op op_mulA (pe_ix ix_seq (pv 0) pe_int (fun _ _ => rfl)) pe_int) (pe_op op_mulA (pv 2) pe_int)) pe_int) pa_nil)) pe_int) (pg_sub (pv 0) pe_int set_list))
  (pss_one (ps_if (pt_cmpR op_ge (pv 2) (pe_op op_pow pe_int pe_int) (nomark _)) (pss_one (ps_asg (pv 2) (pg_sub (pv 0) pe_int set_list))) pss_nil))))) pss_nil)
  (pss_cons (ps_if (pt_cmpR op_gt (pe_ix ix_seq (pv 0) pe_int (fun _ _ => rfl)) pe_int (nomark _)) (pss_cons (ps_set (i := 3) sc__law_draw.nd rfl (Or.inl rfl) (pe_op op_mod (pe_callTy call_int1 rfl T.f_int (by decide +kernel) (pa_cons (pe_ix ix_seq (pv 0) pe_int (fun _ _ => rfl)) pa_nil)) (pv 1)))
  (pss_cons (ps_asg (pe_op op_fdivW (pe_ix ix_seq (pv 0) pe_int (fun _ _ => rfl)) (pv 1)) (pg_sub (pv 0) pe_int set_list))
  (pss_one (ps_ret (pv 3))))) pss_nil)
  (pss_cons (ps_asg (pe_op op_addA (pe_ix ix_seq (pv 0) pe_int (fun _ _ => rfl)) pe_int) (pg_sub (pv 0) pe_int set_list))
  (pss_cons (ps_set (i := 4) sc__law_draw.nd rfl (Or.inl rfl) (pe_op op_mod (pe_callTy call_int1 rfl T.f_int (by decide +kernel) (pa_cons (pe_op op_mulA (pe_callTy call_int1 rfl T.f_int (by decide +kernel) (pa_cons (pe_op op_addA (pe_ix ix_seq (pv 0) pe_int (fun _ _ => rfl)) (pe_op op_mulA pe_int (pe_ix ix_seq (pv 0) pe_int (fun _ _ => rfl)))) pa_nil)) pe_int) pa_nil)) pe_int))
  (pss_cons (ps_set (i := 4) sc__law_draw.nd rfl (Or.inl rfl) (pe_op op_mod (pe_callTy call_int1 rfl T.f_int (by decide +kernel) (pa_cons (pe_op op_mulA (pv 4) (pe_op op_addA (pe_op op_fdivW (pv 4) pe_int) pe_int)) pa_nil)) pe_int))
  (pss_cons (ps_set (i := 4) sc__law_draw.nd rfl (Or.inl rfl) (pe_op op_mod (pe_callTy call_int1 rfl T.f_int (by decide +kernel) (pa_cons (pe_op op_mulA (pv 4) (pe_op op_addA (pe_op op_fdivW (pv 4) pe_int) pe_int)) pa_nil)) pe_int))
  (pss_one (ps_ret (pe_op op_mod (pe_callTy call_int1 rfl T.f_int (by decide +kernel) (pa_cons (pe_op op_fdivW (pv 4) pe_int) pa_nil)) (pv 1)))))))))),
  (ls_seq (ls_if (lt_and (lt_test (le_op lr_eq (le_op lr_ix le_var le_c) le_c)) (lt_test (le_op lr_I0 (le_op lr_ix le_var le_c) (le_cb lra_len (la_cons (le_op lr_ix le_var le_c) la_nil))))) (ls_seq (ls_asg (le_op lr_ix (le_op lr_ix le_var le_c) (le_op lr_ix le_var le_c)) lg_name)
  (ls_seq (ls_asg (le_op lr_add (le_op lr_ix le_var le_c) le_c) (lg_sub le_var le_c lset_list))
  (ls_seq (ls_asg (le_op lr_I (le_cb lra_int (la_cons (le_op lr_add (le_op lr_add (le_op lr_mul (le_op lr_ix le_var le_c) le_c) (le_op lr_mul le_var le_c)) le_c) la_nil)) le_c) (lg_sub le_var le_c lset_list))
  (ls_if (lt_test (le_op lr_I0 le_var (le_op lr_I le_c le_c))) (ls_asg le_var (lg_sub le_var le_c lset_list)) ls_next)))) ls_next)
  (ls_seq (ls_if (lt_test (le_op lr_I0 (le_op lr_ix le_var le_c) le_c)) (ls_seq (ls_asg (le_op lr_I (le_cb lra_int (la_cons (le_op lr_ix le_var le_c) la_nil)) le_var) lg_name)
  (ls_seq (ls_asg (le_op lr_I (le_op lr_ix le_var le_c) le_var) (lg_sub le_var le_c lset_list))
  (ls_ret le_var))) ls_next)
  (ls_seq (ls_asg (le_op lr_add (le_op lr_ix le_var le_c) le_c) (lg_sub le_var le_c lset_list))
  (ls_seq (ls_asg (le_op lr_I (le_cb lra_int (la_cons (le_op lr_mul (le_cb lra_int (la_cons (le_op lr_add (le_op lr_ix le_var le_c) (le_op lr_mul le_c (le_op lr_ix le_var le_c))) la_nil)) le_c) la_nil)) le_c) lg_name)
  (ls_seq (ls_asg (le_op lr_I (le_cb lra_int (la_cons (le_op lr_mul le_var (le_op lr_add (le_op lr_I le_var le_c) le_c)) la_nil)) le_c) lg_name)
  (ls_seq (ls_asg (le_op lr_I (le_cb lra_int (la_cons (le_op lr_mul le_var (le_op lr_add (le_op lr_I le_var le_c) le_c)) la_nil)) le_c) lg_name)
  (ls_ret (le_op lr_I (le_cb lra_int (la_cons (le_op lr_I le_var le_c) la_nil)) le_var)))))))), ?z⟩)
  case z =>
    intro ds Qz h
    obtain ⟨h, many, rfl, ⟨cells, l, dg, m, n, hM, hc⟩, h0, h1, k⟩ := h
    have k2 : ∀ (x : Int) (l : Nat) (dg m n : Int), Qz (.v (.int (x % many))) (mput w0.M h (.lst [.lst cells, .v (.int l), .v (.int dg), .v (.int m), .v (.int n)])) := fun x l dg m n =>
      k _ _ (Hd.put hc) (Int.emod_nonneg _ (by omega)) (Int.emod_lt_of_pos _ h0)
    have k3 : ∀ (x : Int) (l : Nat) (dg m n : Int), Qz (.v (.int (x % many))) (mput w0.M h (.lst [.lst cells, .v (.int ((l : Int) + 1)), .v (.int dg), .v (.int m), .v (.int n)])) := fun x l dg m n => k2 x (l + 1) dg m n
    walk_at "zh"
    split
    · split
      · rename_i hl
        obtain ⟨i, hi⟩ := hc (cells[l]'(by omega)) (List.getElem_mem _)
        refine ⟨.v (.int i), by rw [zat_nat, List.getElem?_eq_getElem (by omega), hi], ?_⟩
        walk_at "zh"
        repeat' split
        all_goals first | trivial | exact k3 _ _ _ _ _ | omega
      · repeat' split
        all_goals first | trivial | exact k2 _ _ _ _ _ | omega
    · repeat' split
      all_goals first | trivial | exact k2 _ _ _ _ _ | omega
theorem ok__law_any (T : Tx K mg base) : DefAt P w K mg base 2 "_law_any" ["hand", "some"] (zp__law_any) := by
  refine zok T.d__law_any sc__law_any hl__law_any (fun f cdv A outer s H E w0 Ez hr hW => ⟨(tRet (tOp (rIx K) (tVar 1) (tCallW (spOf K (zp__law_draw)) (WB E) (tCons (tVar 0) (tCons (tCB (rLenA K) (tCons (tVar 1) tNil)) tNil))))), _,
  (pss_one (ps_ret (pe_ix ix_seq (pv 1) (zc_call (ok__law_draw T) (hr.mono (by decide)) rfl tkB (pa_cons (pv 0) (pa_cons (pe_callB call_lenA rfl T.f_len (by decide +kernel) (pa_cons (pv 1) pa_nil)) pa_nil))) (fun _ _ => rfl)))),
  (ls_ret (le_op lr_ix le_var (le_call hW (la_cons le_var (la_cons (le_cb lra_len (la_cons le_var la_nil)) la_nil))))), ?z⟩)
  case z =>
    intro ds Qz h
    obtain ⟨h, s, xs, rfl, hs, hd, h0, h1, k⟩ := h
    rw [sizeLine_eq] at h1
    rcases hs with rfl | rfl
    · walk_at "z"
      refine ⟨h, xs.length, rfl, hd, by have := List.length_pos_iff.mpr h0; omega, log2_small (by omega), fun r M' hx r0 r1 => ?_⟩
      walk_at "z"
      refine ⟨xs[r.toNat]'(by omega), ?_, k _ _ (List.getElem_mem _) hx⟩
      obtain ⟨j, rfl⟩ := Int.eq_ofNat_of_zero_le r0
      rw [zat_nat]
      exact List.getElem?_eq_getElem _
    · walk_at "z"
      refine ⟨h, xs.length, rfl, hd, by have := List.length_pos_iff.mpr h0; omega, log2_small (by omega), fun r M' hx r0 r1 => ?_⟩
      walk_at "z"
      refine ⟨xs[r.toNat]'(by omega), ?_, k _ _ (List.getElem_mem _) hx⟩
      obtain ⟨j, rfl⟩ := Int.eq_ofNat_of_zero_le r0
      rw [zat_nat]
      exact List.getElem?_eq_getElem _
theorem ok_is_int (T : Tx K mg base) : DefAt P w K mg base 1 "is_int" ["thing"] (zp_is_int) := by
  refine zok T.d_is_int sc_is_int hl_is_int (fun f cdv A outer s H E w0 Ez hr hW => ⟨(tRet (tAndV (tCB (rIsiA K) (tCons (tVar 0) (tCons (tC (.ty "int")) tNil))) (tNotV (tCB (rIsiA K) (tCons (tVar 0) (tCons (tC (.ty "bool")) tNil)))))), _,
  (pss_one (ps_ret (pe_and (pe_callB call_isiA rfl T.f_isinstance (by decide +kernel) (pa_cons (pv 0) (pa_cons (zp_ty (n := "int") T.f_int (by decide +kernel) rfl) pa_nil))) (pe_one (pe_not (pe_callB call_isiA rfl T.f_isinstance (by decide +kernel) (pa_cons (pv 0) (pa_cons (zp_ty (n := "bool") T.f_bool (by decide +kernel) rfl) pa_nil)))))))),
  (ls_ret (le_andV (le_cb lra_isi (la_cons le_var (la_cons le_c la_nil))) (le_notV (le_cb lra_isi (la_cons le_var (la_cons le_c la_nil)))))), ?z⟩)
  case z =>
    intro ds Qz h
    obtain ⟨d, rfl, hn, k⟩ := h
    walk_at "zh"
    rw [← isI_t hn] at k
    cases h1 : isT (tn d) "int" <;> rw [h1] at k
    · exact k
    · exact k
theorem ok_is_within (T : Tx K mg base) : DefAt P w K mg base 2 "is_within" ["thing", "low", "high"] (zp_is_within) := by
  refine zok T.d_is_within sc_is_within hl_is_within (fun f cdv A outer s H E w0 Ez hr hW => ⟨(tRet (tAndV (tCallW (spOf K (zp_is_int)) (WB E) (tCons (tVar 0) tNil)) (tChain (rI0 fun i j => .bl (decide (i ≤ j))) (rI0 fun i j => .bl (decide (i ≤ j))) (tVar 1) (tVar 0) (tVar 2)))), _,
  (pss_one (ps_ret (pe_and (zc_call (ok_is_int T) (hr.mono (by decide)) rfl tkB (pa_cons (pv 0) pa_nil)) (pe_one (pe_chain op_le op_le (pv 1) (pv 0) (pv 2)))))),
  (ls_ret (le_andV (le_call hW (la_cons le_var la_nil)) (le_chain lr_I0 lr_I0 le_var le_var le_var))), ?z⟩)
  case z =>
    intro ds Qz h
    obtain ⟨d, lo, hi, rfl, hn, k⟩ := h
    walk_at "z"
    refine ⟨d, rfl, hn, ?_⟩
    rcases isI_cases d with ⟨i, rfl⟩ | ⟨e1, e2⟩
    · walk_at "z"
      rw [if_pos (show isI (.v (.int i)) = true from rfl)]
      by_cases h1 : lo ≤ i
      · rw [if_pos h1]
        simp only [isW, h1, decide_true, Bool.true_and] at k
        exact k
      · rw [if_neg h1]
        simp only [isW, h1, decide_false, Bool.false_and] at k
        exact k
    · rw [e2] at k
      walk_at "zh"
theorem ok_are_within (T : Tx K mg base) : DefAt P w K mg base 3 "are_within" ["thing", "low", "high"] (zp_are_within) := by
  refine zok T.d_are_within sc_are_within hl_are_within (fun f cdv A outer s H E w0 Ez hr hW => ⟨(tRet (tAndV (tCB (rIsiA K) (tCons (tVar 0) (tCons (tC (.ty "tuple")) tNil))) (tCB (rAll K) (tCons (tLc (iSeq K (tVar 0)) (gName 3) tYes (tCallW (spOf K (zp_is_within)) W0 (tCons (tVar 3) (tCons (tVar 1) (tCons (tVar 2) tNil)))) [3]) tNil)))), _,
  (pss_one (ps_ret (pe_and (pe_callB call_isiA rfl T.f_isinstance (by decide +kernel) (pa_cons (pv 0) (pa_cons (zp_ty (n := "tuple") T.f_tuple (by decide +kernel) rfl) pa_nil))) (pe_one (pe_callB (cr_all rfl) rfl T.f_all (by decide +kernel) (pa_cons (pe_lc (own := [("part", 3)]) rfl sc_are_within.nd (pi_seq (pv 0)) (blkOk_by (by kernel_rfl)) (fun _ _ _ _ _ => (pg_name (i := 3) sc_are_within.nd rfl (Or.inl rfl))) (fun _ _ _ _ _ => pts_nil) (fun _ _ _ _ _ => (zc_call (ok_is_within T) (hr.mono (by decide)) rfl tk0 (pa_cons (pv 3) (pa_cons (pv 1) (pa_cons (pv 2) pa_nil)))))) pa_nil)))))),
  (ls_ret (le_andV (le_cb lra_isi (la_cons le_var (la_cons le_c la_nil))) (le_cb lra_all (la_cons (le_lc (li_seq le_var) lg_name mono_name (wo_name (by decide)) lt_yes (le_call ctW0' (la_cons le_var (la_cons le_var (la_cons le_var la_nil))))) la_nil)))), ?z⟩)
  case z =>
    intro ds Qz h
    obtain ⟨lo, hi, row, rfl, hl, hr, k⟩ := h
    try walk_at "z"
    refine zlc_map1 (fun d => .v (.bl true)) (by rw [sizeLine_eq, ints_len]; omega) (fun d k1 k2 hd hk => ?_) ?_
    · obtain ⟨x, hx, rfl⟩ := ints_nice hd
      have := hr x hx
      try walk_at "z"
      exact ⟨_, lo, hi, rfl, rfl, by rw [isW_in this.1 this.2]; exact hk⟩
    · try walk_at "z"
      rw [show (dInts row).all (fun d => true) = true from List.all_eq_true.mpr fun _ _ => rfl]
      exact k
theorem ok_is_row (T : Tx K mg base) : DefAt P w K mg base 4 "is_row" ["size", "thing"] (zp_is_row) := by
  refine zok T.d_is_row sc_is_row hl_is_row (fun f cdv A outer s H E w0 Ez hr hW => ⟨(tRet (tCallW (spOf K (zp_are_within)) (WB E) (tCons (tVar 1) (tCons (tC (.int 0)) (tCons (tOp (rI0 fun i j => .int (i - j)) (tVar 0) (tC (.int 1))) tNil))))), _,
  (pss_one (ps_ret (zc_call (ok_are_within T) (hr.mono (by decide)) rfl tkB (pa_cons (pv 1) (pa_cons pe_int (pa_cons (pe_op op_sub (pv 0) pe_int) pa_nil)))))),
  (ls_ret (le_call hW (la_cons le_var (la_cons le_c (la_cons (le_op lr_I0 le_var le_c) la_nil))))), ?z⟩)
  case z =>
    intro ds Qz h
    obtain ⟨size, row, rfl, hl, hr, k⟩ := h
    try walk_at "z"
    exact ⟨0, size - 1, row, rfl, hl, fun x hx => by have := hr x hx; omega, k⟩
theorem ok_check_size (T : Tx K mg base) : DefAt P w K mg base 3 "check_size" ["size"] (zp_check_size) := by
  refine zok T.d_check_size sc_check_size hl_check_size (fun f cdv A outer s H E w0 Ez hr hW => ⟨(tIfS (tNot (tB (tCallW (spOf K (zp_is_within)) (WB E) (tCons (tVar 0) (tCons (tC (.int 2)) (tCons (tC (.int (12))) tNil)))))) tNever tNext), _,
  (pss_one (ps_if (pt_not (pt_val (zc_call (ok_is_within T) (hr.mono (by decide)) rfl tkB (pa_cons (pv 0) (pa_cons pe_int (pa_cons (zp_int T.g_MOST_SIZE rfl) pa_nil)))))) (pss_one ps_never) pss_nil)),
  (ls_if (lt_not (lt_B (le_call hW (la_cons le_var (la_cons le_c (la_cons le_c la_nil)))))) ls_never ls_next), ?z⟩)
  case z =>
    intro ds Qz h
    obtain ⟨s, rfl, h1, h2, k⟩ := h
    try walk_at "z"
    refine ⟨_, 2, 12, rfl, rfl, ?_⟩
    rw [isW_in h1 h2]
    try walk_at "z"
    exact k
theorem ok_is_arc (T : Tx K mg base) : DefAt P w K mg base 5 "is_arc" ["size", "many", "thing"] (zp_is_arc) := by
  refine zok T.d_is_arc sc_is_arc hl_is_arc (fun f cdv A outer s H E w0 Ez hr hW => ⟨(tSeq (tIfS (tOr (tNot (tB (tCB (rIsiA K) (tCons (tVar 2) (tCons (tC (.ty "tuple")) tNil))))) (tTest (tOp (rNeD K) (tCB (rLenA K) (tCons (tVar 2) tNil)) (tC (.int 4))))) (tRet (tC (.bl false))) tNext)
  (tSeq (tIfS (tOr (tNot (tB (tCallW (spOf K (zp_is_within)) (WB E) (tCons (tOp (rIx K) (tVar 2) (tC (.int 0))) (tCons (tC (.int 0)) (tCons (tOp (rI0 fun i j => .int (i - j)) (tVar 1) (tC (.int 1))) tNil)))))) (tNot (tB (tCallW (spOf K (zp_is_within)) (WB E) (tCons (tOp (rIx K) (tVar 2) (tC (.int 3))) (tCons (tC (.int 0)) (tCons (tOp (rI0 fun i j => .int (i - j)) (tVar 1) (tC (.int 1))) tNil))))))) (tRet (tC (.bl false))) tNext)
  (tSeq (tIfS (tOr (tNot (tB (tCallW (spOf K (zp_is_row)) (WB E) (tCons (tVar 0) (tCons (tOp (rIx K) (tVar 2) (tC (.int 1))) tNil))))) (tNot (tB (tCallW (spOf K (zp_is_row)) (WB E) (tCons (tVar 0) (tCons (tOp (rIx K) (tVar 2) (tC (.int 2))) tNil)))))) (tRet (tC (.bl false))) tNext)
  (tRet (tAndV (tOp (rI0 fun i j => .bl (decide (i ≤ j))) (tCB (rLenA K) (tCons (tOp (rIx K) (tVar 2) (tC (.int 1))) tNil)) (tC (.int (2)))) (tAndV (tOp (rI0 fun i j => .bl (decide (i ≤ j))) (tCB (rLenA K) (tCons (tOp (rIx K) (tVar 2) (tC (.int 2))) tNil)) (tC (.int (2)))) (tOp (rI0 fun i j => .bl (decide (j < i))) (tOp (rAddA K) (tCB (rLenA K) (tCons (tOp (rIx K) (tVar 2) (tC (.int 1))) tNil)) (tCB (rLenA K) (tCons (tOp (rIx K) (tVar 2) (tC (.int 2))) tNil))) (tC (.int 0))))))))), _,
  (pss_cons (ps_if (PW.pt (pw_or (pt_not (pt_val (pe_callB call_isiA rfl T.f_isinstance (by decide +kernel) (pa_cons (pv 2) (pa_cons (zp_ty (n := "tuple") T.f_tuple (by decide +kernel) rfl) pa_nil))))) (pw_or1 (pt_cmpR (op_neD hr.units) (pe_callB call_lenA rfl T.f_len (by decide +kernel) (pa_cons (pv 2) pa_nil)) pe_int (nomark _))))) (pss_one (ps_ret pe_bl)) pss_nil)
  (pss_cons (ps_if (PW.pt (pw_or (pt_not (pt_val (zc_call (ok_is_within T) (hr.mono (by decide)) rfl tkB (pa_cons (pe_ix ix_seq (pv 2) pe_int (fun _ _ => rfl)) (pa_cons pe_int (pa_cons (pe_op op_sub (pv 1) pe_int) pa_nil)))))) (pw_or1 (pt_not (pt_val (zc_call (ok_is_within T) (hr.mono (by decide)) rfl tkB (pa_cons (pe_ix ix_seq (pv 2) pe_int (fun _ _ => rfl)) (pa_cons pe_int (pa_cons (pe_op op_sub (pv 1) pe_int) pa_nil))))))))) (pss_one (ps_ret pe_bl)) pss_nil)
  (pss_cons (ps_if (PW.pt (pw_or (pt_not (pt_val (zc_call (ok_is_row T) (hr.mono (by decide)) rfl tkB (pa_cons (pv 0) (pa_cons (pe_ix ix_seq (pv 2) pe_int (fun _ _ => rfl)) pa_nil))))) (pw_or1 (pt_not (pt_val (zc_call (ok_is_row T) (hr.mono (by decide)) rfl tkB (pa_cons (pv 0) (pa_cons (pe_ix ix_seq (pv 2) pe_int (fun _ _ => rfl)) pa_nil)))))))) (pss_one (ps_ret pe_bl)) pss_nil)
  (pss_one (ps_ret (pe_and (pe_cmpR op_le (pe_callB call_lenA rfl T.f_len (by decide +kernel) (pa_cons (pe_ix ix_seq (pv 2) pe_int (fun _ _ => rfl)) pa_nil)) (zp_int T.g_MOST_SAID rfl) (nomark _)) (pe_and (pe_cmpR op_le (pe_callB call_lenA rfl T.f_len (by decide +kernel) (pa_cons (pe_ix ix_seq (pv 2) pe_int (fun _ _ => rfl)) pa_nil)) (zp_int T.g_MOST_SAID rfl) (nomark _)) (pe_one (pe_cmpR op_gt (pe_op op_addA (pe_callB call_lenA rfl T.f_len (by decide +kernel) (pa_cons (pe_ix ix_seq (pv 2) pe_int (fun _ _ => rfl)) pa_nil)) (pe_callB call_lenA rfl T.f_len (by decide +kernel) (pa_cons (pe_ix ix_seq (pv 2) pe_int (fun _ _ => rfl)) pa_nil))) pe_int (nomark _)))))))))),
  (ls_seq (ls_if (lt_or (lt_not (lt_B (le_cb lra_isi (la_cons le_var (la_cons le_c la_nil))))) (lt_test (le_op lr_ne (le_cb lra_len (la_cons le_var la_nil)) le_c))) (ls_ret le_c) ls_next)
  (ls_seq (ls_if (lt_or (lt_not (lt_B (le_call hW (la_cons (le_op lr_ix le_var le_c) (la_cons le_c (la_cons (le_op lr_I0 le_var le_c) la_nil)))))) (lt_not (lt_B (le_call hW (la_cons (le_op lr_ix le_var le_c) (la_cons le_c (la_cons (le_op lr_I0 le_var le_c) la_nil))))))) (ls_ret le_c) ls_next)
  (ls_seq (ls_if (lt_or (lt_not (lt_B (le_call hW (la_cons le_var (la_cons (le_op lr_ix le_var le_c) la_nil))))) (lt_not (lt_B (le_call hW (la_cons le_var (la_cons (le_op lr_ix le_var le_c) la_nil)))))) (ls_ret le_c) ls_next)
  (ls_ret (le_andV (le_op lr_I0 (le_cb lra_len (la_cons (le_op lr_ix le_var le_c) la_nil)) le_c) (le_andV (le_op lr_I0 (le_cb lra_len (la_cons (le_op lr_ix le_var le_c) la_nil)) le_c) (le_op lr_I0 (le_op lr_add (le_cb lra_len (la_cons (le_op lr_ix le_var le_c) la_nil)) (le_cb lra_len (la_cons (le_op lr_ix le_var le_c) la_nil))) le_c))))))), ?z⟩)
  case z =>
    intro ds Qz h
    obtain ⟨size, many, a, rfl, ha, k⟩ := h
    have f0 := ha.f0
    have f1 := ha.f1
    have t0 := ha.t0
    have t1 := ha.t1
    have sl := ha.sl
    have hl := ha.hl
    have pos := ha.pos
    unfold arcD
    try walk_at "z"
    rw [if_neg (by decide)]
    refine ⟨_, 0, many - 1, rfl, rfl, ?_⟩
    rw [isW_in f0 (by omega)]
    try walk_at "z"
    refine ⟨_, 0, many - 1, rfl, rfl, ?_⟩
    rw [isW_in t0 (by omega)]
    try walk_at "z"
    refine ⟨size, a.2.1, rfl, by omega, ha.s, ?_⟩
    try walk_at "z"
    refine ⟨size, a.2.2.1, rfl, by omega, ha.h, ?_⟩
    try walk_at "z"
    rw [ints_len, ints_len, if_pos (by omega), if_pos (by omega), decide_eq_true (by omega)]
    exact k
theorem ok_Kind (T : Tx K mg base) : MakeAt P w K mg base 6 "Kind" (He.ga K "Kind") ["self", "size", "many", "arcs", "ends"] (zp_Kind___init__ K) := by
  obtain ⟨f, fd, F, M, b⟩ := T.in_Kind
  refine ⟨⟨f, fd, zok_core F sc_Kind___init__ hl_Kind___init__ (fun cdv A outer s H E w0 Ez hr hW => ⟨(tSeq (tDrop (tCallW (spOf K (zp_check_size)) (WB E) (tCons (tVar 1) tNil)))
  (tSeq (tIfS (tNot (tB (tCallW (spOf K (zp_is_within)) (WB E) (tCons (tVar 2) (tCons (tC (.int 1)) (tCons (tC (.int (400))) tNil)))))) tNever tNext)
  (tSeq (tIfS (tOr (tNot (tB (tCB (rIsiA K) (tCons (tVar 3) (tCons (tC (.ty "tuple")) tNil))))) (tTest (tOp (rI0 fun i j => .bl (decide (j < i))) (tCB (rLenA K) (tCons (tVar 3) tNil)) (tC (.int (6000)))))) tNever tNext)
  (tSeq (tFor (iEnumA K (tCons (tVar 3) tNil)) (gTup K 2 (gCons (gName 5) (gCons (gName 6) gNil)))
  (tIfS (tOr (tNot (tB (tCallW (spOf K (zp_is_arc)) (WB E) (tCons (tVar 1) (tCons (tVar 2) (tCons (tVar 6) tNil)))))) (tAnd (tTest (tOp (rI0 fun i j => .bl (decide (j < i))) (tVar 5) (tC (.int 0)))) (tNot (tTest (tOp (rLtY K) (tOp (rIx K) (tVar 3) (tOp (rI0 fun i j => .int (i - j)) (tVar 5) (tC (.int 1)))) (tVar 6)))))) tNever tNext))
  (tSeq (tIfS (tNot (tB (tCB (rIsiA K) (tCons (tVar 4) (tCons (tC (.ty "tuple")) tNil))))) tNever tNext)
  (tSeq (tFor (iEnumA K (tCons (tVar 4) tNil)) (gTup K 2 (gCons (gName 5) (gCons (gName 7) gNil)))
  (tIfS (tOr (tNot (tB (tCallW (spOf K (zp_is_within)) (WB E) (tCons (tVar 7) (tCons (tC (.int 0)) (tCons (tOp (rI0 fun i j => .int (i - j)) (tVar 2) (tC (.int 1))) tNil)))))) (tAnd (tTest (tOp (rI0 fun i j => .bl (decide (j < i))) (tVar 5) (tC (.int 0)))) (tNot (tTest (tOp (rI0 fun i j => .bl (decide (i < j))) (tOp (rIx K) (tVar 4) (tOp (rI0 fun i j => .int (i - j)) (tVar 5) (tC (.int 1)))) (tVar 7)))))) tNever tNext))
  (tSeq (sFld K (tVar 0) (tVar 1) "size")
  (tSeq (sFld K (tVar 0) (tVar 2) "many")
  (tSeq (sFld K (tVar 0) (tVar 3) "arcs")
  (sFld K (tVar 0) (tVar 4) "ends")))))))))), _,
  (pss_cons (ps_expr (zc_call (ok_check_size T) (hr.mono (by decide)) rfl tkB (pa_cons (pv 1) pa_nil)))
  (pss_cons (ps_if (pt_not (pt_val (zc_call (ok_is_within T) (hr.mono (by decide)) rfl tkB (pa_cons (pv 2) (pa_cons pe_int (pa_cons (zp_int T.g_MOST_STATES rfl) pa_nil)))))) (pss_one ps_never) pss_nil)
  (pss_cons (ps_if (PW.pt (pw_or (pt_not (pt_val (pe_callB call_isiA rfl T.f_isinstance (by decide +kernel) (pa_cons (pv 3) (pa_cons (zp_ty (n := "tuple") T.f_tuple (by decide +kernel) rfl) pa_nil))))) (pw_or1 (pt_cmpR op_gt (pe_callB call_lenA rfl T.f_len (by decide +kernel) (pa_cons (pv 3) pa_nil)) (zp_int T.g_MOST_ARCS rfl) (nomark _))))) (pss_one ps_never) pss_nil)
  (pss_cons (ps_for (passes_of rfl) rfl (pi_enumA rfl T.f_enumerate (pa_cons (pv 3) pa_nil)) (pg_tup rfl (pgs_cons (pg_name (i := 5) sc_Kind___init__.nd rfl (Or.inl rfl)) (pgs_cons (pg_name (i := 6) sc_Kind___init__.nd rfl (Or.inl rfl)) pgs_nil)))
  (pss_one (ps_if (PW.pt (pw_or (pt_not (pt_val (zc_call (ok_is_arc T) (hr.mono (by decide)) rfl tkB (pa_cons (pv 1) (pa_cons (pv 2) (pa_cons (pv 6) pa_nil)))))) (pw_or1 (PW.pt (pw_and (pt_cmpR op_gt (pv 5) pe_int (nomark _)) (pw_and1 (pt_not (pt_cmpR (op_ltY (room64 hr)) (pe_ix ix_seq (pv 3) (pe_op op_sub (pv 5) pe_int) (fun _ _ => rfl)) (pv 6) (nomark _))))))))) (pss_one ps_never) pss_nil)))
  (pss_cons (ps_if (pt_not (pt_val (pe_callB call_isiA rfl T.f_isinstance (by decide +kernel) (pa_cons (pv 4) (pa_cons (zp_ty (n := "tuple") T.f_tuple (by decide +kernel) rfl) pa_nil))))) (pss_one ps_never) pss_nil)
  (pss_cons (ps_for (passes_of rfl) rfl (pi_enumA rfl T.f_enumerate (pa_cons (pv 4) pa_nil)) (pg_tup rfl (pgs_cons (pg_name (i := 5) sc_Kind___init__.nd rfl (Or.inl rfl)) (pgs_cons (pg_name (i := 7) sc_Kind___init__.nd rfl (Or.inl rfl)) pgs_nil)))
  (pss_one (ps_if (PW.pt (pw_or (pt_not (pt_val (zc_call (ok_is_within T) (hr.mono (by decide)) rfl tkB (pa_cons (pv 7) (pa_cons pe_int (pa_cons (pe_op op_sub (pv 2) pe_int) pa_nil)))))) (pw_or1 (PW.pt (pw_and (pt_cmpR op_gt (pv 5) pe_int (nomark _)) (pw_and1 (pt_not (pt_cmpR op_lt (pe_ix ix_seq (pv 4) (pe_op op_sub (pv 5) pe_int) (fun _ _ => rfl)) (pv 7) (nomark _))))))))) (pss_one ps_never) pss_nil)))
  (pss_cons (ps_fld (pv 0) (pv 1) rfl)
  (pss_cons (ps_fld (pv 0) (pv 2) rfl)
  (pss_cons (ps_fld (pv 0) (pv 3) rfl)
  (pss_one (ps_fld (pv 0) (pv 4) rfl))))))))))),
  (ls_seq (ls_drop (le_call hW (la_cons le_var la_nil)))
  (ls_seq (ls_if (lt_not (lt_B (le_call hW (la_cons le_var (la_cons le_c (la_cons le_c la_nil)))))) ls_never ls_next)
  (ls_seq (ls_if (lt_or (lt_not (lt_B (le_cb lra_isi (la_cons le_var (la_cons le_c la_nil))))) (lt_test (le_op lr_I0 (le_cb lra_len (la_cons le_var la_nil)) le_c))) ls_never ls_next)
  (ls_seq (ls_for (li_enum (la_cons le_var la_nil)) (lg_tup (lgs_cons lg_name (lgs_cons lg_name lgs_nil)))
  (ls_if (lt_or (lt_not (lt_B (le_call hW (la_cons le_var (la_cons le_var (la_cons le_var la_nil)))))) (lt_and (lt_test (le_op lr_I0 le_var le_c)) (lt_not (lt_test (le_op lr_ltY (le_op lr_ix le_var (le_op lr_I0 le_var le_c)) le_var))))) ls_never ls_next))
  (ls_seq (ls_if (lt_not (lt_B (le_cb lra_isi (la_cons le_var (la_cons le_c la_nil))))) ls_never ls_next)
  (ls_seq (ls_for (li_enum (la_cons le_var la_nil)) (lg_tup (lgs_cons lg_name (lgs_cons lg_name lgs_nil)))
  (ls_if (lt_or (lt_not (lt_B (le_call hW (la_cons le_var (la_cons le_c (la_cons (le_op lr_I0 le_var le_c) la_nil)))))) (lt_and (lt_test (le_op lr_I0 le_var le_c)) (lt_not (lt_test (le_op lr_I0 (le_op lr_ix le_var (le_op lr_I0 le_var le_c)) le_var))))) ls_never ls_next))
  (ls_seq (ls_fld le_var le_var)
  (ls_seq (ls_fld le_var le_var)
  (ls_seq (ls_fld le_var le_var)
  (ls_fld le_var le_var)))))))))), ?z⟩), M, T.a_Kind, b⟩⟩
  case z =>
    intro ds Qz h
    obtain ⟨x, dx, size, many, arcs, ends, rfl, hx, hk, k⟩ := h
    have f1 : FldOk K (He.ga K "Kind") "size" := ⟨T.c_Kind, T.na_Kind_size⟩
    have f2 : FldOk K (He.ga K "Kind") "many" := ⟨T.c_Kind, T.na_Kind_many⟩
    have f3 : FldOk K (He.ga K "Kind") "arcs" := ⟨T.c_Kind, T.na_Kind_arcs⟩
    have f4 : FldOk K (He.ga K "Kind") "ends" := ⟨T.c_Kind, T.na_Kind_ends⟩
    have m1 := hk.m1
    have m2 := hk.m2
    have hl := hk.l
    have hrl : (arcs.map arcD).length = arcs.length := List.length_map ..
    unfold arcsD
    try walk_at "z"
    refine ⟨size, rfl, hk.s1, hk.s2, ?_⟩
    try walk_at "z"
    refine ⟨_, 1, 400, rfl, rfl, ?_⟩
    rw [isW_in hk.m1 hk.m2]
    try walk_at "z"
    rw [if_neg (by omega)]
    refine zloop (fun i δ M' => M' = w0.M ∧ ∃ a b c, δ = [some (.v (.ref x)), some (.v (.int size)), some (.v (.int many)), some (.tup (arcs.map arcD)), some (rowD ends), a, b, c]) ?_ ?_ ⟨rfl, _, _, _, rfl⟩
    · rintro i d δ M' kk hd ⟨rfl, a, b, c, rfl⟩ hkk
      obtain ⟨e, he, rfl⟩ := enumD_get hd
      rw [List.getElem?_map] at he
      cases e1 : arcs[i]? with
      | none => rw [e1] at he; cases he
      | some q =>
        rw [e1] at he
        cases he
        try walk_at "z"
        refine ⟨size, many, q, rfl, hk.a q (List.mem_of_getElem? e1), ?_⟩
        try walk_at "z"
        by_cases hi : 0 < i
        · rw [if_pos (by omega)]
          have hl : i - 1 < arcs.length := by
            have := (List.getElem?_eq_some_iff.mp e1).1
            omega
          refine ⟨arcD arcs[i - 1], by rw [show ((i : Nat) : Int) - 1 = ((i - 1 : Nat) : Int) by omega, zat_nat, List.getElem?_map, List.getElem?_eq_getElem hl]; rfl, ltOk_arc, ?_⟩
          have lt : aLt arcs[i - 1] q = true := by
            have := List.pairwise_iff_getElem.mp hk.srt (i - 1) i hl (List.getElem?_eq_some_iff.mp e1).1 (by omega)
            rw [(List.getElem?_eq_some_iff.mp e1).2] at this
            exact this
          rw [ltD_arc, lt]
          try walk_at "z"
          exact hkk _ _ ⟨rfl, _, _, _, rfl⟩
        · rw [if_neg (by omega)]
          exact hkk _ _ ⟨rfl, _, _, _, rfl⟩
    · rintro δ M' ⟨rfl, a, b, c, rfl⟩
      try walk_at "z"
      refine zloop (fun i δ M' => M' = w0.M ∧ ∃ a b c, δ = [some (.v (.ref x)), some (.v (.int size)), some (.v (.int many)), some (.tup (arcs.map arcD)), some (rowD ends), a, b, c]) ?_ ?_ ⟨rfl, _, _, _, rfl⟩
      · rintro i d δ M' kk hd ⟨rfl, a, b, c, rfl⟩ hkk
        obtain ⟨e, he, rfl⟩ := enumD_get hd
        rw [Zl.ints_get] at he
        cases e1 : ends[i]? with
        | none => rw [e1] at he; cases he
        | some v =>
          rw [e1] at he
          cases he
          have hv := hk.eb v (List.mem_of_getElem? e1)
          try walk_at "z"
          refine ⟨_, 0, many - 1, rfl, rfl, ?_⟩
          rw [isW_in hv.1 (by omega)]
          try walk_at "z"
          by_cases hi : 0 < i
          · rw [if_pos (by omega)]
            have hl : i - 1 < ends.length := by
              have := (List.getElem?_eq_some_iff.mp e1).1
              omega
            refine ⟨.v (.int ends[i - 1]), by rw [show ((i : Nat) : Int) - 1 = ((i - 1 : Nat) : Int) by omega, zat_nat, Zl.ints_get, List.getElem?_eq_getElem hl]; rfl, ?_⟩
            have lt : ends[i - 1] < v := by
              have := List.pairwise_iff_getElem.mp hk.e (i - 1) i hl (List.getElem?_eq_some_iff.mp e1).1 (by omega)
              rw [(List.getElem?_eq_some_iff.mp e1).2] at this
              exact this
            try walk_at "z"
            rw [if_neg (by omega)]
            exact hkk _ _ ⟨rfl, _, _, _, rfl⟩
          · rw [if_neg (by omega)]
            exact hkk _ _ ⟨rfl, _, _, _, rfl⟩
      · rintro δ M' ⟨rfl, a, b, c, rfl⟩
        try walk_at "z"
        refine ⟨_, dx, _, hx, f1, by simp, ?_⟩
        try walk_at "z"
        refine ⟨_, _, _, ⟨rfl, rfl, rfl⟩, f2, by rw [knP1]; simp, ?_⟩
        try walk_at "z"
        refine ⟨_, _, _, ⟨rfl, rfl, rfl⟩, f3, by rw [knP1, knP2]; simp, ?_⟩
        try walk_at "z"
        refine ⟨_, _, _, ⟨rfl, rfl, rfl⟩, f4, by rw [knP1, knP2, knP3]; simp, ?_⟩
        try walk_at "z"
        rw [knP1, knP2, knP3, knP4]
        exact k
theorem ok_check_kind (T : Tx K mg base) : DefAt P w K mg base 3 "check_kind" ["kind"] (zp_check_kind K) := by
  refine zok T.d_check_kind sc_check_kind hl_check_kind (fun f cdv A outer s H E w0 Ez hr hW => ⟨(tIfS (tNot (tB (tCB (rIsiA K) (tCons (tVar 0) (tCons (tC (.ref (He.ga K "Kind"))) tNil))))) (tRz (WB E) (tX0 (He.ga K "NoKind"))) tNext), _,
  (pss_one (ps_if (pt_not (pt_val (pe_callB call_isiA rfl T.f_isinstance (by decide +kernel) (pa_cons (pv 0) (pa_cons (zp_ref T.a_Kind rfl) pa_nil))))) (pss_one (zc_raise0 T.x0_NoKind rfl rfl tkB)) pss_nil)),
  (ls_if (lt_not (lt_B (le_cb lra_isi (la_cons le_var (la_cons le_c la_nil))))) (ls_rz hW lx_0) ls_next), ?z⟩)
  case z =>
    intro ds Qz h
    obtain ⟨d, rfl, h⟩ := h
    rcases h with ⟨size, many, arcs, ends, rfl, k⟩ | ⟨hn, k⟩
    · try walk_at "z"
      rw [e_isiI T.s_Kind (kit_self _)]
      try walk_at "z"
      exact k
    · try walk_at "z"
      rw [e_isiC hn fun n hn => by rcases hn with rfl | rfl | rfl | rfl | rfl | rfl | rfl; exact T.k_NoneType_Kind; exact T.k_bool_Kind; exact T.k_int_Kind; exact T.k_str_Kind; exact T.k_tuple_Kind; exact T.k_list_Kind; exact T.k_dict_Kind]
      try walk_at "z"
      exact k
theorem ok_is_level_kind (T : Tx K mg base) : DefAt P w K mg base 1 "is_level_kind" ["kind"] (zp_is_level_kind K) := by
  refine zok T.d_is_level_kind sc_is_level_kind hl_is_level_kind (fun f cdv A outer s H E w0 Ez hr hW => ⟨(tRet (tCB (rAll K) (tCons (tLc (iSeq K (tFld K (tVar 0) "arcs")) (gTup K 4 (gCons (gName 1) (gCons (gName 2) (gCons (gName 3) (gCons (gName 4) gNil))))) tYes (tAndV (tOp (rEqD K) (tCB (rLenA K) (tCons (tVar 2) tNil)) (tC (.int 1))) (tOp (rEqD K) (tCB (rLenA K) (tCons (tVar 3) tNil)) (tC (.int 1)))) [1, 2, 3, 4]) tNil))), _,
  (pss_one (ps_ret (pe_callB (cr_all rfl) rfl T.f_all (by decide +kernel) (pa_cons (pe_lc (own := [("state", 1), ("said", 2), ("heard", 3), ("later", 4)]) rfl sc_is_level_kind.nd (pi_seq (pe_fld (pv 0) rfl)) (blkOk_by (by kernel_rfl)) (fun _ _ _ _ _ => (pg_tup rfl (pgs_cons (pg_name (i := 1) sc_is_level_kind.nd rfl (Or.inl rfl)) (pgs_cons (pg_name (i := 2) sc_is_level_kind.nd rfl (Or.inl rfl)) (pgs_cons (pg_name (i := 3) sc_is_level_kind.nd rfl (Or.inl rfl)) (pgs_cons (pg_name (i := 4) sc_is_level_kind.nd rfl (Or.inl rfl)) pgs_nil)))))) (fun _ _ _ _ _ => pts_nil) (fun _ _ _ _ _ => (pe_and (pe_cmpR (op_eqD hr.units) (pe_callB call_lenA rfl T.f_len (by decide +kernel) (pa_cons (pv 2) pa_nil)) pe_int (nomark _)) (pe_one (pe_cmpR (op_eqD hr.units) (pe_callB call_lenA rfl T.f_len (by decide +kernel) (pa_cons (pv 3) pa_nil)) pe_int (nomark _)))))) pa_nil)))),
  (ls_ret (le_cb lra_all (la_cons (le_lc (li_seq (le_fld le_var)) (lg_tup (lgs_cons lg_name (lgs_cons lg_name (lgs_cons lg_name (lgs_cons lg_name lgs_nil))))) (mono_tup (mono_cons mono_name (mono_cons mono_name (mono_cons mono_name (mono_cons mono_name mono_nil))))) (wo_tup (wos_cons mono_name (wo_name (by decide)) (wos_cons mono_name (wo_name (by decide)) (wos_cons mono_name (wo_name (by decide)) (wos_cons mono_name (wo_name (by decide)) wos_nil))))) lt_yes (le_andV (le_op lr_eq (le_cb lra_len (la_cons le_var la_nil)) le_c) (le_op lr_eq (le_cb lra_len (la_cons le_var la_nil)) le_c))) la_nil))), ?z⟩)
  case z =>
    intro ds Qz h
    obtain ⟨size, many, arcs, ends, rfl, hk, k⟩ := h
    have f3 : FldOk K (He.ga K "Kind") "arcs" := ⟨T.c_Kind, T.na_Kind_arcs⟩
    have hl := hk.l
    try walk_at "z"
    refine ⟨f3, _, knL3, ?_⟩
    unfold arcsD
    try walk_at "z"
    refine zlc (fun i acc M' => M' = w0.M ∧ acc = (arcs.take i).map fun a => .v (.bl (lvA a))) (by rw [List.length_map, sizeLine_eq]; omega) ?_ ?_ ⟨rfl, rfl⟩
    · rintro i d acc M' k1 k2 hd ⟨rfl, rfl⟩ hk1 hk2
      rw [List.getElem?_map] at hd
      cases e1 : arcs[i]? with
      | none => rw [e1] at hd; cases hd
      | some a =>
        rw [e1] at hd
        cases hd
        unfold arcD
        try walk_at "z"
        rw [ints_len, ints_len]
        have et : ∀ b : Bool, lvA a = b → k1 (.v (.bl b)) w0.M := fun b hb => hk1 _ _ ⟨rfl, by rw [List.take_succ, e1, List.map_append, ← hb]; rfl⟩
        by_cases q : a.2.1.length = 1
        · rw [if_pos (by omega)]
          refine et _ ?_
          unfold lvA
          rw [decide_eq_true q, Bool.true_and]
          exact decide_eq_decide.mpr (by omega)
        · rw [if_neg (by omega)]
          refine et _ ?_
          unfold lvA
          rw [decide_eq_false q, Bool.false_and]
    · rintro acc M' ⟨rfl, rfl⟩ _
      rw [List.length_map, List.take_length]
      try walk_at "z"
      exact k
theorem ok_is_level (T : Tx K mg base) : DefAt P w K mg base 4 "is_level" ["kind"] (zp_is_level K) := by
  refine zok T.d_is_level sc_is_level hl_is_level (fun f cdv A outer s H E w0 Ez hr hW => ⟨(tSeq (tDrop (tCallW (spOf K (zp_check_kind K)) (WB E) (tCons (tVar 0) tNil)))
  (tRet (tCallW (spOf K (zp_is_level_kind K)) (WB E) (tCons (tVar 0) tNil)))), _,
  (pss_cons (ps_expr (zc_call (ok_check_kind T) (hr.mono (by decide)) rfl tkB (pa_cons (pv 0) pa_nil)))
  (pss_one (ps_ret (zc_call (ok_is_level_kind T) (hr.mono (by decide)) rfl tkB (pa_cons (pv 0) pa_nil))))),
  (ls_seq (ls_drop (le_call hW (la_cons le_var la_nil)))
  (ls_ret (le_call hW (la_cons le_var la_nil)))), ?z⟩)
  case z =>
    intro ds Qz h
    obtain ⟨size, many, arcs, ends, rfl, hk, k⟩ := h
    try walk_at "z"
    refine ⟨_, rfl, .inl ⟨size, many, arcs, ends, rfl, ?_⟩⟩
    try walk_at "z"
    exact ⟨size, many, arcs, ends, rfl, hk, k⟩
theorem ok_kept_arcs (T : Tx K mg base) : DefAt P w K mg base 1 "kept_arcs" ["size", "state"] (zp_kept_arcs) := by
  refine zok T.d_kept_arcs sc_kept_arcs hl_kept_arcs (fun f cdv A outer s H E w0 Ez hr hW => ⟨(tRet (tLc (iRng1 (tCons (tVar 0) tNil)) (gName 2) tYes (tTup (tCons (tVar 1) (tCons (tTup (tCons (tVar 2) tNil)) (tCons (tTup (tCons (tVar 2) tNil)) (tCons (tVar 1) tNil))))) [2])), _,
  (pss_one (ps_ret (pe_lc (own := [("sign", 2)]) rfl sc_kept_arcs.nd (pi_range1 rfl T.f_range (pa_cons (pv 0) pa_nil)) (blkOk_by (by kernel_rfl)) (fun _ _ _ _ _ => (pg_name (i := 2) sc_kept_arcs.nd rfl (Or.inl rfl))) (fun _ _ _ _ _ => pts_nil) (fun _ _ _ _ _ => (pe_tup (pa_cons (pv 1) (pa_cons (pe_tup (pa_cons (pv 2) pa_nil)) (pa_cons (pe_tup (pa_cons (pv 2) pa_nil)) (pa_cons (pv 1) pa_nil))))))))),
  (ls_ret (le_lc (li_rng1 (la_cons le_var la_nil)) lg_name mono_name (wo_name (by decide)) lt_yes (le_tup (la_cons le_var (la_cons (le_tup (la_cons le_var la_nil)) (la_cons (le_tup (la_cons le_var la_nil)) (la_cons le_var la_nil))))))), ?z⟩)
  case z =>
    intro ds Qz h
    obtain ⟨size, st, rfl, s1, s2, k⟩ := h
    try walk_at "z"
    refine ⟨by omega, by omega, ?_⟩
    refine zlc (fun i acc M' => M' = w0.M ∧ acc = ((List.range i).map fun (s : Nat) => ((st, [(s : Int)], [(s : Int)], st) : Arc)).map arcD) (by rw [List.length_map, List.length_range, sizeLine_eq]; omega) ?_ ?_ ⟨rfl, rfl⟩
    · rintro i d acc M' k1 k2 hd ⟨rfl, rfl⟩ hk1 hk2
      obtain ⟨hi, rfl⟩ := rg_at hd
      try walk_at "z"
      refine hk1 _ _ ⟨rfl, ?_⟩
      rw [List.range_succ, List.map_append, List.map_append]
      rfl
    · rintro acc M' ⟨rfl, rfl⟩ _
      rw [List.length_map, List.length_range]
      exact k
theorem ok_unlike_pairs (T : Tx K mg base) : DefAt P w K mg base 1 "unlike_pairs" ["size"] (zp_unlike_pairs) := by
  refine zok T.d_unlike_pairs sc_unlike_pairs hl_unlike_pairs (fun f cdv A outer s H E w0 Ez hr hW => ⟨(tSeq (tAsg (tLst tNil) (gName 1))
  (tSeq (tFor (iRng1 (tCons (tVar 0) tNil)) (gName 2)
  (tDrop (tBM K "list" rExtend (tVar 1) (tCons (tLc (iRng1 (tCons (tVar 0) tNil)) (gName 3) (tTest (tOp (rNeD K) (tVar 3) (tVar 2))) (tTup (tCons (tVar 2) (tCons (tVar 3) tNil))) [3]) tNil))))
  (tRet (tVar 1)))), _,
  (pss_cons (ps_set (i := 1) sc_unlike_pairs.nd rfl (Or.inl rfl) (pe_lst pa_nil))
  (pss_cons (ps_for (passes_of rfl) rfl (pi_range1 rfl T.f_range (pa_cons (pv 0) pa_nil)) (pg_name (i := 2) sc_unlike_pairs.nd rfl (Or.inr rfl))
  (pss_one (ps_expr (pe_bm PySem.F.plainAttrs_list PySem.F.slot_list_extend PySem.F.type_list_extend mt_extend (pv 1) (pa_cons (pe_lc (own := [("other", 3)]) rfl sc_unlike_pairs.nd (pi_range1 rfl T.f_range (pa_cons (pv 0) pa_nil)) (blkOk_by (by kernel_rfl)) (fun _ _ _ _ _ => (pg_name (i := 3) sc_unlike_pairs.nd rfl (Or.inl rfl))) (fun _ _ _ _ _ => (pts_one (pt_cmpR (op_neD hr.units) (pv 3) (pv 2) (nomark _)))) (fun _ _ _ _ _ => (pe_tup (pa_cons (pv 2) (pa_cons (pv 3) pa_nil))))) pa_nil)))))
  (pss_one (ps_ret (pv 1))))),
  (ls_seq (ls_asg (le_lstM la_nil) lg_name)
  (ls_seq (ls_for (li_rng1 (la_cons le_var la_nil)) lg_name
  (ls_drop (le_bmL lrm_extend le_var (la_cons (le_lc (li_rng1 (la_cons le_var la_nil)) lg_name mono_name (wo_name (by decide)) (lt_test (le_op lr_ne le_var le_var)) (le_tup (la_cons le_var (la_cons le_var la_nil)))) la_nil))))
  (ls_ret (le_set le_var)))), ?z⟩)
  case z =>
    intro ds Qz h
    obtain ⟨size, rfl, s1, s2, k⟩ := h
    try walk_at "z"
    intro p hp
    refine ⟨by omega, by omega, ?_⟩
    refine zloop (fun i δ M' => ∃ a b, δ = [some (.v (.int size)), some (.v (.ref p)), a, b] ∧ M' p = some (.lst ((upP size.toNat i).map keyD)) ∧ Kp w0.M M') ?_ ?_ ⟨_, _, rfl, mput_same, (Kp.rf _).put hp⟩
    · rintro i d δ M' kk hd ⟨a, b, rfl, e1, kp⟩ hk
      obtain ⟨hi, rfl⟩ := rg_at hd
      try walk_at "z"
      refine ⟨⟨_, e1⟩, by omega, by omega, ?_⟩
      refine zlc (fun j acc M2 => M2 = M' ∧ acc = (((List.range j).filter fun b => decide (b ≠ i)).map fun (b : Nat) => ((i : Int), (b : Int))).map keyD) (by rw [List.length_map, List.length_range, sizeLine_eq]; omega) ?_ ?_ ⟨rfl, rfl⟩
      · rintro j d acc M2 k1 k2 hd ⟨rfl, rfl⟩ hk1 hk2
        obtain ⟨hj, rfl⟩ := rg_at hd
        try walk_at "z"
        by_cases q : j = i
        · rw [if_neg (by omega)]
          refine hk2 _ ⟨rfl, ?_⟩
          rw [List.range_succ, List.filter_append, List.filter_cons]
          simp [q]
        · rw [if_pos (by omega)]
          refine hk1 _ _ ⟨rfl, ?_⟩
          rw [List.range_succ, List.filter_append, List.filter_cons]
          simp [q, keyD]
      · rintro acc M2 ⟨rfl, rfl⟩ hl
        simp only [List.length_map, List.length_range] at hl ⊢
        have l1 : (upP size.toNat i).length ≤ 144 := Nat.le_trans upP_len (Nat.le_trans (Nat.mul_le_mul (show i ≤ 12 by omega) (show size.toNat ≤ 12 by omega)) (by decide))
        refine ⟨_, e1, by rw [List.length_map]; omega, hk _ _ ⟨_, _, rfl, ?_, kp.put hp⟩⟩
        rw [mput_same, ← List.map_append, upP_succ]
        rfl
    · rintro δ M' ⟨a, b, rfl, e1, kp⟩
      rw [List.length_map, List.length_range] at e1
      try walk_at "z"
      exact ⟨_, e1, k _ (kp.del hp)⟩
theorem ok_two_signs (T : Tx K mg base) : DefAt P w K mg base 8 "two_signs" ["size", "far", "is_exchange"] (zp_two_signs K) := by
  refine zok T.d_two_signs sc_two_signs hl_two_signs (fun f cdv A outer s H E w0 Ez hr hW => ⟨(tSeq (tAsg (tCallW (spOf K (zp_unlike_pairs)) (WB E) (tCons (tVar 0) tNil)) (gName 3))
  (tSeq (tAsg (tTup (tCons (tOp (rAddA K) (tCallW (spOf K (zp_kept_arcs)) (WB E) (tCons (tVar 0) (tCons (tC (.int 0)) tNil))) (tCallW (spOf K (zp_kept_arcs)) (WB E) (tCons (tVar 0) (tCons (tC (.int 1)) tNil)))) (tCons (tC (.int 2)) tNil))) (gTup K 2 (gCons (gName 4) (gCons (gName 5) gNil))))
  (tSeq (tFor (iSeq K (tVar 3)) (gTup K 2 (gCons (gName 6) (gCons (gName 7) gNil)))
  (tSeq (tDrop (tBM K "list" rAppend (tVar 4) (tCons (tTup (tCons (tC (.int 0)) (tCons (tTup (tCons (tVar 6) tNil)) (tCons (tTup (tCons (tVar 7) tNil)) (tCons (tVar 5) tNil))))) tNil)))
  (tSeq (tFor (iRng1 (tCons (tOp (rI0 fun i j => .int (i - j)) (tVar 1) (tC (.int 1))) tNil)) (gName 8)
  (tSeq (tDrop (tBM K "list" rExtend (tVar 4) (tCons (tLc (iRng1 (tCons (tVar 0) tNil)) (gName 9) tYes (tTup (tCons (tVar 5) (tCons (tTup (tCons (tVar 9) tNil)) (tCons (tTup (tCons (tVar 9) tNil)) (tCons (tOp (rAddA K) (tVar 5) (tC (.int 1))) tNil))))) [9]) tNil)))
  (tAug 5 (tC (.int 1)) (ipI fun i j => i + j))))
  (tSeq (tAsg (tIf (tB (tVar 2)) (tTup (tCons (tTup (tCons (tVar 7) tNil)) (tCons (tTup (tCons (tVar 6) tNil)) tNil))) (tTup (tCons (tTup (tCons (tVar 6) tNil)) (tCons (tTup (tCons (tVar 7) tNil)) tNil)))) (gName 10))
  (tSeq (tDrop (tBM K "list" rAppend (tVar 4) (tCons (tOp (rAddA K) (tOp (rAddA K) (tTup (tCons (tVar 5) tNil)) (tVar 10)) (tTup (tCons (tC (.int 1)) tNil))) tNil)))
  (tAug 5 (tC (.int 1)) (ipI fun i j => i + j)))))))
  (tRet (tMakeW (He.ga K "Kind") (spOf K (zp_Kind___init__ K)) (WB E) (tCons (tVar 0) (tCons (tVar 5) (tCons (tCB (rTuple K) (tCons (tCB (rSrtY K) (tCons (tVar 4) tNil)) tNil)) (tCons (tTup (tCons (tC (.int 1)) tNil)) tNil))))))))), _,
  (pss_cons (ps_set (i := 3) sc_two_signs.nd rfl (Or.inl rfl) (zc_call (ok_unlike_pairs T) (hr.mono (by decide)) rfl tkB (pa_cons (pv 0) pa_nil)))
  (pss_cons (ps_asg (pe_tup (pa_cons (pe_op op_addA (zc_call (ok_kept_arcs T) (hr.mono (by decide)) rfl tkB (pa_cons (pv 0) (pa_cons pe_int pa_nil))) (zc_call (ok_kept_arcs T) (hr.mono (by decide)) rfl tkB (pa_cons (pv 0) (pa_cons pe_int pa_nil)))) (pa_cons pe_int pa_nil))) (pg_tup rfl (pgs_cons (pg_name (i := 4) sc_two_signs.nd rfl (Or.inl rfl)) (pgs_cons (pg_name (i := 5) sc_two_signs.nd rfl (Or.inr rfl)) pgs_nil))))
  (pss_cons (ps_for (passes_of rfl) rfl (pi_seq (pv 3)) (pg_tup rfl (pgs_cons (pg_name (i := 6) sc_two_signs.nd rfl (Or.inl rfl)) (pgs_cons (pg_name (i := 7) sc_two_signs.nd rfl (Or.inl rfl)) pgs_nil)))
  (pss_cons (ps_expr (pe_bm PySem.F.plainAttrs_list PySem.F.slot_list_append PySem.F.type_list_append mt_append (pv 4) (pa_cons (pe_tup (pa_cons pe_int (pa_cons (pe_tup (pa_cons (pv 6) pa_nil)) (pa_cons (pe_tup (pa_cons (pv 7) pa_nil)) (pa_cons (pv 5) pa_nil))))) pa_nil)))
  (pss_cons (ps_for (passes_of rfl) rfl (pi_range1 rfl T.f_range (pa_cons (pe_op op_sub (pv 1) pe_int) pa_nil)) (pg_name (i := 8) sc_two_signs.nd rfl (Or.inl rfl))
  (pss_cons (ps_expr (pe_bm PySem.F.plainAttrs_list PySem.F.slot_list_extend PySem.F.type_list_extend mt_extend (pv 4) (pa_cons (pe_lc (own := [("sign", 9)]) rfl sc_two_signs.nd (pi_range1 rfl T.f_range (pa_cons (pv 0) pa_nil)) (blkOk_by (by kernel_rfl)) (fun _ _ _ _ _ => (pg_name (i := 9) sc_two_signs.nd rfl (Or.inl rfl))) (fun _ _ _ _ _ => pts_nil) (fun _ _ _ _ _ => (pe_tup (pa_cons (pv 5) (pa_cons (pe_tup (pa_cons (pv 9) pa_nil)) (pa_cons (pe_tup (pa_cons (pv 9) pa_nil)) (pa_cons (pe_op op_addA (pv 5) pe_int) pa_nil))))))) pa_nil)))
  (pss_one (ps_aug (i := 5) sc_two_signs.nd rfl (Or.inr rfl) pe_int ip_add))))
  (pss_cons (ps_set (i := 10) sc_two_signs.nd rfl (Or.inl rfl) (pe_ifExp (pt_val (pv 2)) (pe_tup (pa_cons (pe_tup (pa_cons (pv 7) pa_nil)) (pa_cons (pe_tup (pa_cons (pv 6) pa_nil)) pa_nil))) (pe_tup (pa_cons (pe_tup (pa_cons (pv 6) pa_nil)) (pa_cons (pe_tup (pa_cons (pv 7) pa_nil)) pa_nil)))))
  (pss_cons (ps_expr (pe_bm PySem.F.plainAttrs_list PySem.F.slot_list_append PySem.F.type_list_append mt_append (pv 4) (pa_cons (pe_op op_addA (pe_op op_addA (pe_tup (pa_cons (pv 5) pa_nil)) (pv 10)) (pe_tup (pa_cons pe_int pa_nil))) pa_nil)))
  (pss_one (ps_aug (i := 5) sc_two_signs.nd rfl (Or.inr rfl) pe_int ip_add)))))))
  (pss_one (ps_ret (zc_make (ok_Kind T) (hr.mono (by decide)) rfl tkB (pa_cons (pv 0) (pa_cons (pv 5) (pa_cons (pe_callTy call_tuple_of rfl T.f_tuple (by decide +kernel) (pa_cons (pe_callB (call_srtY (room64 hr)) rfl T.f_sorted (by decide +kernel) (pa_cons (pv 4) pa_nil)) pa_nil)) (pa_cons (pe_tup (pa_cons pe_int pa_nil)) pa_nil)))))))))),
  (ls_seq (ls_asg (le_call hW (la_cons le_var la_nil)) lg_name)
  (ls_seq (ls_asg (le_tup (la_cons (le_op lr_addM (le_call hW (la_cons le_var (la_cons le_c la_nil))) (le_call hW (la_cons le_var (la_cons le_c la_nil)))) (la_cons le_c la_nil))) (lg_tup (lgs_cons lg_name (lgs_cons lg_name lgs_nil))))
  (ls_seq (ls_for (li_seq le_var) (lg_tup (lgs_cons lg_name (lgs_cons lg_name lgs_nil)))
  (ls_seq (ls_drop (le_bmL lrm_append le_var (la_cons (le_tup (la_cons le_c (la_cons (le_tup (la_cons le_var la_nil)) (la_cons (le_tup (la_cons le_var la_nil)) (la_cons le_var la_nil))))) la_nil)))
  (ls_seq (ls_for (li_rng1 (la_cons (le_op lr_I0 le_var le_c) la_nil)) lg_name
  (ls_seq (ls_drop (le_bmL lrm_extend le_var (la_cons (le_lc (li_rng1 (la_cons le_var la_nil)) lg_name mono_name (wo_name (by decide)) lt_yes (le_tup (la_cons le_var (la_cons (le_tup (la_cons le_var la_nil)) (la_cons (le_tup (la_cons le_var la_nil)) (la_cons (le_op lr_add le_var le_c) la_nil)))))) la_nil)))
  (ls_aug le_c lr_ipI)))
  (ls_seq (ls_asg (le_if (lt_B le_var) (le_tup (la_cons (le_tup (la_cons le_var la_nil)) (la_cons (le_tup (la_cons le_var la_nil)) la_nil))) (le_tup (la_cons (le_tup (la_cons le_var la_nil)) (la_cons (le_tup (la_cons le_var la_nil)) la_nil)))) lg_name)
  (ls_seq (ls_drop (le_bmL lrm_append le_var (la_cons (le_op lr_add (le_op lr_add (le_tup (la_cons le_var la_nil)) le_var) (le_tup (la_cons le_c la_nil))) la_nil)))
  (ls_aug le_c lr_ipI))))))
  (ls_ret (le_make mk_Kind hW (la_cons le_var (la_cons le_var (la_cons (le_cb lra_tuple (la_cons (le_cb lra_srtY (la_cons le_var la_nil)) la_nil)) (la_cons (le_tup (la_cons le_c la_nil)) la_nil))))))))), ?z⟩)
  case z =>
    intro ds Qz h
    obtain ⟨size, far, b, rfl, s1, s2, f1, f2, k⟩ := h
    try walk_at "z"
    refine ⟨size, rfl, s1, s2, fun M1 kp1 => ?_⟩
    try walk_at "z"
    refine ⟨size, 0, rfl, s1, s2, ?_⟩
    try walk_at "z"
    refine ⟨size, 1, rfl, s1, s2, ?_⟩
    try walk_at "z"
    refine ⟨by rw [List.length_map, List.length_map, kept_len, kept_len]; omega, ?_⟩
    intro p hp
    refine zloop (fun i δ M' => ∃ (m : Int) (A : List Arc) (q6 q7 q8 q9 q10 : Option D), δ = [some (.v (.int size)), some (.v (.int far)), some (.v (.bl b)), some (.lst ((upP size.toNat size.toNat).map keyD)), some (.v (.ref p)), some (.v (.int m)), q6, q7, q8, q9, q10] ∧ 2 ≤ m ∧ m ≤ 2 + 2 * i ∧ A.length ≤ 24 + 26 * i ∧
      AX size m m A ∧ M' p = some (.lst (A.map arcD)) ∧ Kp w0.M M') ?_ ?_ ⟨2, keptA size 0 ++ keptA size 1, _, _, _, _, _, rfl, by omega, by omega, by rw [List.length_append, kept_len, kept_len]; omega, ax_kept, by rw [mput_same, List.map_append], kp1.put (kp1.no hp)⟩
    · rintro i d δ M' kk hd ⟨m, A, q6, q7, q8, q9, q10, rfl, m1, m2, hl, ax, e1, kp⟩ hk
      rw [List.getElem?_map] at hd
      cases ev : (upP size.toNat size.toNat)[i]? with
      | none => rw [ev] at hd; cases hd
      | some pr =>
        rw [ev] at hd
        cases hd
        obtain ⟨pa, pb, epr, pa1, pb1, pne⟩ := mem_upP.mp (List.mem_of_getElem? ev)
        have p0 : 0 ≤ pr.1 ∧ pr.1 < size ∧ 0 ≤ pr.2 ∧ pr.2 < size := by rw [epr]; refine ⟨?_, ?_, ?_, ?_⟩ <;> dsimp only <;> omega
        have hi : i < 144 := by
          have h1 := (List.getElem?_eq_some_iff.mp ev).1
          have h2 : (upP size.toNat size.toNat).length ≤ 12 * 12 := Nat.le_trans upP_len (Nat.mul_le_mul (show size.toNat ≤ 12 by omega) (show size.toNat ≤ 12 by omega))
          omega
        have nhp : w0.M p = none := kp1.no hp
        have ax1 : AX size m (m + 1) (A ++ [(0, [pr.1], [pr.2], m)]) := ax.add (ax_one ⟨Int.le_refl 0, by show (0 : Int) < m + 1; omega, by show 0 ≤ m; omega, by show m < m + 1; omega, fun x hx => by rw [List.mem_singleton.mp hx]; exact ⟨p0.1, p0.2.1⟩, fun x hx => by rw [List.mem_singleton.mp hx]; exact p0.2.2, Nat.le_succ 1, Nat.le_succ 1, Nat.succ_pos 1⟩ (show (0 : Int) < m by omega)) (Int.le_refl m) (by omega) fun x hx => by rw [List.mem_singleton.mp hx]; exact .inr (Int.le_refl m)
        unfold keyD
        try walk_at "z"
        refine ⟨⟨_, e1⟩, _, e1, by rw [List.length_map]; omega, by omega, by omega, ?_⟩
        refine zloop (fun t δ M2 => ∃ (m' : Int) (A' : List Arc) (q8 q9 q10 : Option D), δ = [some (.v (.int size)), some (.v (.int far)), some (.v (.bl b)), some (.lst ((upP size.toNat size.toNat).map keyD)), some (.v (.ref p)), some (.v (.int m')), some (.v (.int pr.1)), some (.v (.int pr.2)), q8, q9, q10] ∧ m' = m + t ∧ A'.length ≤ A.length + 1 + 12 * t ∧
          AX size m' (m' + 1) A' ∧ M2 p = some (.lst (A'.map arcD)) ∧ Kp w0.M M2) ?_ ?_ ⟨m, _, _, _, _, rfl, by omega, by rw [List.length_append, List.length_singleton]; omega, ax1, by rw [mput_same, List.map_append]; rfl, kp.put nhp⟩
        · rintro t d δ M2 k2 hd ⟨m', A', q8, q9, q10, rfl, em, hl', ax', e2, kp2⟩ hk2
          obtain ⟨ht, rfl⟩ := rg_at hd
          try walk_at "z"
          refine ⟨⟨_, e2⟩, by omega, by omega, ?_⟩
          refine zlc (fun j acc M3 => M3 = M2 ∧ acc = ((List.range j).map fun (s : Nat) => ((m', [(s : Int)], [(s : Int)], m' + 1) : Arc)).map arcD) (by rw [List.length_map, List.length_range, sizeLine_eq]; omega) ?_ ?_ ⟨rfl, rfl⟩
          · rintro j d acc M3 k3 k4 hd ⟨rfl, rfl⟩ hk3 hk4
            obtain ⟨hj, rfl⟩ := rg_at hd
            try walk_at "z"
            refine hk3 _ _ ⟨rfl, ?_⟩
            rw [List.range_succ, List.map_append, List.map_append]
            rfl
          · rintro acc M3 ⟨rfl, rfl⟩ _
            try walk_at "z"
            simp only [List.length_map, List.length_range]
            refine ⟨_, e2, by rw [List.length_map]; omega, hk2 _ _ ⟨m' + 1, A' ++ passA size m' (m' + 1), _, _, _, rfl, by omega, by rw [List.length_append, pass_len]; omega, ?_, by rw [mput_same, List.map_append]; rfl, kp2.put nhp⟩⟩
            exact ax'.add (ax_pass (by omega) (by omega) (by omega) (by omega) (by omega)) (by omega) (by omega) fun x hx => by
              obtain ⟨s, _, rfl⟩ := List.mem_map.mp hx
              exact .inl (Int.le_refl m')
        · rintro δ M2 ⟨m', A', q8, q9, q10, rfl, em, hl', ax', e2, kp2⟩
          rw [List.length_map, List.length_range] at em hl'
          have one : ∀ s h : List Int, s.length = 1 → h.length = 1 → (∀ x ∈ s, 0 ≤ x ∧ x < size) → (∀ x ∈ h, 0 ≤ x ∧ x < size) → AX size (m' + 1) (m' + 1) (A' ++ [(m', s, h, 1)]) := fun s h l1 l2 b1 b2 =>
            ax'.add (ax_one ⟨by show 0 ≤ m'; omega, by show m' < m' + 1; omega, by show (0 : Int) ≤ 1; decide, by show 1 < m' + 1; omega, b1, b2, by show s.length ≤ 2; omega, by show h.length ≤ 2; omega, by show 0 < s.length + h.length; omega⟩ (show m' < m' + 1 by omega)) (by omega) (Int.le_refl _) fun x hx => by rw [List.mem_singleton.mp hx]; exact .inl (Int.le_refl m')
          cases b with
          | true =>
            try walk_at "z"
            refine ⟨⟨_, e2⟩, _, e2, by rw [List.length_map]; omega, hk _ _ ⟨m' + 1, A' ++ [(m', [pr.2], [pr.1], 1)], _, _, _, _, _, rfl, by omega, by omega, by rw [List.length_append, List.length_singleton]; omega, one _ _ rfl rfl (fun x hx => by rw [List.mem_singleton.mp hx]; exact p0.2.2) (fun x hx => by rw [List.mem_singleton.mp hx]; exact ⟨p0.1, p0.2.1⟩), by rw [mput_same, List.map_append]; rfl, kp2.put nhp⟩⟩
          | false =>
            try walk_at "z"
            refine ⟨⟨_, e2⟩, _, e2, by rw [List.length_map]; omega, hk _ _ ⟨m' + 1, A' ++ [(m', [pr.1], [pr.2], 1)], _, _, _, _, _, rfl, by omega, by omega, by rw [List.length_append, List.length_singleton]; omega, one _ _ rfl rfl (fun x hx => by rw [List.mem_singleton.mp hx]; exact ⟨p0.1, p0.2.1⟩) (fun x hx => by rw [List.mem_singleton.mp hx]; exact p0.2.2), by rw [mput_same, List.map_append]; rfl, kp2.put nhp⟩⟩
    · rintro δ M' ⟨m, A, q6, q7, q8, q9, q10, rfl, m1, m2, hl, ax, e1, kp⟩
      have h2 : (upP size.toNat size.toNat).length ≤ 12 * 12 := Nat.le_trans upP_len (Nat.mul_le_mul (show size.toNat ≤ 12 by omega) (show size.toNat ≤ 12 by omega))
      rw [List.length_map] at m2 hl
      have ok := ax.kok s1 s2 m1 (by omega) (by omega)
      try walk_at "z"
      refine ⟨_, e1, srtOk_arc (by rw [sizeLine_eq]; omega), ?_⟩
      rw [sortD_arc]
      exact ⟨size, m, _, [1], rfl, ok, k _ _ _ _ ok kp⟩
theorem ok_exchanged (T : Tx K mg base) : DefAt P w K mg base 9 "exchanged" ["size", "far"] (zp_exchanged K) := by
  refine zok T.d_exchanged sc_exchanged hl_exchanged (fun f cdv A outer s H E w0 Ez hr hW => ⟨(tSeq (tDrop (tCallW (spOf K (zp_check_size)) (WB E) (tCons (tVar 0) tNil)))
  (tSeq (tIfS (tNot (tB (tCallW (spOf K (zp_is_within)) (WB E) (tCons (tVar 1) (tCons (tC (.int 1)) (tCons (tC (.int (2))) tNil)))))) tNever tNext)
  (tRet (tCallW (spOf K (zp_two_signs K)) (WB E) (tCons (tVar 0) (tCons (tVar 1) (tCons (tC (.bl true)) tNil))))))), _,
  (pss_cons (ps_expr (zc_call (ok_check_size T) (hr.mono (by decide)) rfl tkB (pa_cons (pv 0) pa_nil)))
  (pss_cons (ps_if (pt_not (pt_val (zc_call (ok_is_within T) (hr.mono (by decide)) rfl tkB (pa_cons (pv 1) (pa_cons pe_int (pa_cons (zp_int T.g_MOST_FAR rfl) pa_nil)))))) (pss_one ps_never) pss_nil)
  (pss_one (ps_ret (zc_call (ok_two_signs T) (hr.mono (by decide)) rfl tkB (pa_cons (pv 0) (pa_cons (pv 1) (pa_cons pe_bl pa_nil)))))))),
  (ls_seq (ls_drop (le_call hW (la_cons le_var la_nil)))
  (ls_seq (ls_if (lt_not (lt_B (le_call hW (la_cons le_var (la_cons le_c (la_cons le_c la_nil)))))) ls_never ls_next)
  (ls_ret (le_call hW (la_cons le_var (la_cons le_var (la_cons le_c la_nil))))))), ?z⟩)
  case z =>
    intro ds Qz h
    obtain ⟨size, far, rfl, s1, s2, f1, f2, k⟩ := h
    try walk_at "z"
    refine ⟨size, rfl, s1, s2, ?_⟩
    try walk_at "z"
    refine ⟨_, 1, 2, rfl, rfl, ?_⟩
    rw [isW_in f1 f2]
    try walk_at "z"
    exact ⟨size, far, true, rfl, s1, s2, f1, f2, k⟩
theorem ok_twins (T : Tx K mg base) : DefAt P w K mg base 9 "twins" ["size"] (zp_made1 K) := by
  refine zok T.d_twins sc_twins hl_made1 (fun f cdv A outer s H E w0 Ez hr hW => ⟨(tSeq (tDrop (tCallW (spOf K (zp_check_size)) (WB E) (tCons (tVar 0) tNil)))
  (tRet (tCallW (spOf K (zp_two_signs K)) (WB E) (tCons (tVar 0) (tCons (tC (.int 1)) (tCons (tC (.bl false)) tNil)))))), _,
  (pss_cons (ps_expr (zc_call (ok_check_size T) (hr.mono (by decide)) rfl tkB (pa_cons (pv 0) pa_nil)))
  (pss_one (ps_ret (zc_call (ok_two_signs T) (hr.mono (by decide)) rfl tkB (pa_cons (pv 0) (pa_cons pe_int (pa_cons pe_bl pa_nil))))))),
  (ls_seq (ls_drop (le_call hW (la_cons le_var la_nil)))
  (ls_ret (le_call hW (la_cons le_var (la_cons le_c (la_cons le_c la_nil)))))), ?z⟩)
  case z =>
    intro ds Qz h
    obtain ⟨size, rfl, s1, s2, k⟩ := h
    try walk_at "z"
    refine ⟨size, rfl, s1, s2, ?_⟩
    try walk_at "z"
    exact ⟨size, 1, false, rfl, s1, s2, by decide, by decide, k⟩
theorem ok_is_pair (T : Tx K mg base) : DefAt P w K mg base 5 "is_pair" ["size", "thing"] (zp_is_pair) := by
  refine zok T.d_is_pair sc_is_pair hl_is_pair (fun f cdv A outer s H E w0 Ez hr hW => ⟨(tRet (tAndV (tCallW (spOf K (zp_is_row)) (WB E) (tCons (tVar 0) (tCons (tVar 1) tNil))) (tAndV (tOp (rEqD K) (tCB (rLenA K) (tCons (tVar 1) tNil)) (tC (.int 2))) (tOp (rNeD K) (tOp (rIx K) (tVar 1) (tC (.int 0))) (tOp (rIx K) (tVar 1) (tC (.int 1))))))), _,
  (pss_one (ps_ret (pe_and (zc_call (ok_is_row T) (hr.mono (by decide)) rfl tkB (pa_cons (pv 0) (pa_cons (pv 1) pa_nil))) (pe_and (pe_cmpR (op_eqD hr.units) (pe_callB call_lenA rfl T.f_len (by decide +kernel) (pa_cons (pv 1) pa_nil)) pe_int (nomark _)) (pe_one (pe_cmpR (op_neD hr.units) (pe_ix ix_seq (pv 1) pe_int (fun _ _ => rfl)) (pe_ix ix_seq (pv 1) pe_int (fun _ _ => rfl)) (nomark _))))))),
  (ls_ret (le_andV (le_call hW (la_cons le_var (la_cons le_var la_nil))) (le_andV (le_op lr_eq (le_cb lra_len (la_cons le_var la_nil)) le_c) (le_op lr_ne (le_op lr_ix le_var le_c) (le_op lr_ix le_var le_c))))), ?z⟩)
  case z =>
    intro ds Qz h
    obtain ⟨size, p, rfl, h1, h2, h3, h4, h5, k⟩ := h
    try walk_at "z"
    refine ⟨size, [p.1, p.2], rfl, by simp, fun x hx => ?_, ?_⟩
    · simp only [List.mem_cons, List.not_mem_nil, or_false] at hx
      rcases hx with rfl | rfl
      · exact ⟨h1, h2⟩
      · exact ⟨h3, h4⟩
    unfold keyD
    try walk_at "z"
    rw [if_pos (by decide), decide_eq_false h5]
    exact k
theorem ok_check_pairs (T : Tx K mg base) : DefAt P w K mg base 6 "check_pairs" ["size", "pairs"] (zp_check_pairs) := by
  refine zok T.d_check_pairs sc_check_pairs hl_check_pairs (fun f cdv A outer s H E w0 Ez hr hW => ⟨(tSeq (tIfS (tOr (tNot (tB (tCB (rIsiA K) (tCons (tVar 1) (tCons (tC (.ty "tuple")) tNil))))) (tNot (tB (tCB (rAll K) (tCons (tLc (iSeq K (tVar 1)) (gName 2) tYes (tCallW (spOf K (zp_is_pair)) W0 (tCons (tVar 0) (tCons (tVar 2) tNil))) [2]) tNil))))) tNever tNext)
  (tIfS (tNot (tB (tCB (rAll K) (tCons (tLc (RZ.iZipA K (tCons (tVar 1) (tCons (tSl (rSlS K) (tVar 1) (tPart (tC (.int 1))) tNoPart) tNil))) (gTup K 2 (gCons (gName 3) (gCons (gName 4) gNil))) tYes (tOp (rLtY K) (tVar 3) (tVar 4)) [3, 4]) tNil)))) tNever tNext)), _,
  (pss_cons (ps_if (PW.pt (pw_or (pt_not (pt_val (pe_callB call_isiA rfl T.f_isinstance (by decide +kernel) (pa_cons (pv 1) (pa_cons (zp_ty (n := "tuple") T.f_tuple (by decide +kernel) rfl) pa_nil))))) (pw_or1 (pt_not (pt_val (pe_callB (cr_all rfl) rfl T.f_all (by decide +kernel) (pa_cons (pe_lc (own := [("pair", 2)]) rfl sc_check_pairs.nd (pi_seq (pv 1)) (blkOk_by (by kernel_rfl)) (fun _ _ _ _ _ => (pg_name (i := 2) sc_check_pairs.nd rfl (Or.inl rfl))) (fun _ _ _ _ _ => pts_nil) (fun _ _ _ _ _ => (zc_call (ok_is_pair T) (hr.mono (by decide)) rfl tk0 (pa_cons (pv 0) (pa_cons (pv 2) pa_nil))))) pa_nil))))))) (pss_one ps_never) pss_nil)
  (pss_one (ps_if (pt_not (pt_val (pe_callB (cr_all rfl) rfl T.f_all (by decide +kernel) (pa_cons (pe_lc (own := [("one", 3), ("other", 4)]) rfl sc_check_pairs.nd (RZ.pi_zipA rfl T.f_zip (pa_cons (pv 1) (pa_cons (pe_slice sl_seqA (pv 1) (po_some pe_int) po_none) pa_nil))) (blkOk_by (by kernel_rfl)) (fun _ _ _ _ _ => (pg_tup rfl (pgs_cons (pg_name (i := 3) sc_check_pairs.nd rfl (Or.inl rfl)) (pgs_cons (pg_name (i := 4) sc_check_pairs.nd rfl (Or.inl rfl)) pgs_nil)))) (fun _ _ _ _ _ => pts_nil) (fun _ _ _ _ _ => (pe_cmpR (op_ltY (room64 hr)) (pv 3) (pv 4) (nomark _)))) pa_nil)))) (pss_one ps_never) pss_nil))),
  (ls_seq (ls_if (lt_or (lt_not (lt_B (le_cb lra_isi (la_cons le_var (la_cons le_c la_nil))))) (lt_not (lt_B (le_cb lra_all (la_cons (le_lc (li_seq le_var) lg_name mono_name (wo_name (by decide)) lt_yes (le_call ctW0' (la_cons le_var (la_cons le_var la_nil)))) la_nil))))) ls_never ls_next)
  (ls_if (lt_not (lt_B (le_cb lra_all (la_cons (le_lc (li_zip (la_cons le_var (la_cons (le_cut le_var (lo_some le_c) lo_none) la_nil))) (lg_tup (lgs_cons lg_name (lgs_cons lg_name lgs_nil))) (mono_tup (mono_cons mono_name (mono_cons mono_name mono_nil))) (wo_tup (wos_cons mono_name (wo_name (by decide)) (wos_cons mono_name (wo_name (by decide)) wos_nil))) lt_yes (le_op lr_ltY le_var le_var)) la_nil)))) ls_never ls_next)), ?z⟩)
  case z =>
    intro ds Qz h
    obtain ⟨size, ps, rfl, hp, k⟩ := h
    unfold pairsD
    try walk_at "z"
    have hl := hp.l
    refine zlc_map1 (fun d => .v (.bl true)) (by rw [List.length_map, sizeLine_eq]; omega) (fun d k1 k2 hd hk => ?_) ?_
    · obtain ⟨p, hm, rfl⟩ := List.mem_map.mp hd
      obtain ⟨h1, h2, h3, h4, h5⟩ := hp.b p hm
      try walk_at "z"
      exact ⟨size, p, rfl, h1, h2, h3, h4, h5, hk⟩
    try walk_at "z"
    rw [show (ps.map keyD).all (fun d => true) = true from List.all_eq_true.mpr fun _ _ => rfl]
    try walk_at "z"
    refine zlc_map (fun _ _ => .v (.bl true)) (by rw [zipD_len, List.length_map, sizeLine_eq]; omega) ?_ ?_
    · intro i d k1 k2 hd hk1
      rw [zipD_get, cut1_get, List.getElem?_map, List.getElem?_map] at hd
      cases e1 : ps[i]? with
      | none => rw [e1] at hd; cases hd
      | some p =>
        cases e2 : ps[i + 1]? with
        | none => rw [e1, e2] at hd; cases hd
        | some q =>
          rw [e1, e2] at hd
          cases hd
          have lt : pLt p q := by
            have := List.pairwise_iff_getElem.mp hp.s i (i + 1) (List.getElem?_eq_some_iff.mp e1).1 (List.getElem?_eq_some_iff.mp e2).1 (by omega)
            rw [(List.getElem?_eq_some_iff.mp e1).2, (List.getElem?_eq_some_iff.mp e2).2] at this
            exact this
          try walk_at "z"
          refine ⟨ltOk_pair, ?_⟩
          rw [ltD_pair lt]
          exact hk1
    · try walk_at "z"
      rw [List.all_eq_true.mpr fun _ _ => rfl]
      try walk_at "z"
      exact k
theorem ok_at_one_place (T : Tx K mg base) : DefAt P w K mg base 8 "at_one_place" ["size", "heard"] (zp_at_one_place K) := by
  refine zok T.d_at_one_place sc_at_one_place hl_at_one_place (fun f cdv A outer s H E w0 Ez hr hW => ⟨(tSeq (tAsg (tOp (rAddA K) (tOp (rAddA K) (tCallW (spOf K (zp_kept_arcs)) (WB E) (tCons (tVar 0) (tCons (tC (.int 0)) tNil))) (tCallW (spOf K (zp_kept_arcs)) (WB E) (tCons (tVar 0) (tCons (tC (.int 1)) tNil)))) (tLc (iSeq K (tVar 1)) (gTup K 2 (gCons (gName 3) (gCons (gName 4) gNil))) tYes (tTup (tCons (tC (.int 0)) (tCons (tVar 3) (tCons (tVar 4) (tCons (tC (.int 1)) tNil))))) [3, 4])) (gName 2))
  (tRet (tMakeW (He.ga K "Kind") (spOf K (zp_Kind___init__ K)) (WB E) (tCons (tVar 0) (tCons (tC (.int 2)) (tCons (tCB (rTuple K) (tCons (tCB (rSrtY K) (tCons (tVar 2) tNil)) tNil)) (tCons (tTup (tCons (tC (.int 1)) tNil)) tNil))))))), _,
  (pss_cons (ps_set (i := 2) sc_at_one_place.nd rfl (Or.inl rfl) (pe_op op_addA (pe_op op_addA (zc_call (ok_kept_arcs T) (hr.mono (by decide)) rfl tkB (pa_cons (pv 0) (pa_cons pe_int pa_nil))) (zc_call (ok_kept_arcs T) (hr.mono (by decide)) rfl tkB (pa_cons (pv 0) (pa_cons pe_int pa_nil)))) (pe_lc (own := [("one", 3), ("other", 4)]) rfl sc_at_one_place.nd (pi_seq (pv 1)) (blkOk_by (by kernel_rfl)) (fun _ _ _ _ _ => (pg_tup rfl (pgs_cons (pg_name (i := 3) sc_at_one_place.nd rfl (Or.inl rfl)) (pgs_cons (pg_name (i := 4) sc_at_one_place.nd rfl (Or.inl rfl)) pgs_nil)))) (fun _ _ _ _ _ => pts_nil) (fun _ _ _ _ _ => (pe_tup (pa_cons pe_int (pa_cons (pv 3) (pa_cons (pv 4) (pa_cons pe_int pa_nil)))))))))
  (pss_one (ps_ret (zc_make (ok_Kind T) (hr.mono (by decide)) rfl tkB (pa_cons (pv 0) (pa_cons pe_int (pa_cons (pe_callTy call_tuple_of rfl T.f_tuple (by decide +kernel) (pa_cons (pe_callB (call_srtY (room64 hr)) rfl T.f_sorted (by decide +kernel) (pa_cons (pv 2) pa_nil)) pa_nil)) (pa_cons (pe_tup (pa_cons pe_int pa_nil)) pa_nil)))))))),
  (ls_seq (ls_asg (le_op lr_add (le_op lr_add (le_call hW (la_cons le_var (la_cons le_c la_nil))) (le_call hW (la_cons le_var (la_cons le_c la_nil)))) (le_lc (li_seq le_var) (lg_tup (lgs_cons lg_name (lgs_cons lg_name lgs_nil))) (mono_tup (mono_cons mono_name (mono_cons mono_name mono_nil))) (wo_tup (wos_cons mono_name (wo_name (by decide)) (wos_cons mono_name (wo_name (by decide)) wos_nil))) lt_yes (le_tup (la_cons le_c (la_cons le_var (la_cons le_var (la_cons le_c la_nil))))))) lg_name)
  (ls_ret (le_make mk_Kind hW (la_cons le_var (la_cons le_c (la_cons (le_cb lra_tuple (la_cons (le_cb lra_srtY (la_cons le_var la_nil)) la_nil)) (la_cons (le_tup (la_cons le_c la_nil)) la_nil))))))), ?z⟩)
  case z =>
    intro ds Qz h
    obtain ⟨size, hs, rfl, s1, s2, hh, k⟩ := h
    try walk_at "z"
    refine ⟨size, 0, rfl, s1, s2, ?_⟩
    try walk_at "z"
    refine ⟨size, 1, rfl, s1, s2, ?_⟩
    try walk_at "z"
    refine ⟨by rw [List.length_map, List.length_map, kept_len, kept_len]; omega, ?_⟩
    have hl := hh.l
    refine zlc (fun i acc M' => M' = w0.M ∧ acc = ((hs.take i).map hrA).map arcD) (by rw [List.length_map, sizeLine_eq]; omega) ?_ ?_ ⟨rfl, rfl⟩
    · rintro i d acc M' k1 k2 hd ⟨rfl, rfl⟩ hk1 hk2
      rw [List.getElem?_map] at hd
      cases e1 : hs[i]? with
      | none => rw [e1] at hd; cases hd
      | some a =>
        rw [e1] at hd
        cases hd
        unfold hrdD
        try walk_at "z"
        refine hk1 _ _ ⟨rfl, ?_⟩
        rw [List.take_succ, e1, List.map_append, List.map_append]
        rfl
    · rintro acc M' ⟨rfl, rfl⟩ _
      rw [show (hs.map hrdD).length = hs.length from List.length_map .., List.take_length, ← List.map_append, ← List.map_append]
      refine ⟨by rw [List.length_map, List.length_map, List.length_map, List.length_append, kept_len, kept_len]; omega, srtOk_arc (by rw [List.length_append, List.length_append, kept_len, kept_len, List.length_map, sizeLine_eq]; omega), ?_⟩
      rw [sortD_arc]
      exact ⟨size, 2, _, [1], rfl, place_kok s1 s2 hh, k⟩
theorem ok_misheard (T : Tx K mg base) : DefAt P w K mg base 9 "misheard" ["size", "pairs"] (zp_misheard K) := by
  refine zok T.d_misheard sc_misheard hl_misheard (fun f cdv A outer s H E w0 Ez hr hW => ⟨(tSeq (tDrop (tCallW (spOf K (zp_check_size)) (WB E) (tCons (tVar 0) tNil)))
  (tSeq (tDrop (tCallW (spOf K (zp_check_pairs)) (WB E) (tCons (tVar 0) (tCons (tVar 1) tNil))))
  (tRet (tCallW (spOf K (zp_at_one_place K)) (WB E) (tCons (tVar 0) (tCons (tLc (iSeq K (tVar 1)) (gTup K 2 (gCons (gName 2) (gCons (gName 3) gNil))) tYes (tTup (tCons (tTup (tCons (tVar 2) tNil)) (tCons (tTup (tCons (tVar 3) tNil)) tNil))) [2, 3]) tNil)))))), _,
  (pss_cons (ps_expr (zc_call (ok_check_size T) (hr.mono (by decide)) rfl tkB (pa_cons (pv 0) pa_nil)))
  (pss_cons (ps_expr (zc_call (ok_check_pairs T) (hr.mono (by decide)) rfl tkB (pa_cons (pv 0) (pa_cons (pv 1) pa_nil))))
  (pss_one (ps_ret (zc_call (ok_at_one_place T) (hr.mono (by decide)) rfl tkB (pa_cons (pv 0) (pa_cons (pe_lc (own := [("one", 2), ("other", 3)]) rfl sc_misheard.nd (pi_seq (pv 1)) (blkOk_by (by kernel_rfl)) (fun _ _ _ _ _ => (pg_tup rfl (pgs_cons (pg_name (i := 2) sc_misheard.nd rfl (Or.inl rfl)) (pgs_cons (pg_name (i := 3) sc_misheard.nd rfl (Or.inl rfl)) pgs_nil)))) (fun _ _ _ _ _ => pts_nil) (fun _ _ _ _ _ => (pe_tup (pa_cons (pe_tup (pa_cons (pv 2) pa_nil)) (pa_cons (pe_tup (pa_cons (pv 3) pa_nil)) pa_nil))))) pa_nil))))))),
  (ls_seq (ls_drop (le_call hW (la_cons le_var la_nil)))
  (ls_seq (ls_drop (le_call hW (la_cons le_var (la_cons le_var la_nil))))
  (ls_ret (le_call hW (la_cons le_var (la_cons (le_lc (li_seq le_var) (lg_tup (lgs_cons lg_name (lgs_cons lg_name lgs_nil))) (mono_tup (mono_cons mono_name (mono_cons mono_name mono_nil))) (wo_tup (wos_cons mono_name (wo_name (by decide)) (wos_cons mono_name (wo_name (by decide)) wos_nil))) lt_yes (le_tup (la_cons (le_tup (la_cons le_var la_nil)) (la_cons (le_tup (la_cons le_var la_nil)) la_nil)))) la_nil)))))), ?z⟩)
  case z =>
    intro ds Qz h
    obtain ⟨size, ps, rfl, s1, s2, hp, k⟩ := h
    try walk_at "z"
    refine ⟨size, rfl, s1, s2, ?_⟩
    try walk_at "z"
    refine ⟨size, ps, rfl, hp, ?_⟩
    unfold pairsD
    try walk_at "z"
    have hl := hp.l
    refine zlc (fun i acc M' => M' = w0.M ∧ acc = ((ps.take i).map fun p => (([p.1], [p.2]) : Hrd)).map hrdD) (by rw [List.length_map, sizeLine_eq]; omega) ?_ ?_ ⟨rfl, rfl⟩
    · rintro i d acc M' k1 k2 hd ⟨rfl, rfl⟩ hk1 hk2
      rw [List.getElem?_map] at hd
      cases e1 : ps[i]? with
      | none => rw [e1] at hd; cases hd
      | some a =>
        rw [e1] at hd
        cases hd
        unfold keyD
        try walk_at "z"
        refine hk1 _ _ ⟨rfl, ?_⟩
        rw [List.take_succ, e1, List.map_append, List.map_append]
        rfl
    · rintro acc M' ⟨rfl, rfl⟩ _
      rw [List.length_map, List.take_length]
      exact ⟨size, _, rfl, s1, s2, hr_pairs hp, k⟩
theorem ok_any_sign (T : Tx K mg base) : DefAt P w K mg base 10 "any_sign" ["size"] (zp_any_sign K) := by
  refine zok T.d_any_sign sc_any_sign hl_any_sign (fun f cdv A outer s H E w0 Ez hr hW => ⟨(tSeq (tDrop (tCallW (spOf K (zp_check_size)) (WB E) (tCons (tVar 0) tNil)))
  (tRet (tCallW (spOf K (zp_misheard K)) (WB E) (tCons (tVar 0) (tCons (tCB (rTuple K) (tCons (tCallW (spOf K (zp_unlike_pairs)) (WB E) (tCons (tVar 0) tNil)) tNil)) tNil))))), _,
  (pss_cons (ps_expr (zc_call (ok_check_size T) (hr.mono (by decide)) rfl tkB (pa_cons (pv 0) pa_nil)))
  (pss_one (ps_ret (zc_call (ok_misheard T) (hr.mono (by decide)) rfl tkB (pa_cons (pv 0) (pa_cons (pe_callTy call_tuple_of rfl T.f_tuple (by decide +kernel) (pa_cons (zc_call (ok_unlike_pairs T) (hr.mono (by decide)) rfl tkB (pa_cons (pv 0) pa_nil)) pa_nil)) pa_nil)))))),
  (ls_seq (ls_drop (le_call hW (la_cons le_var la_nil)))
  (ls_ret (le_call hW (la_cons le_var (la_cons (le_cb lra_tuple (la_cons (le_call hW (la_cons le_var la_nil)) la_nil)) la_nil))))), ?z⟩)
  case z =>
    intro ds Qz h
    obtain ⟨size, rfl, s1, s2, k⟩ := h
    try walk_at "z"
    refine ⟨size, rfl, s1, s2, ?_⟩
    try walk_at "z"
    refine ⟨size, rfl, s1, s2, fun M1 kp1 => ?_⟩
    try walk_at "z"
    exact ⟨size, _, rfl, s1, s2, up_ok s1 s2, k _ kp1⟩
theorem ok_left_out (T : Tx K mg base) : DefAt P w K mg base 9 "left_out" ["size"] (zp_left_out K) := by
  refine zok T.d_left_out sc_left_out hl_signs (fun f cdv A outer s H E w0 Ez hr hW => ⟨(tSeq (tDrop (tCallW (spOf K (zp_check_size)) (WB E) (tCons (tVar 0) tNil)))
  (tRet (tCallW (spOf K (zp_at_one_place K)) (WB E) (tCons (tVar 0) (tCons (tLc (iRng1 (tCons (tVar 0) tNil)) (gName 1) tYes (tTup (tCons (tTup (tCons (tVar 1) tNil)) (tCons (tTup tNil) tNil))) [1]) tNil))))), _,
  (pss_cons (ps_expr (zc_call (ok_check_size T) (hr.mono (by decide)) rfl tkB (pa_cons (pv 0) pa_nil)))
  (pss_one (ps_ret (zc_call (ok_at_one_place T) (hr.mono (by decide)) rfl tkB (pa_cons (pv 0) (pa_cons (pe_lc (own := [("sign", 1)]) rfl sc_left_out.nd (pi_range1 rfl T.f_range (pa_cons (pv 0) pa_nil)) (blkOk_by (by kernel_rfl)) (fun _ _ _ _ _ => (pg_name (i := 1) sc_left_out.nd rfl (Or.inl rfl))) (fun _ _ _ _ _ => pts_nil) (fun _ _ _ _ _ => (pe_tup (pa_cons (pe_tup (pa_cons (pv 1) pa_nil)) (pa_cons (pe_tup pa_nil) pa_nil))))) pa_nil)))))),
  (ls_seq (ls_drop (le_call hW (la_cons le_var la_nil)))
  (ls_ret (le_call hW (la_cons le_var (la_cons (le_lc (li_rng1 (la_cons le_var la_nil)) lg_name mono_name (wo_name (by decide)) lt_yes (le_tup (la_cons (le_tup (la_cons le_var la_nil)) (la_cons (le_tup la_nil) la_nil)))) la_nil))))), ?z⟩)
  case z =>
    intro ds Qz h
    obtain ⟨size, rfl, s1, s2, k⟩ := h
    try walk_at "z"
    refine ⟨size, rfl, s1, s2, ?_⟩
    try walk_at "z"
    refine ⟨by omega, by omega, ?_⟩
    refine zlc (fun i acc M' => M' = w0.M ∧ acc = ((List.range i).map fun (s : Nat) => (([(s : Int)], []) : Hrd)).map hrdD) (by rw [List.length_map, List.length_range, sizeLine_eq]; omega) ?_ ?_ ⟨rfl, rfl⟩
    · rintro i d acc M' k1 k2 hd ⟨rfl, rfl⟩ hk1 hk2
      obtain ⟨hi, rfl⟩ := rg_at hd
      try walk_at "z"
      refine hk1 _ _ ⟨rfl, ?_⟩
      rw [List.range_succ, List.map_append, List.map_append]
      rfl
    · rintro acc M' ⟨rfl, rfl⟩ _
      rw [List.length_map, List.length_range]
      refine ⟨size, _, rfl, s1, s2, hr_signs s2 (fun x => ([x], [])) (fun x y h => ?_) (fun x h0 h1 => ⟨fun y hy => ?_, fun y hy => (List.not_mem_nil hy).elim, Nat.le_succ 1, Nat.zero_le 2, Nat.succ_pos 0⟩), k⟩
      · simpa using h
      · rw [List.mem_singleton.mp hy]; exact ⟨h0, h1⟩
theorem ok_put_in (T : Tx K mg base) : DefAt P w K mg base 9 "put_in" ["size"] (zp_put_in K) := by
  refine zok T.d_put_in sc_put_in hl_signs (fun f cdv A outer s H E w0 Ez hr hW => ⟨(tSeq (tDrop (tCallW (spOf K (zp_check_size)) (WB E) (tCons (tVar 0) tNil)))
  (tRet (tCallW (spOf K (zp_at_one_place K)) (WB E) (tCons (tVar 0) (tCons (tLc (iRng1 (tCons (tVar 0) tNil)) (gName 1) tYes (tTup (tCons (tTup tNil) (tCons (tTup (tCons (tVar 1) tNil)) tNil))) [1]) tNil))))), _,
  (pss_cons (ps_expr (zc_call (ok_check_size T) (hr.mono (by decide)) rfl tkB (pa_cons (pv 0) pa_nil)))
  (pss_one (ps_ret (zc_call (ok_at_one_place T) (hr.mono (by decide)) rfl tkB (pa_cons (pv 0) (pa_cons (pe_lc (own := [("sign", 1)]) rfl sc_put_in.nd (pi_range1 rfl T.f_range (pa_cons (pv 0) pa_nil)) (blkOk_by (by kernel_rfl)) (fun _ _ _ _ _ => (pg_name (i := 1) sc_put_in.nd rfl (Or.inl rfl))) (fun _ _ _ _ _ => pts_nil) (fun _ _ _ _ _ => (pe_tup (pa_cons (pe_tup pa_nil) (pa_cons (pe_tup (pa_cons (pv 1) pa_nil)) pa_nil))))) pa_nil)))))),
  (ls_seq (ls_drop (le_call hW (la_cons le_var la_nil)))
  (ls_ret (le_call hW (la_cons le_var (la_cons (le_lc (li_rng1 (la_cons le_var la_nil)) lg_name mono_name (wo_name (by decide)) lt_yes (le_tup (la_cons (le_tup la_nil) (la_cons (le_tup (la_cons le_var la_nil)) la_nil)))) la_nil))))), ?z⟩)
  case z =>
    intro ds Qz h
    obtain ⟨size, rfl, s1, s2, k⟩ := h
    try walk_at "z"
    refine ⟨size, rfl, s1, s2, ?_⟩
    try walk_at "z"
    refine ⟨by omega, by omega, ?_⟩
    refine zlc (fun i acc M' => M' = w0.M ∧ acc = ((List.range i).map fun (s : Nat) => (([], [(s : Int)]) : Hrd)).map hrdD) (by rw [List.length_map, List.length_range, sizeLine_eq]; omega) ?_ ?_ ⟨rfl, rfl⟩
    · rintro i d acc M' k1 k2 hd ⟨rfl, rfl⟩ hk1 hk2
      obtain ⟨hi, rfl⟩ := rg_at hd
      try walk_at "z"
      refine hk1 _ _ ⟨rfl, ?_⟩
      rw [List.range_succ, List.map_append, List.map_append]
      rfl
    · rintro acc M' ⟨rfl, rfl⟩ _
      rw [List.length_map, List.length_range]
      refine ⟨size, _, rfl, s1, s2, hr_signs s2 (fun x => ([], [x])) (fun x y h => ?_) (fun x h0 h1 => ⟨fun y hy => (List.not_mem_nil hy).elim, fun y hy => ?_, Nat.zero_le 2, Nat.le_succ 1, Nat.succ_pos 0⟩), k⟩
      · simpa using h
      · rw [List.mem_singleton.mp hy]; exact ⟨h0, h1⟩
theorem ok_doubled (T : Tx K mg base) : DefAt P w K mg base 9 "doubled" ["size"] (zp_doubled K) := by
  refine zok T.d_doubled sc_doubled hl_signs (fun f cdv A outer s H E w0 Ez hr hW => ⟨(tSeq (tDrop (tCallW (spOf K (zp_check_size)) (WB E) (tCons (tVar 0) tNil)))
  (tRet (tCallW (spOf K (zp_at_one_place K)) (WB E) (tCons (tVar 0) (tCons (tLc (iRng1 (tCons (tVar 0) tNil)) (gName 1) tYes (tTup (tCons (tTup (tCons (tVar 1) tNil)) (tCons (tTup (tCons (tVar 1) (tCons (tVar 1) tNil))) tNil))) [1]) tNil))))), _,
  (pss_cons (ps_expr (zc_call (ok_check_size T) (hr.mono (by decide)) rfl tkB (pa_cons (pv 0) pa_nil)))
  (pss_one (ps_ret (zc_call (ok_at_one_place T) (hr.mono (by decide)) rfl tkB (pa_cons (pv 0) (pa_cons (pe_lc (own := [("sign", 1)]) rfl sc_doubled.nd (pi_range1 rfl T.f_range (pa_cons (pv 0) pa_nil)) (blkOk_by (by kernel_rfl)) (fun _ _ _ _ _ => (pg_name (i := 1) sc_doubled.nd rfl (Or.inl rfl))) (fun _ _ _ _ _ => pts_nil) (fun _ _ _ _ _ => (pe_tup (pa_cons (pe_tup (pa_cons (pv 1) pa_nil)) (pa_cons (pe_tup (pa_cons (pv 1) (pa_cons (pv 1) pa_nil))) pa_nil))))) pa_nil)))))),
  (ls_seq (ls_drop (le_call hW (la_cons le_var la_nil)))
  (ls_ret (le_call hW (la_cons le_var (la_cons (le_lc (li_rng1 (la_cons le_var la_nil)) lg_name mono_name (wo_name (by decide)) lt_yes (le_tup (la_cons (le_tup (la_cons le_var la_nil)) (la_cons (le_tup (la_cons le_var (la_cons le_var la_nil))) la_nil)))) la_nil))))), ?z⟩)
  case z =>
    intro ds Qz h
    obtain ⟨size, rfl, s1, s2, k⟩ := h
    try walk_at "z"
    refine ⟨size, rfl, s1, s2, ?_⟩
    try walk_at "z"
    refine ⟨by omega, by omega, ?_⟩
    refine zlc (fun i acc M' => M' = w0.M ∧ acc = ((List.range i).map fun (s : Nat) => (([(s : Int)], [(s : Int), (s : Int)]) : Hrd)).map hrdD) (by rw [List.length_map, List.length_range, sizeLine_eq]; omega) ?_ ?_ ⟨rfl, rfl⟩
    · rintro i d acc M' k1 k2 hd ⟨rfl, rfl⟩ hk1 hk2
      obtain ⟨hi, rfl⟩ := rg_at hd
      try walk_at "z"
      refine hk1 _ _ ⟨rfl, ?_⟩
      rw [List.range_succ, List.map_append, List.map_append]
      rfl
    · rintro acc M' ⟨rfl, rfl⟩ _
      rw [List.length_map, List.length_range]
      refine ⟨size, _, rfl, s1, s2, hr_signs s2 (fun x => ([x], [x, x])) (fun x y h => ?_) (fun x h0 h1 => ⟨fun y hy => ?_, fun y hy => ?_, Nat.le_succ 1, Nat.le_refl 2, Nat.succ_pos 2⟩), k⟩
      · simpa using h
      · rw [List.mem_singleton.mp hy]; exact ⟨h0, h1⟩
      · have : y = x := by simpa using hy
        rw [this]; exact ⟨h0, h1⟩
theorem ok_turned (T : Tx K mg base) : DefAt P w K mg base 8 "turned" ["kind"] (zp_turned K) := by
  refine zok T.d_turned sc_turned hl_turned (fun f cdv A outer s H E w0 Ez hr hW => ⟨(tSeq (tDrop (tCallW (spOf K (zp_check_kind K)) (WB E) (tCons (tVar 0) tNil)))
  (tSeq (tAsg (tLc (iSeq K (tFld K (tVar 0) "arcs")) (gTup K 4 (gCons (gName 2) (gCons (gName 3) (gCons (gName 4) (gCons (gName 5) gNil))))) tYes (tTup (tCons (tVar 2) (tCons (tVar 4) (tCons (tVar 3) (tCons (tVar 5) tNil))))) [2, 3, 4, 5]) (gName 1))
  (tRet (tMakeW (He.ga K "Kind") (spOf K (zp_Kind___init__ K)) (WB E) (tCons (tFld K (tVar 0) "size") (tCons (tFld K (tVar 0) "many") (tCons (tCB (rTuple K) (tCons (tCB (rSrtY K) (tCons (tVar 1) tNil)) tNil)) (tCons (tFld K (tVar 0) "ends") tNil)))))))), _,
  (pss_cons (ps_expr (zc_call (ok_check_kind T) (hr.mono (by decide)) rfl tkB (pa_cons (pv 0) pa_nil)))
  (pss_cons (ps_setLc (i := 1) (own := [("state", 2), ("said", 3), ("heard", 4), ("later", 5)]) rfl sc_turned.nd rfl rfl (sw_true rfl rfl rfl (by decide +kernel)) (pi_seq (pe_fld (pv 0) rfl)) (blkOk_by (by kernel_rfl)) (fun _ _ _ _ _ => (pg_tup rfl (pgs_cons (pg_name (i := 2) sc_turned.nd rfl (Or.inl rfl)) (pgs_cons (pg_name (i := 3) sc_turned.nd rfl (Or.inl rfl)) (pgs_cons (pg_name (i := 4) sc_turned.nd rfl (Or.inl rfl)) (pgs_cons (pg_name (i := 5) sc_turned.nd rfl (Or.inl rfl)) pgs_nil)))))) (fun _ _ _ _ _ => pts_nil) (fun _ _ _ _ _ => (pe_tup (pa_cons (pv 2) (pa_cons (pv 4) (pa_cons (pv 3) (pa_cons (pv 5) pa_nil)))))))
  (pss_one (ps_ret (zc_make (ok_Kind T) (hr.mono (by decide)) rfl tkB (pa_cons (pe_fld (pv 0) rfl) (pa_cons (pe_fld (pv 0) rfl) (pa_cons (pe_callTy call_tuple_of rfl T.f_tuple (by decide +kernel) (pa_cons (pe_callB (call_srtY (room64 hr)) rfl T.f_sorted (by decide +kernel) (pa_cons (pv 1) pa_nil)) pa_nil)) (pa_cons (pe_fld (pv 0) rfl) pa_nil))))))))),
  (ls_seq (ls_drop (le_call hW (la_cons le_var la_nil)))
  (ls_seq (ls_asg (le_lc (li_seq (le_fld le_var)) (lg_tup (lgs_cons lg_name (lgs_cons lg_name (lgs_cons lg_name (lgs_cons lg_name lgs_nil))))) (mono_tup (mono_cons mono_name (mono_cons mono_name (mono_cons mono_name (mono_cons mono_name mono_nil))))) (wo_tup (wos_cons mono_name (wo_name (by decide)) (wos_cons mono_name (wo_name (by decide)) (wos_cons mono_name (wo_name (by decide)) (wos_cons mono_name (wo_name (by decide)) wos_nil))))) lt_yes (le_tup (la_cons le_var (la_cons le_var (la_cons le_var (la_cons le_var la_nil)))))) lg_name)
  (ls_ret (le_make mk_Kind hW (la_cons (le_fld le_var) (la_cons (le_fld le_var) (la_cons (le_cb lra_tuple (la_cons (le_cb lra_srtY (la_cons le_var la_nil)) la_nil)) (la_cons (le_fld le_var) la_nil)))))))), ?z⟩)
  case z =>
    intro ds Qz h
    obtain ⟨size, many, arcs, ends, rfl, hk, k⟩ := h
    have f1 : FldOk K (He.ga K "Kind") "size" := ⟨T.c_Kind, T.na_Kind_size⟩
    have f2 : FldOk K (He.ga K "Kind") "many" := ⟨T.c_Kind, T.na_Kind_many⟩
    have f3 : FldOk K (He.ga K "Kind") "arcs" := ⟨T.c_Kind, T.na_Kind_arcs⟩
    have f4 : FldOk K (He.ga K "Kind") "ends" := ⟨T.c_Kind, T.na_Kind_ends⟩
    have hl := hk.l
    try walk_at "z"
    refine ⟨_, rfl, .inl ⟨size, many, arcs, ends, rfl, ?_⟩⟩
    try walk_at "z"
    refine ⟨f3, _, knL3, ?_⟩
    unfold arcsD
    try walk_at "z"
    refine zlc (fun i acc M' => M' = w0.M ∧ acc = ((arcs.take i).map turnA).map arcD) (by rw [List.length_map, sizeLine_eq]; omega) ?_ ?_ ⟨rfl, rfl⟩
    · rintro i d acc M' k1 k2 hd ⟨rfl, rfl⟩ hk1 hk2
      rw [List.getElem?_map] at hd
      cases e1 : arcs[i]? with
      | none => rw [e1] at hd; cases hd
      | some a =>
        rw [e1] at hd
        cases hd
        unfold arcD
        try walk_at "z"
        refine hk1 _ _ ⟨rfl, ?_⟩
        rw [List.take_succ, e1, List.map_append, List.map_append]
        rfl
    · rintro acc M' ⟨rfl, rfl⟩ _
      rw [List.length_map, List.take_length]
      refine ⟨f1, _, knL1, ?_⟩
      try walk_at "z"
      refine ⟨f2, _, knL2, ?_⟩
      try walk_at "z"
      refine ⟨srtOk_arc (by rw [List.length_map, sizeLine_eq]; omega), f4, _, knL4, ?_⟩
      rw [sortD_arc]
      exact ⟨size, many, _, ends, rfl, hk.turned, k⟩
theorem ok_arcs_of (T : Tx K mg base) : DefAt P w K mg base 1 "arcs_of" ["kind"] (zp_arcs_of K) := by
  refine zok T.d_arcs_of sc_arcs_of hl_arcs_of (fun f cdv A outer s H E w0 Ez hr hW => ⟨(tSeq (tAsg (tDc (iRng1 (tCons (tFld K (tVar 0) "many") tNil)) (gName 2) tYes (tVar 2) (tLst tNil) [2]) (gName 1))
  (tSeq (tFor (iSeq K (tFld K (tVar 0) "arcs")) (gName 3)
  (tDrop (tBM K "list" rAppend (tDGet (tVar 1) (tOp (rIx K) (tVar 3) (tC (.int 0)))) (tCons (tVar 3) tNil))))
  (tRet (tLk (tVar 1))))), _,
  (pss_cons (ps_setDc (i := 1) (own := [("state", 2)]) rfl sc_arcs_of.nd rfl rfl (sw_trueD rfl rfl rfl (by decide +kernel)) (pi_range1 rfl T.f_range (pa_cons (pe_fld (pv 0) rfl) pa_nil)) (blkOk_by (by kernel_rfl)) (fun _ _ _ _ _ => (pg_name (i := 2) sc_arcs_of.nd rfl (Or.inl rfl))) (fun _ _ _ _ _ => pts_nil) (fun _ _ _ _ _ => (pv 2)) (fun _ _ _ _ _ => (pe_lst pa_nil)))
  (pss_cons (ps_for (passes_of rfl) rfl (pi_seq (pe_fld (pv 0) rfl)) (pg_name (i := 3) sc_arcs_of.nd rfl (Or.inl rfl))
  (pss_one (ps_expr (pe_bm PySem.F.plainAttrs_list PySem.F.slot_list_append PySem.F.type_list_append mt_append (pe_dget (room1 hr) (pv 1) (pe_ix ix_seq (pv 3) pe_int (fun _ _ => rfl)) (fun _ _ => rfl)) (pa_cons (pv 3) pa_nil)))))
  (pss_one (ps_ret (pe_lk (pv 1)))))),
  (ls_seq (ls_asg (le_dc (li_rng1 (la_cons (le_fld le_var) la_nil)) lg_name (wo_name (by decide)) lt_yes le_var (le_lstM la_nil)) lg_name)
  (ls_seq (ls_for (li_seq (le_fld le_var)) lg_name
  (ls_drop (le_bmL lrm_append (le_dget le_var (le_op lr_ix le_var le_c)) (la_cons le_var la_nil))))
  (ls_ret (le_fz le_var)))), ?z⟩)
  case z =>
    intro ds Qz h
    obtain ⟨size, many, arcs, ends, rfl, hk, k⟩ := h
    have f2 : FldOk K (He.ga K "Kind") "many" := ⟨T.c_Kind, T.na_Kind_many⟩
    have f3 : FldOk K (He.ga K "Kind") "arcs" := ⟨T.c_Kind, T.na_Kind_arcs⟩
    have m1 := hk.m1
    have m2 := hk.m2
    have hl := hk.l
    try walk_at "z"
    refine ⟨f2, _, knL2, ?_⟩
    try walk_at "z"
    refine ⟨by omega, by omega, fun p hp => ?_⟩
    refine zdc (fun i M' => ∃ r, BK w0.M M' p i r fun _ => []) ?_ ?_ ⟨fun _ => 0, ⟨mput_same, fun j hj => absurd hj (Nat.not_lt_zero _), fun i j hi => absurd hi (Nat.not_lt_zero _), fun j hj => absurd hj (Nat.not_lt_zero _), (Kp.rf _).put hp, hp, fun j hj => absurd hj (Nat.not_lt_zero _)⟩⟩
    · rintro i d M' k1 hd ⟨r, b⟩ hk1
      obtain ⟨hi, rfl⟩ := rg_at hd
      try walk_at "z"
      intro q hq
      have npq : p ≠ q := fun z => by subst z; rw [b.d] at hq; cases hq
      refine ⟨_, by rw [mput_ne npq]; exact b.d, _, rfl, by rw [List.length_map, List.length_range]; omega, hk1 _ ⟨_, b.add hq (by rw [mput_ne npq]; exact b.d)⟩⟩
    · rintro M' ⟨r, b⟩
      rw [List.length_map, List.length_range] at b
      refine ⟨f3, _, knL3, ?_⟩
      unfold arcsD
      dsimp only
      refine zloop (fun i δ M' => ∃ q, δ = [some (kinD K size many arcs ends), some (.v (.ref p)), none, q] ∧ BK w0.M M' p many.toNat r fun x => outA (arcs.take i) x) ?_ ?_ ⟨_, rfl, b⟩
      · rintro i d δ M' kk hd ⟨q, rfl, b⟩ hk2
        rw [List.getElem?_map] at hd
        cases e1 : arcs[i]? with
        | none => rw [e1] at hd; cases hd
        | some a =>
          rw [e1] at hd
          cases hd
          have ha := hk.a a (List.mem_of_getElem? e1)
          obtain ⟨n, hn⟩ := Int.eq_ofNat_of_zero_le ha.f0
          have hnm : n < many.toNat := by have := ha.f1; omega
          have b2 := b.app (a := a) hnm
          unfold arcD
          try walk_at "z"
          rw [hn]
          refine ⟨_, b.d, _, valD_range (g := fun j => .v (.ref (r j))) hnm, ⟨_, rfl, _, b.e n hnm⟩, ?_⟩
          have hll : (outA (arcs.take i) n).length ≤ 6000 := Nat.le_trans (List.length_filter_le ..) (Nat.le_trans (List.length_take_le ..) (by have := (List.getElem?_eq_some_iff.mp e1).1; omega))
          refine ⟨_, b.e n hnm, by rw [List.length_map, sizeLine_eq]; omega, hk2 _ _ ⟨_, rfl, ?_⟩⟩
          rw [show (D.tup [.v (.int ((n : Nat) : Int)), rowD a.2.1, rowD a.2.2.1, .v (.int a.2.2.2)]) = arcD a by rw [← hn]; rfl]
          have ec : (fun (x : Nat) => outA (arcs.take (i + 1)) x) = fun (x : Nat) => outA (arcs.take i) x ++ if x = n then [a] else [] := by
            funext x
            rw [outA_succ e1, hn]
            by_cases q : x = n
            · rw [if_pos q, if_pos (by omega)]
            · rw [if_neg q, if_neg (by omega)]
          rw [ec]
          exact b2
      · rintro δ M' ⟨q, rfl, b⟩
        rw [List.length_map, List.take_length] at b
        try walk_at "z"
        refine ⟨(List.range many.toNat).map fun (j : Nat) => (.inl ((j : Nat) : Int), r j, (outA arcs j).map arcD), by rw [List.map_map]; exact b.d, fun e he => ?_, ?_⟩
        · obtain ⟨j, hj, rfl⟩ := List.mem_map.mp he
          exact b.e j (List.mem_range.mp hj)
        · rw [List.map_map, List.map_map]
          refine k _ (b.kp.dels fun q hq => ?_)
          rcases List.mem_cons.mp hq with rfl | hq
          · exact b.z
          · obtain ⟨j, hj, rfl⟩ := List.mem_map.mp hq
            exact b.zr j (List.mem_range.mp hj)
theorem ok_lags (T : Tx K mg base) : DefAt P w K mg base 4 "lags" ["kind"] (zp_lags K) := by
  refine zok T.d_lags sc_lags hl_lags (fun f cdv A outer s H E w0 Ez hr hW => ⟨(tSeq (tDrop (tCallW (spOf K (zp_check_kind K)) (WB E) (tCons (tVar 0) tNil)))
  (tSeq (tAsg (tCallW (spOf K (zp_arcs_of K)) (WB E) (tCons (tVar 0) tNil)) (gName 1))
  (tSeq (tAsg (tOp (rMulA K) (tLst (tCons (tC .non) tNil)) (tFld K (tVar 0) "many")) (gName 2))
  (tSeq (tAsg (tC (.int 0)) (gSub (tVar 2) (tC (.int 0)) rSetL))
  (tSeq (tAsg (tLst (tCons (tC (.int 0)) tNil)) (gName 3))
  (tSeq (tWhile (tTest (tOp (rI0 fun i j => .bl (decide (j < i))) (tCB (rLenA K) (tCons (tVar 3) tNil)) (tC (.int 0))))
  (tSeq (tAsg (tBM0 K "list" rPop (tVar 3)) (gName 4))
  (tFor (iSeq K (tDGet (tVar 1) (tVar 4))) (gTup K 4 (gCons (gName 5) (gCons (gName 6) (gCons (gName 7) (gCons (gName 8) gNil)))))
  (tSeq (tAsg (tOp (rI0 fun i j => .int (i - j)) (tOp (rAddA K) (tOp (rIx K) (tVar 2) (tVar 4)) (tCB (rLenA K) (tCons (tVar 6) tNil))) (tCB (rLenA K) (tCons (tVar 7) tNil))) (gName 9))
  (tIfS (tTest (tOp (fun x y H Q => y = .non ∧ Q (.bl (decide (x = .non))) H) (tOp (rIx K) (tVar 2) (tVar 8)) (tC .non))) (tSeq (tAsg (tVar 9) (gSub (tVar 2) (tVar 8) rSetL))
  (tDrop (tBM K "list" rAppend (tVar 3) (tCons (tVar 8) tNil)))) (tIfS (tTest (tOp (rNeD K) (tOp (rIx K) (tVar 2) (tVar 8)) (tVar 9))) (tRet (tC .non)) tNext))))))
  (tRet (tIf (tB (tCB (rAny K) (tCons (tLc (iSeq K (tFld K (tVar 0) "ends")) (gName 5) tYes (tOp (rIn K true) (tOp (rIx K) (tVar 2) (tVar 5)) (tTup (tCons (tC .non) (tCons (tC (.int 0)) tNil)))) [5]) tNil))) (tC .non) (tCB (rTuple K) (tCons (tVar 2) tNil)))))))))), _,
  (pss_cons (ps_expr (zc_call (ok_check_kind T) (hr.mono (by decide)) rfl tkB (pa_cons (pv 0) pa_nil)))
  (pss_cons (ps_set (i := 1) sc_lags.nd rfl (Or.inl rfl) (zc_call (ok_arcs_of T) (hr.mono (by decide)) rfl tkB (pa_cons (pv 0) pa_nil)))
  (pss_cons (ps_set (i := 2) sc_lags.nd rfl (Or.inr rfl) (pe_op op_mulA (pe_lst (pa_cons pe_non pa_nil)) (pe_fld (pv 0) rfl)))
  (pss_cons (ps_asg pe_int (pg_sub (pv 2) pe_int set_list))
  (pss_cons (ps_set (i := 3) sc_lags.nd rfl (Or.inl rfl) (pe_lst (pa_cons pe_int pa_nil)))
  (pss_cons (ps_while (passes_of rfl) (pt_cmpR op_gt (pe_callB call_lenA rfl T.f_len (by decide +kernel) (pa_cons (pv 3) pa_nil)) pe_int (nomark _))
  (pss_cons (ps_set (i := 4) sc_lags.nd rfl (Or.inl rfl) (pe_bm0 PySem.F.plainAttrs_list PySem.F.slot_list_pop PySem.F.type_list_pop mt_pop (pv 3)))
  (pss_one (ps_for (passes_of rfl) rfl (pi_seq (pe_dget (room1 hr) (pv 1) (pv 4) (fun _ _ => rfl))) (pg_tup rfl (pgs_cons (pg_name (i := 5) sc_lags.nd rfl (Or.inl rfl)) (pgs_cons (pg_name (i := 6) sc_lags.nd rfl (Or.inl rfl)) (pgs_cons (pg_name (i := 7) sc_lags.nd rfl (Or.inl rfl)) (pgs_cons (pg_name (i := 8) sc_lags.nd rfl (Or.inl rfl)) pgs_nil)))))
  (pss_cons (ps_set (i := 9) sc_lags.nd rfl (Or.inl rfl) (pe_op op_sub (pe_op op_addA (pe_ix ix_seq (pv 2) (pv 4) (fun _ _ => rfl)) (pe_callB call_lenA rfl T.f_len (by decide +kernel) (pa_cons (pv 6) pa_nil))) (pe_callB call_lenA rfl T.f_len (by decide +kernel) (pa_cons (pv 7) pa_nil))))
  (pss_one (ps_if (pt_cmpR op_isN (pe_ix ix_seq (pv 2) (pv 8) (fun _ _ => rfl)) pe_non (nomark _)) (pss_cons (ps_asg (pv 9) (pg_sub (pv 2) (pv 8) set_list))
  (pss_one (ps_expr (pe_bm PySem.F.plainAttrs_list PySem.F.slot_list_append PySem.F.type_list_append mt_append (pv 3) (pa_cons (pv 8) pa_nil))))) (pss_one (ps_if (pt_cmpR (op_neD hr.units) (pe_ix ix_seq (pv 2) (pv 8) (fun _ _ => rfl)) (pv 9) (nomark _)) (pss_one (ps_ret pe_non)) pss_nil)))))))))
  (pss_one (ps_ret (pe_ifExp (pt_val (pe_callB (cr_any rfl) rfl T.f_any (by decide +kernel) (pa_cons (pe_lc (own := [("state", 5)]) rfl sc_lags.nd (pi_seq (pe_fld (pv 0) rfl)) (blkOk_by (by kernel_rfl)) (fun _ _ _ _ _ => (pg_name (i := 5) sc_lags.nd rfl (Or.inl rfl))) (fun _ _ _ _ _ => pts_nil) (fun _ _ _ _ _ => (pe_cmpR op_notIn_seq (pe_ix ix_seq (pv 2) (pv 5) (fun _ _ => rfl)) (pe_tup (pa_cons pe_non (pa_cons pe_int pa_nil))) (by rfl)))) pa_nil))) pe_non (pe_callTy call_tuple_of rfl T.f_tuple (by decide +kernel) (pa_cons (pv 2) pa_nil))))))))))),
  (ls_seq (ls_drop (le_call hW (la_cons le_var la_nil)))
  (ls_seq (ls_asg (le_call hW (la_cons le_var la_nil)) lg_name)
  (ls_seq (ls_asg (le_op lr_mulM (le_lst (la_cons le_c la_nil)) (le_fld le_var)) lg_name)
  (ls_seq (ls_asg le_c (lg_sub le_var le_c lset_list))
  (ls_seq (ls_asg (le_lstM (la_cons le_c la_nil)) lg_name)
  (ls_seq (ls_while (lt_test (le_op lr_I0 (le_cb lra_len (la_cons le_var la_nil)) le_c))
  (ls_seq (ls_asg (le_bmL0 lrm_pop le_var) lg_name)
  (ls_for (li_seq (le_dget le_var le_var)) (lg_tup (lgs_cons lg_name (lgs_cons lg_name (lgs_cons lg_name (lgs_cons lg_name lgs_nil)))))
  (ls_seq (ls_asg (le_op lr_I0 (le_op lr_add (le_op lr_ix le_var le_var) (le_cb lra_len (la_cons le_var la_nil))) (le_cb lra_len (la_cons le_var la_nil))) lg_name)
  (ls_if (lt_test (le_op lr_isN (le_op lr_ix le_var le_var) le_c)) (ls_seq (ls_asg le_var (lg_sub le_var le_var lset_list))
  (ls_drop (le_bmL lrm_append le_var (la_cons le_var la_nil)))) (ls_if (lt_test (le_op lr_ne (le_op lr_ix le_var le_var) le_var)) (ls_ret le_c) ls_next))))))
  (ls_ret (le_if (lt_B (le_cb lra_any (la_cons (le_lc (li_seq (le_fld le_var)) lg_name mono_name (wo_name (by decide)) lt_yes (le_op lr_in (le_op lr_ix le_var le_var) (le_tup (la_cons le_c (la_cons le_c la_nil))))) la_nil))) le_c (le_cb lra_tuple (la_cons le_var la_nil)))))))))), ?z⟩)
  case z =>
    intro ds Qz h
    obtain ⟨d, rfl, h⟩ := h
    rcases h with ⟨size, many, arcs, ends, rfl, hk, k⟩ | ⟨hn, k⟩
    · have f2 : FldOk K (He.ga K "Kind") "many" := ⟨T.c_Kind, T.na_Kind_many⟩
      have f4 : FldOk K (He.ga K "Kind") "ends" := ⟨T.c_Kind, T.na_Kind_ends⟩
      have m1 := hk.m1
      have m2 := hk.m2
      have hl := hk.l
      try walk_at "z"
      refine ⟨_, rfl, .inl ⟨size, many, arcs, ends, rfl, ?_⟩⟩
      try walk_at "z"
      refine ⟨size, many, arcs, ends, rfl, hk, fun M1 kp1 => ?_⟩
      try walk_at "z"
      refine ⟨f2, _, knL2, ?_⟩
      try walk_at "z"
      refine ⟨by omega, by omega, by omega, fun pf hpf => ?_⟩
      try walk_at "z"
      refine ⟨0, ixN_nat (j := 0) (by rw [List.flatten_replicate_singleton, List.length_replicate]; omega), fun pw hpw => ?_⟩
      have e0 : ((List.replicate many.toNat [D.v V.non]).flatten.set 0 (D.v (.int 0))) = (f0 many).map optI := by
        rw [List.flatten_replicate_singleton]
        obtain ⟨n, hn⟩ : ∃ n, many.toNat = n + 1 := ⟨many.toNat - 1, by omega⟩
        unfold f0
        rw [hn, List.replicate_succ, List.set_cons_zero, List.map_cons, List.map_replicate]
        rfl
      rw [e0] at hpw ⊢
      obtain ⟨npf, hpw0⟩ := mput_none hpw
      refine zwhile (fun m δ M' => ∃ (f : Fnd) (s : List Int) (q4 q5 q6 q7 q8 q9 : Option D), δ = [some (kinD K size many arcs ends), some (.dct (bkD many arcs)), some (.v (.ref pf)), some (.v (.ref pw)), q4, q5, q6, q7, q8, q9] ∧
        M' pf = some (.lst (f.map optI)) ∧ M' pw = some (.lst (dInts s)) ∧ Kp M1 M' ∧ DI many arcs f s ∧ s.length + nn f < m ∧ m ≤ 500 ∧ dfs arcs m f s = dfs arcs 500 (f0 many) [0])
        ⟨500, f0 many, [0], _, _, _, _, _, _, rfl, by rw [mput_ne npf.symm, mput_same], by rw [mput_same]; rfl, ((Kp.rf _).put hpf).put hpw0, DI.start m1, by rw [nn_f0]; simp; omega, Nat.le_refl _, rfl⟩ ?_
      rintro m δ M' kk ⟨f, s, q4, q5, q6, q7, q8, q9, rfl, e1, e2, kp, di, hm, m5, hd⟩ hk2
      have hz : lagsO many arcs ends = endO ends (dfs arcs m f s) := by rw [lagsO_end, hd]
      obtain ⟨m', rfl⟩ : ∃ m', m = m' + 1 := ⟨m - 1, by omega⟩
      try walk_at "z"
      refine ⟨s.length, by rw [lenD_lst e2, ints_len], ?_⟩
      rcases List.eq_nil_or_concat s with rfl | ⟨s0, here, rfl⟩
      · rw [if_neg (by simp)]
        have hz : lagsO many arcs ends = if ends.any (badE f) = true then none else some f := hz
        try walk_at "z"
        refine ⟨f4, _, knL4, ?_⟩
        try walk_at "z"
        refine zlc (fun i acc M2 => M2 = M' ∧ acc = (ends.take i).map fun e => .v (.bl (badE f e))) (by rw [ints_len, sizeLine_eq]; have := hk.elen; omega) ?_ ?_ ⟨rfl, rfl⟩
        · rintro i d acc M2 k1 k2 hd2 ⟨rfl, rfl⟩ hk3 hk4
          rw [Zl.ints_get] at hd2
          cases e3 : ends[i]? with
          | none => rw [e3] at hd2; cases hd2
          | some x =>
            rw [e3] at hd2
            cases hd2
            have hx := hk.eb x (List.mem_of_getElem? e3)
            have tk : ends.take (i + 1) = ends.take i ++ [x] := by rw [List.take_succ, e3]; rfl
            try walk_at "z"
            refine ⟨_, e1, _, at_fnd hx.1 (by have := di.len; omega), ?_⟩
            rw [tk, List.map_append] at hk3
            cases e4 : at_ f x with
            | none =>
              exact e_inF (b := true) (by decide +kernel) (by decide +kernel) (by decide +kernel) (hk3 _ _ ⟨rfl, by simp [badE, e4]⟩)
            | some v =>
              by_cases hv : v = 0
              · subst hv
                exact e_inF (b := true) (by decide +kernel) (by decide +kernel) (by decide +kernel) (hk3 _ _ ⟨rfl, by simp [badE, e4]⟩)
              · refine e_inF (b := false) rfl rfl ?_ (hk3 _ _ ⟨rfl, by simp [badE, e4, hv]⟩)
                exact in_n0 hv
        · rintro acc M2 ⟨rfl, rfl⟩ _
          rw [ints_len, List.take_length]
          try walk_at "z"
          by_cases q : ends.any (badE f) = true
          · rw [if_pos q]
            rw [if_pos q] at hz
            rw [hz] at k
            exact k _ (kp1.tr kp)
          · rw [if_neg q]
            rw [if_neg q] at hz
            rw [hz] at k
            exact ⟨_, seqOf_lst e1, k _ (kp1.tr kp)⟩
      · rw [List.concat_eq_append] at *
        rw [if_pos (by rw [List.length_append, List.length_singleton]; omega)]
        obtain ⟨h0, h1, v, hv⟩ := di.st here (by simp)
        obtain ⟨n, rfl⟩ := Int.eq_ofNat_of_zero_le h0
        have npf2 : pf ≠ pw := fun z => by subst z; exact npf rfl
        rw [dfs_snoc hv] at hz hd
        refine ⟨⟨_, e2⟩, dInts s0, .v (.int n), by rw [e2]; unfold dInts; simp, ?_⟩
        refine e_dgetD.mpr ⟨_, valD_range (by omega), ?_⟩
        try walk_at "z"
        refine zloop (fun i δ M2 => ∃ (f' : Fnd) (s' : List Int) (q5 q6 q7 q8 q9 : Option D), δ = [some (kinD K size many arcs ends), some (.dct (bkD many arcs)), some (.v (.ref pf)), some (.v (.ref pw)), some (.v (.int n)), q5, q6, q7, q8, q9] ∧
          M2 pf = some (.lst (f'.map optI)) ∧ M2 pw = some (.lst (dInts s')) ∧ Kp M1 M2 ∧ loopA v ((outA arcs n).take i) f s0 = some (f', s')) ?_ ?_ ⟨f, s0, _, _, _, _, _, rfl, by rw [mput_ne npf2]; exact e1, mput_same, kp.put hpw0, rfl⟩
        · rintro i d δ M2 k2 hd3 ⟨f', s', q5, q6, q7, q8, q9, rfl, g1, g2, kp2, hl2⟩ hk3
          rw [List.getElem?_map] at hd3
          cases e3 : (outA arcs n)[i]? with
          | none => rw [e3] at hd3; cases hd3
          | some a =>
            rw [e3] at hd3
            cases hd3
            have hA := fun (b : Arc) (hb : b ∈ outA arcs n) => hk.a b (mem_out.mp hb).1
            have ha := hA a (List.mem_of_getElem? e3)
            have li0 : LI many f s0 := ⟨di.len, fun j hj => di.st j (List.mem_append_left _ hj)⟩
            obtain ⟨li, cnt, keep, -⟩ := loopA_keep (fun b hb => hA b (List.mem_of_mem_take hb)) li0 hl2
            have hv' := keep _ _ (Int.natCast_nonneg n) hv
            have len := li.len
            have t0 := ha.t0
            have t1 := ha.t1
            have nx := loopA_take e3 hl2
            unfold arcD
            try walk_at "z"
            refine ⟨_, g1, _, at_fnd (Int.natCast_nonneg n) (by omega), ?_⟩
            rw [hv']
            unfold optI
            try walk_at "z"
            refine ⟨_, g1, _, at_fnd t0 (by omega), ?_⟩
            rw [loopA_cons] at nx
            cases e4 : at_ f' a.2.2.2 with
            | none =>
              rw [e4] at nx
              unfold optI
              try walk_at "z"
              have ew : v + ((dInts a.2.1).length : Int) - ((dInts a.2.2.1).length : Int) = v + wA a := by rw [ints_len, ints_len]; unfold wA; omega
              refine ⟨_, g1, a.2.2.2.toNat, by rw [show a.2.2.2 = ((a.2.2.2.toNat : Nat) : Int) by omega]; exact ixN_nat (by rw [List.length_map]; omega), ⟨_, by rw [mput_ne npf2.symm]; exact g2⟩, _, by rw [mput_ne npf2.symm]; exact g2, by rw [ints_len]; rw [List.length_append] at hm; omega, ?_⟩
              refine hk3 _ _ ⟨_, _, _, _, _, _, _, rfl, ?_, ?_, (kp2.put hpf).put hpw0, nx⟩
              · rw [mput_ne npf2, mput_same, ew, List.map_set]
                rfl
              · rw [mput_same]
                unfold dInts
                simp
            | some u =>
              rw [e4] at nx
              unfold optI
              try walk_at "z"
              have ew : v + ((dInts a.2.1).length : Int) - ((dInts a.2.2.1).length : Int) = v + wA a := by rw [ints_len, ints_len]; unfold wA; omega
              refine ⟨_, g1, _, at_fnd t0 (by omega), ?_⟩
              rw [e4, ew]
              unfold optI
              try walk_at "z"
              by_cases q : u = v + wA a
              · rw [if_neg (fun z => z q)]
                dsimp only at nx
                rw [if_pos q] at nx
                exact hk3 _ _ ⟨_, _, _, _, _, _, _, rfl, g1, g2, kp2, nx⟩
              · rw [if_pos q]
                dsimp only at nx
                rw [if_neg q] at nx
                rw [loopA_none nx] at hz
                rw [hz] at k
                exact k _ (kp1.tr kp2)
        · rintro δ M2 ⟨f', s', q5, q6, q7, q8, q9, rfl, g1, g2, kp2, hl2⟩
          rw [List.length_map, List.take_length] at hl2
          rw [hl2] at hd
          obtain ⟨di2, cnt⟩ := dfs_step hk.a di (List.getLast?_concat ..) (f' := f') (s' := s') (by rw [hv, List.dropLast_concat]; exact hl2)
          exact hk2 _ _ m' (by omega) ⟨f', s', _, _, _, _, _, _, rfl, g1, g2, kp2, di2, by omega, by omega, hd⟩
    · try walk_at "z"
      exact ⟨_, rfl, .inr ⟨hn, k⟩⟩
theorem ok__law_same (T : Tx K mg base) : ∀ n : Nat, DefAt P w K mg base n "_law_same" ["one", "due"] (zp__law_same n) := by
  intro n
  induction n with
  | zero => exact DefAt.never T.d__law_same
  | succ n ih =>
  refine zok T.d__law_same sc__law_same hl__law_same (fun f cdv A outer s H E w0 Ez hr hW => ⟨(tSeq (tIfS (tB (tCB (rIsiA K) (tCons (tVar 1) (tCons (tC (.ty "dict")) tNil)))) (tSeq (tIfS (tOr (tNot (tB (tCB (rIsiA K) (tCons (tVar 0) (tCons (tC (.ty "dict")) tNil))))) (tTest (tOp (rNeD K) (tCB (rLenA K) (tCons (tVar 0) tNil)) (tCB (rLenA K) (tCons (tVar 1) tNil))))) (tRet (tC (.bl false))) tNext)
  (tRet (tCB (rAll K) (tCons (tLc (iSeq K (tVar 1)) (gName 2) tYes (tAndV (tOp (rIn K false) (tVar 2) (tVar 0)) (tCallW (spOf K (zp__law_same n)) W0 (tCons (tOp (rIx K) (tVar 0) (tVar 2)) (tCons (tOp (rIx K) (tVar 1) (tVar 2)) tNil)))) [2]) tNil)))) tNext)
  (tSeq (tIfS (tB (tCB (rIsiA K) (tCons (tVar 1) (tCons (tTup (tCons (tC (.ty "tuple")) (tCons (tC (.ty "list")) tNil))) tNil)))) (tSeq (tIfS (tOr (tTest (tOp (rNeD K) (tCB (rIsiA K) (tCons (tVar 0) (tCons (tC (.ty "tuple")) tNil))) (tCB (rIsiA K) (tCons (tVar 1) (tCons (tC (.ty "tuple")) tNil))))) (tNot (tB (tCB (rIsiA K) (tCons (tVar 0) (tCons (tTup (tCons (tC (.ty "tuple")) (tCons (tC (.ty "list")) tNil))) tNil)))))) (tRet (tC (.bl false))) tNext)
  (tRet (tAndV (tOp (rEqD K) (tCB (rLenA K) (tCons (tVar 0) tNil)) (tCB (rLenA K) (tCons (tVar 1) tNil))) (tCB (rAll K) (tCons (tLc (iRng1 (tCons (tCB (rLenA K) (tCons (tVar 1) tNil)) tNil)) (gName 3) tYes (tCallW (spOf K (zp__law_same n)) W0 (tCons (tOp (rIx K) (tVar 0) (tVar 3)) (tCons (tOp (rIx K) (tVar 1) (tVar 3)) tNil))) [3]) tNil))))) tNext)
  (tSeq (tIfS (tOr (tB (tCB (rIsiA K) (tCons (tVar 1) (tCons (tC (.ty "bool")) tNil)))) (tOr (tB (tCB (rIsiA K) (tCons (tVar 0) (tCons (tC (.ty "bool")) tNil)))) (tOr (tTest (tOp (fun x y H Q => y = .non ∧ Q (.bl (decide (x = .non))) H) (tVar 1) (tC .non))) (tTest (tOp (fun x y H Q => y = .non ∧ Q (.bl (decide (x = .non))) H) (tVar 0) (tC .non)))))) (tRet (tAndV (tOp (rEqD K) (tCB (rIsiA K) (tCons (tVar 0) (tCons (tC (.ty "bool")) tNil))) (tCB (rIsiA K) (tCons (tVar 1) (tCons (tC (.ty "bool")) tNil)))) (tAndV (tOp (rEqD K) (tOp (fun x y H Q => y = .non ∧ Q (.bl (decide (x = .non))) H) (tVar 0) (tC .non)) (tOp (fun x y H Q => y = .non ∧ Q (.bl (decide (x = .non))) H) (tVar 1) (tC .non))) (tOp (rEqD K) (tVar 0) (tVar 1))))) tNext)
  (tRet (tAndV (tOp (rEqD K) (tCB (rIsiA K) (tCons (tVar 0) (tCons (tC (.ty "str")) tNil))) (tCB (rIsiA K) (tCons (tVar 1) (tCons (tC (.ty "str")) tNil)))) (tAndV (tCB (rIsiA K) (tCons (tVar 0) (tCons (tTup (tCons (tC (.ty "int")) (tCons (tC (.ty "str")) tNil))) tNil))) (tOp (rEqD K) (tVar 0) (tVar 1)))))))), _,
  (pss_cons (ps_if (pt_val (pe_callB call_isiA rfl T.f_isinstance (by decide +kernel) (pa_cons (pv 1) (pa_cons (zp_ty (n := "dict") T.f_dict (by decide +kernel) rfl) pa_nil)))) (pss_cons (ps_if (PW.pt (pw_or (pt_not (pt_val (pe_callB call_isiA rfl T.f_isinstance (by decide +kernel) (pa_cons (pv 0) (pa_cons (zp_ty (n := "dict") T.f_dict (by decide +kernel) rfl) pa_nil))))) (pw_or1 (pt_cmpR (op_neD hr.units) (pe_callB call_lenA rfl T.f_len (by decide +kernel) (pa_cons (pv 0) pa_nil)) (pe_callB call_lenA rfl T.f_len (by decide +kernel) (pa_cons (pv 1) pa_nil)) (nomark _))))) (pss_one (ps_ret pe_bl)) pss_nil)
  (pss_one (ps_ret (pe_callB (cr_all rfl) rfl T.f_all (by decide +kernel) (pa_cons (pe_lc (own := [("name", 2)]) rfl sc__law_same.nd (pi_seq (pv 1)) (blkOk_by (by kernel_rfl)) (fun _ _ _ _ _ => (pg_name (i := 2) sc__law_same.nd rfl (Or.inl rfl))) (fun _ _ _ _ _ => pts_nil) (fun _ _ _ _ _ => (pe_and (pe_cmpR op_in_seq (pv 2) (pv 0) (by rfl)) (pe_one (zc_call (ih) (hr.mono (Nat.le_refl _)) rfl tk0 (pa_cons (pe_ix ix_seq (pv 0) (pv 2) (fun _ _ => rfl)) (pa_cons (pe_ix ix_seq (pv 1) (pv 2) (fun _ _ => rfl)) pa_nil))))))) pa_nil))))) pss_nil)
  (pss_cons (ps_if (pt_val (pe_callB call_isiA rfl T.f_isinstance (by decide +kernel) (pa_cons (pv 1) (pa_cons (pe_tup (pa_cons (zp_ty (n := "tuple") T.f_tuple (by decide +kernel) rfl) (pa_cons (zp_ty (n := "list") T.f_list (by decide +kernel) rfl) pa_nil))) pa_nil)))) (pss_cons (ps_if (PW.pt (pw_or (pt_cmpR (op_neD hr.units) (pe_callB call_isiA rfl T.f_isinstance (by decide +kernel) (pa_cons (pv 0) (pa_cons (zp_ty (n := "tuple") T.f_tuple (by decide +kernel) rfl) pa_nil))) (pe_callB call_isiA rfl T.f_isinstance (by decide +kernel) (pa_cons (pv 1) (pa_cons (zp_ty (n := "tuple") T.f_tuple (by decide +kernel) rfl) pa_nil))) (nomark _)) (pw_or1 (pt_not (pt_val (pe_callB call_isiA rfl T.f_isinstance (by decide +kernel) (pa_cons (pv 0) (pa_cons (pe_tup (pa_cons (zp_ty (n := "tuple") T.f_tuple (by decide +kernel) rfl) (pa_cons (zp_ty (n := "list") T.f_list (by decide +kernel) rfl) pa_nil))) pa_nil)))))))) (pss_one (ps_ret pe_bl)) pss_nil)
  (pss_one (ps_ret (pe_and (pe_cmpR (op_eqD hr.units) (pe_callB call_lenA rfl T.f_len (by decide +kernel) (pa_cons (pv 0) pa_nil)) (pe_callB call_lenA rfl T.f_len (by decide +kernel) (pa_cons (pv 1) pa_nil)) (nomark _)) (pe_one (pe_callB (cr_all rfl) rfl T.f_all (by decide +kernel) (pa_cons (pe_lc (own := [("at", 3)]) rfl sc__law_same.nd (pi_range1 rfl T.f_range (pa_cons (pe_callB call_lenA rfl T.f_len (by decide +kernel) (pa_cons (pv 1) pa_nil)) pa_nil)) (blkOk_by (by kernel_rfl)) (fun _ _ _ _ _ => (pg_name (i := 3) sc__law_same.nd rfl (Or.inl rfl))) (fun _ _ _ _ _ => pts_nil) (fun _ _ _ _ _ => (zc_call (ih) (hr.mono (Nat.le_refl _)) rfl tk0 (pa_cons (pe_ix ix_seq (pv 0) (pv 3) (fun _ _ => rfl)) (pa_cons (pe_ix ix_seq (pv 1) (pv 3) (fun _ _ => rfl)) pa_nil))))) pa_nil))))))) pss_nil)
  (pss_cons (ps_if (PW.pt (pw_or (pt_val (pe_callB call_isiA rfl T.f_isinstance (by decide +kernel) (pa_cons (pv 1) (pa_cons (zp_ty (n := "bool") T.f_bool (by decide +kernel) rfl) pa_nil)))) (pw_or (pt_val (pe_callB call_isiA rfl T.f_isinstance (by decide +kernel) (pa_cons (pv 0) (pa_cons (zp_ty (n := "bool") T.f_bool (by decide +kernel) rfl) pa_nil)))) (pw_or (pt_cmpR op_isN (pv 1) pe_non (nomark _)) (pw_or1 (pt_cmpR op_isN (pv 0) pe_non (nomark _))))))) (pss_one (ps_ret (pe_and (pe_cmpR (op_eqD hr.units) (pe_callB call_isiA rfl T.f_isinstance (by decide +kernel) (pa_cons (pv 0) (pa_cons (zp_ty (n := "bool") T.f_bool (by decide +kernel) rfl) pa_nil))) (pe_callB call_isiA rfl T.f_isinstance (by decide +kernel) (pa_cons (pv 1) (pa_cons (zp_ty (n := "bool") T.f_bool (by decide +kernel) rfl) pa_nil))) (nomark _)) (pe_and (pe_cmpR (op_eqD hr.units) (pe_cmpR op_isN (pv 0) pe_non (nomark _)) (pe_cmpR op_isN (pv 1) pe_non (nomark _)) (nomark _)) (pe_one (pe_cmpR (op_eqD hr.units) (pv 0) (pv 1) (nomark _))))))) pss_nil)
  (pss_one (ps_ret (pe_and (pe_cmpR (op_eqD hr.units) (pe_callB call_isiA rfl T.f_isinstance (by decide +kernel) (pa_cons (pv 0) (pa_cons (zp_ty (n := "str") T.f_str (by decide +kernel) rfl) pa_nil))) (pe_callB call_isiA rfl T.f_isinstance (by decide +kernel) (pa_cons (pv 1) (pa_cons (zp_ty (n := "str") T.f_str (by decide +kernel) rfl) pa_nil))) (nomark _)) (pe_and (pe_callB call_isiA rfl T.f_isinstance (by decide +kernel) (pa_cons (pv 0) (pa_cons (pe_tup (pa_cons (zp_ty (n := "int") T.f_int (by decide +kernel) rfl) (pa_cons (zp_ty (n := "str") T.f_str (by decide +kernel) rfl) pa_nil))) pa_nil))) (pe_one (pe_cmpR (op_eqD hr.units) (pv 0) (pv 1) (nomark _)))))))))),
  (ls_seq (ls_if (lt_B (le_cb lra_isi (la_cons le_var (la_cons le_c la_nil)))) (ls_seq (ls_if (lt_or (lt_not (lt_B (le_cb lra_isi (la_cons le_var (la_cons le_c la_nil))))) (lt_test (le_op lr_ne (le_cb lra_len (la_cons le_var la_nil)) (le_cb lra_len (la_cons le_var la_nil))))) (ls_ret le_c) ls_next)
  (ls_ret (le_cb lra_all (la_cons (le_lc (li_seq le_var) lg_name mono_name (wo_name (by decide)) lt_yes (le_andV (le_op lr_in le_var le_var) (le_call ctW0' (la_cons (le_op lr_ix le_var le_var) (la_cons (le_op lr_ix le_var le_var) la_nil))))) la_nil)))) ls_next)
  (ls_seq (ls_if (lt_B (le_cb lra_isi (la_cons le_var (la_cons (le_tup (la_cons le_c (la_cons le_c la_nil))) la_nil)))) (ls_seq (ls_if (lt_or (lt_test (le_op lr_ne (le_cb lra_isi (la_cons le_var (la_cons le_c la_nil))) (le_cb lra_isi (la_cons le_var (la_cons le_c la_nil))))) (lt_not (lt_B (le_cb lra_isi (la_cons le_var (la_cons (le_tup (la_cons le_c (la_cons le_c la_nil))) la_nil)))))) (ls_ret le_c) ls_next)
  (ls_ret (le_andV (le_op lr_eq (le_cb lra_len (la_cons le_var la_nil)) (le_cb lra_len (la_cons le_var la_nil))) (le_cb lra_all (la_cons (le_lc (li_rng1 (la_cons (le_cb lra_len (la_cons le_var la_nil)) la_nil)) lg_name mono_name (wo_name (by decide)) lt_yes (le_call ctW0' (la_cons (le_op lr_ix le_var le_var) (la_cons (le_op lr_ix le_var le_var) la_nil)))) la_nil))))) ls_next)
  (ls_seq (ls_if (lt_or (lt_B (le_cb lra_isi (la_cons le_var (la_cons le_c la_nil)))) (lt_or (lt_B (le_cb lra_isi (la_cons le_var (la_cons le_c la_nil)))) (lt_or (lt_test (le_op lr_isN le_var le_c)) (lt_test (le_op lr_isN le_var le_c))))) (ls_ret (le_andV (le_op lr_eq (le_cb lra_isi (la_cons le_var (la_cons le_c la_nil))) (le_cb lra_isi (la_cons le_var (la_cons le_c la_nil)))) (le_andV (le_op lr_eq (le_op lr_isN le_var le_c) (le_op lr_isN le_var le_c)) (le_op lr_eq le_var le_var)))) ls_next)
  (ls_ret (le_andV (le_op lr_eq (le_cb lra_isi (la_cons le_var (la_cons le_c la_nil))) (le_cb lra_isi (la_cons le_var (la_cons le_c la_nil)))) (le_andV (le_cb lra_isi (la_cons le_var (la_cons (le_tup (la_cons le_c (la_cons le_c la_nil))) la_nil))) (le_op lr_eq le_var le_var))))))), ?z⟩)
  case z =>
    intro ds Qz h
    obtain ⟨d, rfl, hs, h6, k⟩ := h
    cases hs with
    | @tup n ds hl hd =>
      try walk_at "z"
      refine ⟨by omega, by omega, ?_⟩
      refine zlc_map (fun _ _ => .v (.bl true)) (by rw [List.length_map, List.length_range, sizeLine_eq]; omega) ?_ ?_
      · intro i d k1 k2 hd2 hk1
        obtain ⟨hi, rfl⟩ := rg_at hd2
        have hi : i < ds.length := by omega
        try walk_at "z"
        refine ⟨ds[i], by rw [zat_nat]; exact List.getElem?_eq_getElem hi, ?_⟩
        refine ⟨ds[i], by rw [zat_nat]; exact List.getElem?_eq_getElem hi, ?_⟩
        exact ⟨ds[i], rfl, hd _ (List.getElem_mem hi), by omega, hk1⟩
      · try walk_at "z"
        rw [List.all_eq_true.mpr fun _ _ => rfl]
        exact k
    | non =>
      try walk_at "z"
      exact (e_eqS (d := .v .non) rfl (by decide)).mpr k
    | int =>
      try walk_at "z"
      exact k
theorem ok__law_kind_parts (T : Tx K mg base) : DefAt P w K mg base 3 "_law_kind_parts" ["hand", "size", "is_wide"] (zp__law_kind_parts) := by
  refine zok T.d__law_kind_parts sc__law_kind_parts hl__law_kind_parts (fun f cdv A outer s H E w0 Ez hr hW => ⟨(tSeq (tPar 3 4 (tCons (tOp (rAddA K) (tC (.int 1)) (tCallW (spOf K (zp__law_draw)) (WB E) (tCons (tVar 0) (tCons (tC (.int 3)) tNil)))) (tCons (tNNew w) tNil)))
  (tSeq (tFor (iRng1 (tCons (tOp (rAddA K) (tC (.int 1)) (tCallW (spOf K (zp__law_draw)) (WB E) (tCons (tVar 0) (tCons (tC (.int 9)) tNil)))) tNil)) (gName 5)
  (tSeq (tPar 6 7 (tCons (tTup (tCons (tCallW (spOf K (zp__law_draw)) (WB E) (tCons (tVar 0) (tCons (tVar 1) tNil))) tNil)) (tCons (tTup (tCons (tCallW (spOf K (zp__law_draw)) (WB E) (tCons (tVar 0) (tCons (tVar 1) tNil))) tNil)) tNil)))
  (tSeq (tIfS (tTest (tOp (rEqD K) (tCallW (spOf K (zp__law_draw)) (WB E) (tCons (tVar 0) (tCons (tC (.int 2)) tNil))) (tC (.int 0)))) (tAsg (tVar 6) (gName 7)) tNext)
  (tSeq (tIfS (tAnd (tB (tVar 2)) (tTest (tOp (rEqD K) (tCallW (spOf K (zp__law_draw)) (WB E) (tCons (tVar 0) (tCons (tC (.int 3)) tNil))) (tC (.int 0))))) (tSeq (tAsg (tLst (tCons (tTup tNil) (tCons (tVar 6) (tCons (tOp (rAddA K) (tVar 6) (tTup (tCons (tCallW (spOf K (zp__law_draw)) (WB E) (tCons (tVar 0) (tCons (tVar 1) tNil))) tNil))) tNil)))) (gName 8))
  (tSeq (tPar 6 7 (tCons (tCallW (spOf K (zp__law_any)) (WB E) (tCons (tVar 0) (tCons (tVar 8) tNil))) (tCons (tCallW (spOf K (zp__law_any)) (WB E) (tCons (tVar 0) (tCons (tLst (tCons (tTup tNil) (tCons (tVar 7) (tCons (tOp (rAddA K) (tVar 7) (tVar 6)) tNil)))) tNil))) tNil)))
  (tAsg (tIf (tTest (tOp (rI0 fun i j => .bl (decide (j < i))) (tOp (rAddA K) (tCB (rLenA K) (tCons (tVar 6) tNil)) (tCB (rLenA K) (tCons (tVar 7) tNil))) (tC (.int 0)))) (tVar 6) (tTup (tCons (tC (.int 0)) tNil))) (gName 6)))) tNext)
  (sNPut w (tVar 4) (tTup (tCons (tCallW (spOf K (zp__law_draw)) (WB E) (tCons (tVar 0) (tCons (tVar 3) tNil))) (tCons (tVar 6) (tCons (tSl (rSlS K) (tVar 7) tNoPart (tPart (tC (.int 2)))) (tCons (tCallW (spOf K (zp__law_draw)) (WB E) (tCons (tVar 0) (tCons (tVar 3) tNil))) tNil))))) (tC (.bl true)))))))
  (tSeq (tAsg (tCB (rTuple K) (tCons (tLc (iRng1 (tCons (tVar 3) tNil)) (gName 10) (tTest (tOp (rEqD K) (tCallW (spOf K (zp__law_draw)) W0 (tCons (tVar 0) (tCons (tC (.int 2)) tNil))) (tC (.int 0)))) (tVar 10) [10]) tNil)) (gName 9))
  (tRet (tTup (tCons (tVar 1) (tCons (tVar 3) (tCons (tCB (rTuple K) (tCons (tCB (rSrtY K) (tCons (tCB (rListN w) (tCons (tVar 4) tNil)) tNil)) tNil)) (tCons (tVar 9) tNil))))))))), _,
  (pss_cons (ps_par (i := 3) (j := 4) rfl sc__law_kind_parts.nd rfl rfl (by decide) rfl rfl (pa_cons (pe_op op_addA pe_int (zc_call (ok__law_draw T) (hr.mono (by decide)) rfl tkB (pa_cons (pv 0) (pa_cons pe_int pa_nil)))) (pa_cons pe_nnew pa_nil)) rfl)
  (pss_cons (ps_for (passes_of rfl) rfl (pi_range1 rfl T.f_range (pa_cons (pe_op op_addA pe_int (zc_call (ok__law_draw T) (hr.mono (by decide)) rfl tkB (pa_cons (pv 0) (pa_cons pe_int pa_nil)))) pa_nil)) (pg_name (i := 5) sc__law_kind_parts.nd rfl (Or.inl rfl))
  (pss_cons (ps_par (i := 6) (j := 7) rfl sc__law_kind_parts.nd rfl rfl (by decide) rfl rfl (pa_cons (pe_tup (pa_cons (zc_call (ok__law_draw T) (hr.mono (by decide)) rfl tkB (pa_cons (pv 0) (pa_cons (pv 1) pa_nil))) pa_nil)) (pa_cons (pe_tup (pa_cons (zc_call (ok__law_draw T) (hr.mono (by decide)) rfl tkB (pa_cons (pv 0) (pa_cons (pv 1) pa_nil))) pa_nil)) pa_nil)) rfl)
  (pss_cons (ps_if (pt_cmpR (op_eqD hr.units) (zc_call (ok__law_draw T) (hr.mono (by decide)) rfl tkB (pa_cons (pv 0) (pa_cons pe_int pa_nil))) pe_int (nomark _)) (pss_one (ps_set (i := 7) sc__law_kind_parts.nd rfl (Or.inl rfl) (pv 6))) pss_nil)
  (pss_cons (ps_if (PW.pt (pw_and (pt_val (pv 2)) (pw_and1 (pt_cmpR (op_eqD hr.units) (zc_call (ok__law_draw T) (hr.mono (by decide)) rfl tkB (pa_cons (pv 0) (pa_cons pe_int pa_nil))) pe_int (nomark _))))) (pss_cons (ps_set (i := 8) sc__law_kind_parts.nd rfl (Or.inl rfl) (pe_lst (pa_cons (pe_tup pa_nil) (pa_cons (pv 6) (pa_cons (pe_op op_addA (pv 6) (pe_tup (pa_cons (zc_call (ok__law_draw T) (hr.mono (by decide)) rfl tkB (pa_cons (pv 0) (pa_cons (pv 1) pa_nil))) pa_nil))) pa_nil)))))
  (pss_cons (ps_par (i := 6) (j := 7) rfl sc__law_kind_parts.nd rfl rfl (by decide) rfl rfl (pa_cons (zc_call (ok__law_any T) (hr.mono (by decide)) rfl tkB (pa_cons (pv 0) (pa_cons (pv 8) pa_nil))) (pa_cons (zc_call (ok__law_any T) (hr.mono (by decide)) rfl tkB (pa_cons (pv 0) (pa_cons (pe_lst (pa_cons (pe_tup pa_nil) (pa_cons (pv 7) (pa_cons (pe_op op_addA (pv 7) (pv 6)) pa_nil)))) pa_nil))) pa_nil)) rfl)
  (pss_one (ps_set (i := 6) sc__law_kind_parts.nd rfl (Or.inl rfl) (pe_ifExp (pt_cmpR op_gt (pe_op op_addA (pe_callB call_lenA rfl T.f_len (by decide +kernel) (pa_cons (pv 6) pa_nil)) (pe_callB call_lenA rfl T.f_len (by decide +kernel) (pa_cons (pv 7) pa_nil))) pe_int (nomark _)) (pv 6) (pe_tup (pa_cons pe_int pa_nil))))))) pss_nil)
  (pss_one (ps_nput (room9 hr) (pv 4) (pe_tup (pa_cons (zc_call (ok__law_draw T) (hr.mono (by decide)) rfl tkB (pa_cons (pv 0) (pa_cons (pv 3) pa_nil))) (pa_cons (pv 6) (pa_cons (pe_slice sl_seqA (pv 7) po_none (po_some pe_int)) (pa_cons (zc_call (ok__law_draw T) (hr.mono (by decide)) rfl tkB (pa_cons (pv 0) (pa_cons (pv 3) pa_nil))) pa_nil))))) pe_bl rfl))))))
  (pss_cons (ps_set (i := 9) sc__law_kind_parts.nd rfl (Or.inl rfl) (pe_callTy call_tuple_of rfl T.f_tuple (by decide +kernel) (pa_cons (pe_lc (own := [("state", 10)]) rfl sc__law_kind_parts.nd (pi_range1 rfl T.f_range (pa_cons (pv 3) pa_nil)) (blkOk_by (by kernel_rfl)) (fun _ _ _ _ _ => (pg_name (i := 10) sc__law_kind_parts.nd rfl (Or.inl rfl))) (fun _ _ _ _ _ => (pts_one (pt_cmpR (op_eqD hr.units) (zc_call (ok__law_draw T) (hr.mono (by decide)) rfl tk0 (pa_cons (pv 0) (pa_cons pe_int pa_nil))) pe_int (nomark _)))) (fun _ _ _ _ _ => (pv 10))) pa_nil)))
  (pss_one (ps_ret (pe_tup (pa_cons (pv 1) (pa_cons (pv 3) (pa_cons (pe_callTy call_tuple_of rfl T.f_tuple (by decide +kernel) (pa_cons (pe_callB (call_srtY (room64 hr)) rfl T.f_sorted (by decide +kernel) (pa_cons (pe_callTy (call_listN rfl) rfl T.f_list (by decide +kernel) (pa_cons (pv 4) pa_nil)) pa_nil)) pa_nil)) (pa_cons (pv 9) pa_nil)))))))))),
  (ls_seq (ls_par (la_cons (le_op lr_add le_c (le_call hW (la_cons le_var (la_cons le_c la_nil)))) (la_cons le_nnew la_nil)))
  (ls_seq (ls_for (li_rng1 (la_cons (le_op lr_add le_c (le_call hW (la_cons le_var (la_cons le_c la_nil)))) la_nil)) lg_name
  (ls_seq (ls_par (la_cons (le_tup (la_cons (le_call hW (la_cons le_var (la_cons le_var la_nil))) la_nil)) (la_cons (le_tup (la_cons (le_call hW (la_cons le_var (la_cons le_var la_nil))) la_nil)) la_nil)))
  (ls_seq (ls_if (lt_test (le_op lr_eq (le_call hW (la_cons le_var (la_cons le_c la_nil))) le_c)) (ls_asg le_var lg_name) ls_next)
  (ls_seq (ls_if (lt_and (lt_B le_var) (lt_test (le_op lr_eq (le_call hW (la_cons le_var (la_cons le_c la_nil))) le_c))) (ls_seq (ls_asg (le_lst (la_cons (le_tup la_nil) (la_cons le_var (la_cons (le_op lr_add le_var (le_tup (la_cons (le_call hW (la_cons le_var (la_cons le_var la_nil))) la_nil))) la_nil)))) lg_name)
  (ls_seq (ls_par (la_cons (le_call hW (la_cons le_var (la_cons le_var la_nil))) (la_cons (le_call hW (la_cons le_var (la_cons (le_lst (la_cons (le_tup la_nil) (la_cons le_var (la_cons (le_op lr_add le_var le_var) la_nil)))) la_nil))) la_nil)))
  (ls_asg (le_if (lt_test (le_op lr_I0 (le_op lr_add (le_cb lra_len (la_cons le_var la_nil)) (le_cb lra_len (la_cons le_var la_nil))) le_c)) le_var (le_tup (la_cons le_c la_nil))) lg_name))) ls_next)
  (ls_nput le_c le_var (le_tup (la_cons (le_call hW (la_cons le_var (la_cons le_var la_nil))) (la_cons le_var (la_cons (le_cut le_var lo_none (lo_some le_c)) (la_cons (le_call hW (la_cons le_var (la_cons le_var la_nil))) la_nil))))))))))
  (ls_seq (ls_asg (le_cb lra_tuple (la_cons (le_lc (li_rng1 (la_cons le_var la_nil)) lg_name mono_name (wo_name (by decide)) (lt_test (le_op lr_eq (le_call ctW0' (la_cons le_var (la_cons le_c la_nil))) le_c)) le_var) la_nil)) lg_name)
  (ls_ret (le_tup (la_cons le_var (la_cons le_var (la_cons (le_cb lra_tuple (la_cons (le_cb lra_srtY (la_cons (le_cb lra_listN (la_cons le_var la_nil)) la_nil)) la_nil)) (la_cons le_var la_nil))))))))), ?z⟩)
  case z =>
    intro ds Qz h
    obtain ⟨h, size, b, rfl, hH, s1, s2, k⟩ := h
    try walk_at "z"
    refine drw hH (by decide) (by decide) fun r0 M1 hx1 a0 b0 => ?_
    try walk_at "z"
    intro p hp
    have nph : p ≠ h := hx1.1.ne hp
    refine drw (hx1.1.put_ne nph) (by decide) (by decide) fun r1 M2 hx2 a1 b1 => ?_
    try walk_at "z"
    refine ⟨by omega, by omega, ?_⟩
    have hp0 : w0.M p = none := (hx1.2 p nph).symm.trans hp
    refine zloop (fun i δ M' => ∃ (A : List Arc) (q5 q6 q7 q8 q9 q10 : Option D), δ = [some (.v (.ref h)), some (.v (.int size)), some (.v (.bl b)), some (.v (.int (1 + r0))), some (.v (.ref p)), q5, q6, q7, q8, q9, q10] ∧ M' p = some (.dN w p (yesD A)) ∧ DA size (1 + r0) i A ∧ Hk h w0.M M') ?_ ?_ ⟨[], _, _, _, _, _, _, rfl, (hx2.2 _ nph).trans mput_same, ⟨.nil, (fun a ha => nomatch ha), Nat.le_refl _⟩, ((hx1.k).put hp0 nph).tr hx2.k⟩
    · rintro i d δ M' kk hd ⟨A, q5, q6, q7, q8, q9, q10, rfl, e1, da, hkk⟩ hk
      obtain ⟨hi, rfl⟩ := rg_at hd
      have one : ∀ r : Int, 0 ≤ r → r < size → ∀ x ∈ [r], 0 ≤ x ∧ x < size := fun r h0 h1 x hx => by rw [List.mem_singleton.mp hx]; exact ⟨h0, h1⟩
      refine zsq (fun δ M2 => ∃ (said heard : List Int), δ = [some (.v (.ref h)), some (.v (.int size)), some (.v (.bl b)), some (.v (.int (1 + r0))), some (.v (.ref p)), some (.v (.int i)), some (rowD said), some (rowD heard), q8, q9, q10] ∧ said.length = 1 ∧ heard.length = 1 ∧ (∀ x ∈ said, 0 ≤ x ∧ x < size) ∧ (∀ x ∈ heard, 0 ≤ x ∧ x < size) ∧ M2 p = some (.dN w p (yesD A)) ∧ Hk h w0.M M2) ?_ ?_
      · intro N hN
        try walk_at "z"
        refine drw hkk.1 (by omega) (by omega) fun r2 M3 hx3 a2 b2 => ?_
        try walk_at "z"
        refine drw hx3.1 (by omega) (by omega) fun r3 M4 hx4 a3 b3 => ?_
        try walk_at "z"
        exact hN _ _ ⟨[r2], [r3], rfl, rfl, rfl, one _ a2 b2, one _ a3 b3, (hx4.at nph (hx3.at nph e1)), (hkk.tr hx3.k).tr hx4.k⟩
      rintro δ M2 ⟨said, heard, rfl, l1, l2, bs, bh, e2, hk2⟩
      refine zsq (fun δ M2 => ∃ (said heard : List Int), δ = [some (.v (.ref h)), some (.v (.int size)), some (.v (.bl b)), some (.v (.int (1 + r0))), some (.v (.ref p)), some (.v (.int i)), some (rowD said), some (rowD heard), q8, q9, q10] ∧ said.length = 1 ∧ heard.length = 1 ∧ (∀ x ∈ said, 0 ≤ x ∧ x < size) ∧ (∀ x ∈ heard, 0 ≤ x ∧ x < size) ∧ M2 p = some (.dN w p (yesD A)) ∧ Hk h w0.M M2) ?_ ?_
      · intro N hN
        try walk_at "z"
        refine drw hk2.1 (by omega) (by omega) fun r4 M5 hx5 a4 b4 => ?_
        rw [e_eqI]
        try walk_at "z"
        split
        · exact hN _ _ ⟨said, said, rfl, l1, l1, bs, bs, hx5.at nph e2, hk2.tr hx5.k⟩
        · exact hN _ _ ⟨said, heard, rfl, l1, l2, bs, bh, hx5.at nph e2, hk2.tr hx5.k⟩
      clear l1 l2 bs bh e2 hk2 said heard
      rintro δ M2 ⟨said, heard, rfl, l1, l2, bs, bh, e2, hk2⟩
      refine zsq (fun δ M2 => ∃ (said heard : List Int) (q8 : Option D), δ = [some (.v (.ref h)), some (.v (.int size)), some (.v (.bl b)), some (.v (.int (1 + r0))), some (.v (.ref p)), some (.v (.int i)), some (rowD said), some (rowD heard), q8, q9, q10] ∧ said.length ≤ 2 ∧ heard.length ≤ 4 ∧ 0 < said.length + heard.length ∧ (∀ x ∈ said, 0 ≤ x ∧ x < size) ∧ (∀ x ∈ heard, 0 ≤ x ∧ x < size) ∧ M2 p = some (.dN w p (yesD A)) ∧ Hk h w0.M M2) ?_ ?_
      · intro N hN
        try walk_at "z"
        have fin : ∀ M2, M2 p = some (.dN w p (yesD A)) → Hk h w0.M M2 → N [some (.v (.ref h)), some (.v (.int size)), some (.v (.bl b)), some (.v (.int (1 + r0))), some (.v (.ref p)), some (.v (.int i)), some (rowD said), some (rowD heard), q8, q9, q10] M2 := fun M2 e2 hk2 => hN _ _ ⟨said, heard, _, rfl, by omega, by omega, by omega, bs, bh, e2, hk2⟩
        cases b with
        | false => 
          try walk_at "z"
          exact fin _ e2 hk2
        | true =>
          try walk_at "z"
          refine drw hk2.1 (by omega) (by omega) fun r4 M5 hx5 a4 b4 => ?_
          rw [e_eqI]
          try walk_at "z"
          split
          · refine drw hx5.1 (by omega) (by omega) fun r5 M6 hx6 a5 b5 => ?_
            try walk_at "z"
            refine ⟨by rw [ints_len]; omega, ?_⟩
            refine anyof hx6.1 (.inl rfl) (by simp) (by rw [sizeLine_eq]; show 3 ≤ 16777216; decide) fun x1 M7 hm7 hx7 => ?_
            refine ⟨by rw [ints_len, ints_len]; omega, ?_⟩
            refine anyof hx7.1 (.inl rfl) (by simp) (by rw [sizeLine_eq]; show 3 ≤ 16777216; decide) fun x2 M8 hm8 hx8 => ?_
            have k8 : Hk h w0.M M8 := ((hk2.tr hx5.k).tr hx6.k).tr (hx7.tr hx8).k
            have p8 := hx8.at nph (hx7.at nph (hx6.at nph (hx5.at nph e2)))
            obtain ⟨sd, rfl, sl, sb⟩ : ∃ sd : List Int, x1 = rowD sd ∧ sd.length ≤ 2 ∧ ∀ x ∈ sd, 0 ≤ x ∧ x < size := by
              simp only [List.mem_cons, List.not_mem_nil, or_false] at hm7
              rcases hm7 with rfl | rfl | rfl
              · exact ⟨[], rfl, by decide, fun x hx => absurd hx List.not_mem_nil⟩
              · exact ⟨said, rfl, by omega, bs⟩
              · refine ⟨said ++ [r5], by unfold rowD dInts; simp, by rw [List.length_append, List.length_singleton]; omega, fun x hx => ?_⟩
                rcases List.mem_append.mp hx with hx | hx
                · exact bs x hx
                · exact one _ a5 b5 x hx
            obtain ⟨hd, rfl, hl, hb⟩ : ∃ hd : List Int, x2 = rowD hd ∧ hd.length ≤ 2 ∧ ∀ x ∈ hd, 0 ≤ x ∧ x < size := by
              simp only [List.mem_cons, List.not_mem_nil, or_false] at hm8
              rcases hm8 with rfl | rfl | rfl
              · exact ⟨[], rfl, by decide, fun x hx => absurd hx List.not_mem_nil⟩
              · exact ⟨heard, rfl, by omega, bh⟩
              · refine ⟨heard ++ said, by unfold rowD dInts; simp, by rw [List.length_append]; omega, fun x hx => ?_⟩
                rcases List.mem_append.mp hx with hx | hx
                · exact bh x hx
                · exact bs x hx
            try walk_at "z"
            rw [ints_len, ints_len]
            split
            · exact hN _ _ ⟨sd, hd, _, rfl, by omega, by omega, by omega, sb, hb, p8, k8⟩
            · exact hN _ _ ⟨[0], hd, _, rfl, by decide, by omega, by rw [List.length_singleton]; omega, one 0 (by decide) (by omega), hb, p8, k8⟩
          · exact fin _ (hx5.at nph e2) (hk2.tr hx5.k)
      rintro δ M2 ⟨said, heard, q8, rfl, l1, l2, l3, bs, bh, e2, hk2⟩
      try walk_at "z"
      refine drw hk2.1 (by omega) (by omega) fun r6 M6 hx6 a6 b6 => ?_
      try walk_at "z"
      refine drw hx6.1 (by omega) (by omega) fun r7 M7 hx7 a7 b7 => ?_
      try walk_at "z"
      have ok : ArcOk size (1 + r0) (r6, said, heard.take 2, r7) := ⟨a6, b6, a7, b7, bs, fun x hx => bh x (List.mem_of_mem_take hx), l1, by show (heard.take 2).length ≤ 2; rw [List.length_take]; omega, by show 0 < said.length + (heard.take 2).length; rw [List.length_take]; omega⟩
      have ec : (D.tup [.v (.int r6), rowD said, .tup (Zl.cutD (dInts heard) none (some 2)), .v (.int r7)]) = arcD (r6, said, heard.take 2, r7) := by
        unfold arcD rowD dInts
        rw [cutD_take2, List.map_take]
      rw [ec]
      refine ⟨_, hx7.at nph (hx6.at nph e2), keyB_arc, by rw [yes_len]; have := da.l; omega, hk _ _ ⟨addA A (r6, said, heard.take 2, r7), _, _, _, _, _, _, rfl, ?_, da.add ok, ((hk2.tr hx6.k).tr hx7.k).put hp0 nph⟩⟩
      rw [mput_same, put_yes]
    · rintro δ M' ⟨A, q5, q6, q7, q8, q9, q10, rfl, e1, da, hkk⟩
      rw [List.length_map, List.length_range] at da
      try walk_at "z"
      refine ⟨by omega, by omega, ?_⟩
      refine drwf rfl (by decide) (by show 10 < 11; decide) hkk.1 (by decide) (by decide) (by rw [sizeLine_eq]; omega) fun ends M3 ep eb el hx3 => ?_
      have l := da.l
      refine ⟨_, hx3.at nph e1, ?_, ?_⟩
      · rw [yes_keys]
        exact srtOk_arc (by rw [sizeLine_eq]; omega)
      · rw [yes_keys, sortD_arc]
        exact k (1 + r0) (sortA A) ends M3 (KOk.of s1 s2 (by omega) (by omega) (by omega) da.b da.nd ep fun x hx => by have := eb x hx; omega) (hkk.tr hx3.k)
theorem ok__law_kind (T : Tx K mg base) : DefAt P w K mg base 8 "_law_kind" ["parts"] (zp__law_kind K) := by
  refine zok T.d__law_kind sc__law_kind hl__law_kind (fun f cdv A outer s H E w0 Ez hr hW => ⟨(tRet (tMakeW (He.ga K "Kind") (spOf K (zp_Kind___init__ K)) (WB E) (tCons (tOp (rIx K) (tVar 0) (tC (.int 0))) (tCons (tOp (rIx K) (tVar 0) (tC (.int 1))) (tCons (tOp (rIx K) (tVar 0) (tC (.int 2))) (tCons (tOp (rIx K) (tVar 0) (tC (.int 3))) tNil)))))), _,
  (pss_one (ps_ret (zc_make (ok_Kind T) (hr.mono (by decide)) rfl tkB (pa_cons (pe_ix ix_seq (pv 0) pe_int (fun _ _ => rfl)) (pa_cons (pe_ix ix_seq (pv 0) pe_int (fun _ _ => rfl)) (pa_cons (pe_ix ix_seq (pv 0) pe_int (fun _ _ => rfl)) (pa_cons (pe_ix ix_seq (pv 0) pe_int (fun _ _ => rfl)) pa_nil))))))),
  (ls_ret (le_make mk_Kind hW (la_cons (le_op lr_ix le_var le_c) (la_cons (le_op lr_ix le_var le_c) (la_cons (le_op lr_ix le_var le_c) (la_cons (le_op lr_ix le_var le_c) la_nil)))))), ?z⟩)
  case z =>
    intro ds Qz h
    obtain ⟨size, many, arcs, ends, rfl, hk, k⟩ := h
    try walk_at "z"
    exact ⟨size, many, arcs, ends, rfl, hk, k⟩
theorem ok__law_parts_of (T : Tx K mg base) : DefAt P w K mg base 1 "_law_parts_of" ["kind"] (zp__law_parts_of K) := by
  refine zok T.d__law_parts_of sc__law_parts_of hl__law_parts_of (fun f cdv A outer s H E w0 Ez hr hW => ⟨(tRet (tTup (tCons (tFld K (tVar 0) "size") (tCons (tFld K (tVar 0) "many") (tCons (tFld K (tVar 0) "arcs") (tCons (tFld K (tVar 0) "ends") tNil)))))), _,
  (pss_one (ps_ret (pe_tup (pa_cons (pe_fld (pv 0) rfl) (pa_cons (pe_fld (pv 0) rfl) (pa_cons (pe_fld (pv 0) rfl) (pa_cons (pe_fld (pv 0) rfl) pa_nil))))))),
  (ls_ret (le_tup (la_cons (le_fld le_var) (la_cons (le_fld le_var) (la_cons (le_fld le_var) (la_cons (le_fld le_var) la_nil)))))), ?z⟩)
  case z =>
    intro ds Qz h
    obtain ⟨size, many, arcs, ends, rfl, k⟩ := h
    have f1 : FldOk K (He.ga K "Kind") "size" := ⟨T.c_Kind, T.na_Kind_size⟩
    have f2 : FldOk K (He.ga K "Kind") "many" := ⟨T.c_Kind, T.na_Kind_many⟩
    have f3 : FldOk K (He.ga K "Kind") "arcs" := ⟨T.c_Kind, T.na_Kind_arcs⟩
    have f4 : FldOk K (He.ga K "Kind") "ends" := ⟨T.c_Kind, T.na_Kind_ends⟩
    try walk_at "z"
    refine ⟨f1, _, knL1, ?_⟩
    try walk_at "z"
    refine ⟨f2, _, knL2, ?_⟩
    try walk_at "z"
    refine ⟨f3, _, knL3, ?_⟩
    try walk_at "z"
    refine ⟨f4, _, knL4, ?_⟩
    try walk_at "z"
    exact k
theorem ok__law_word (T : Tx K mg base) : DefAt P w K mg base 3 "_law_word" ["hand", "size"] (zp__law_word) := by
  refine zok T.d__law_word sc__law_word hl__law_word (fun f cdv A outer s H E w0 Ez hr hW => ⟨(tSeq (tAsg (tLst tNil) (gName 2))
  (tSeq (tFor (iRng1 (tCons (tVar 1) tNil)) (gName 3)
  (tDrop (tBM K "list" rExtend (tVar 2) (tCons (tLc (iRng1 (tCons (tVar 1) tNil)) (gName 4) (tTest (tOp (rNeD K) (tVar 3) (tVar 4))) (tTup (tCons (tVar 3) (tCons (tVar 4) tNil))) [4]) tNil))))
  (tSeq (tAsg (tCB (rTuple K) (tCons (tLc (iSeq K (tVar 2)) (gName 6) (tTest (tOp (rEqD K) (tCallW (spOf K (zp__law_draw)) W0 (tCons (tVar 0) (tCons (tC (.int 3)) tNil))) (tC (.int 0)))) (tVar 6) [6]) tNil)) (gName 5))
  (tSeq (tAsg (tLst (tCons (tTup (tCons (tC (.str "exchanged")) (tCons (tC (.int 1)) tNil))) (tCons (tTup (tCons (tC (.str "exchanged")) (tCons (tC (.int 2)) tNil))) (tCons (tTup (tCons (tC (.str "misheard")) (tCons (tVar 5) tNil))) (tCons (tTup (tCons (tC (.str "any")) tNil)) (tCons (tTup (tCons (tC (.str "twins")) tNil)) tNil)))))) (gName 7))
  (tRet (tCallW (spOf K (zp__law_any)) (WB E) (tCons (tVar 0) (tCons (tOp (rAddA K) (tVar 7) (tLst (tCons (tTup (tCons (tC (.str "out")) tNil)) (tCons (tTup (tCons (tC (.str "in")) tNil)) (tCons (tTup (tCons (tC (.str "doubled")) tNil)) tNil))))) tNil)))))))), _,
  (pss_cons (ps_set (i := 2) sc__law_word.nd rfl (Or.inl rfl) (pe_lst pa_nil))
  (pss_cons (ps_for (passes_of rfl) rfl (pi_range1 rfl T.f_range (pa_cons (pv 1) pa_nil)) (pg_name (i := 3) sc__law_word.nd rfl (Or.inr rfl))
  (pss_one (ps_expr (pe_bm PySem.F.plainAttrs_list PySem.F.slot_list_extend PySem.F.type_list_extend mt_extend (pv 2) (pa_cons (pe_lc (own := [("b", 4)]) rfl sc__law_word.nd (pi_range1 rfl T.f_range (pa_cons (pv 1) pa_nil)) (blkOk_by (by kernel_rfl)) (fun _ _ _ _ _ => (pg_name (i := 4) sc__law_word.nd rfl (Or.inl rfl))) (fun _ _ _ _ _ => (pts_one (pt_cmpR (op_neD hr.units) (pv 3) (pv 4) (nomark _)))) (fun _ _ _ _ _ => (pe_tup (pa_cons (pv 3) (pa_cons (pv 4) pa_nil))))) pa_nil)))))
  (pss_cons (ps_set (i := 5) sc__law_word.nd rfl (Or.inl rfl) (pe_callTy call_tuple_of rfl T.f_tuple (by decide +kernel) (pa_cons (pe_lc (own := [("pair", 6)]) rfl sc__law_word.nd (pi_seq (pv 2)) (blkOk_by (by kernel_rfl)) (fun _ _ _ _ _ => (pg_name (i := 6) sc__law_word.nd rfl (Or.inl rfl))) (fun _ _ _ _ _ => (pts_one (pt_cmpR (op_eqD hr.units) (zc_call (ok__law_draw T) (hr.mono (by decide)) rfl tk0 (pa_cons (pv 0) (pa_cons pe_int pa_nil))) pe_int (nomark _)))) (fun _ _ _ _ _ => (pv 6))) pa_nil)))
  (pss_cons (ps_set (i := 7) sc__law_word.nd rfl (Or.inl rfl) (pe_lst (pa_cons (pe_tup (pa_cons pe_str (pa_cons pe_int pa_nil))) (pa_cons (pe_tup (pa_cons pe_str (pa_cons pe_int pa_nil))) (pa_cons (pe_tup (pa_cons pe_str (pa_cons (pv 5) pa_nil))) (pa_cons (pe_tup (pa_cons pe_str pa_nil)) (pa_cons (pe_tup (pa_cons pe_str pa_nil)) pa_nil)))))))
  (pss_one (ps_ret (zc_call (ok__law_any T) (hr.mono (by decide)) rfl tkB (pa_cons (pv 0) (pa_cons (pe_op op_addA (pv 7) (pe_lst (pa_cons (pe_tup (pa_cons pe_str pa_nil)) (pa_cons (pe_tup (pa_cons pe_str pa_nil)) (pa_cons (pe_tup (pa_cons pe_str pa_nil)) pa_nil))))) pa_nil))))))))),
  (ls_seq (ls_asg (le_lstM la_nil) lg_name)
  (ls_seq (ls_reb (i := 2) (ls_for (li_rng1 (la_cons le_var la_nil)) lg_name
  (ls_drop (le_bmL lrm_extend le_var (la_cons (le_lc (li_rng1 (la_cons le_var la_nil)) lg_name mono_name (wo_name (by decide)) (lt_test (le_op lr_ne le_var le_var)) (le_tup (la_cons le_var (la_cons le_var la_nil)))) la_nil)))))
  (ls_seq (ls_asg (le_cb lra_tuple (la_cons (le_lc (li_seq le_var) lg_name mono_name (wo_name (by decide)) (lt_test (le_op lr_eq (le_call ctW0' (la_cons le_var (la_cons le_c la_nil))) le_c)) le_var) la_nil)) lg_name)
  (ls_seq (ls_asg (le_lst (la_cons (le_tup (la_cons le_c (la_cons le_c la_nil))) (la_cons (le_tup (la_cons le_c (la_cons le_c la_nil))) (la_cons (le_tup (la_cons le_c (la_cons le_var la_nil))) (la_cons (le_tup (la_cons le_c la_nil)) (la_cons (le_tup (la_cons le_c la_nil)) la_nil)))))) lg_name)
  (ls_ret (le_call hW (la_cons le_var (la_cons (le_op lr_add le_var (le_lst (la_cons (le_tup (la_cons le_c la_nil)) (la_cons (le_tup (la_cons le_c la_nil)) (la_cons (le_tup (la_cons le_c la_nil)) la_nil))))) la_nil)))))))), ?z⟩)
  case z =>
    intro ds Qz h
    obtain ⟨h, size, rfl, hH, s1, s2, k⟩ := h
    try walk_at "z"
    intro p hp
    have nph : p ≠ h := hH.ne hp
    refine ⟨by omega, by omega, ?_⟩
    refine zloop (fun i δ M' => ∃ a b c d e, δ = [some (.v (.ref h)), some (.v (.int size)), some (.v (.ref p)), a, b, c, d, e] ∧ M' p = some (.lst ((upP size.toNat i).map keyD)) ∧ Hk h w0.M M') ?_ ?_ ⟨_, _, _, _, _, rfl, mput_same, (Hk.rf hH).put hp nph⟩
    · rintro i d δ M' kk hd ⟨a, b, c, q6, q7, rfl, e1, kp⟩ hk
      obtain ⟨hi, rfl⟩ := rg_at hd
      try walk_at "z"
      refine ⟨⟨_, e1⟩, by omega, by omega, ?_⟩
      refine zlc (fun j acc M2 => M2 = M' ∧ acc = (((List.range j).filter fun b => decide (b ≠ i)).map fun (b : Nat) => ((i : Int), (b : Int))).map keyD) (by rw [List.length_map, List.length_range, sizeLine_eq]; omega) ?_ ?_ ⟨rfl, rfl⟩
      · rintro j d acc M2 k1 k2 hd ⟨rfl, rfl⟩ hk1 hk2
        obtain ⟨hj, rfl⟩ := rg_at hd
        try walk_at "z"
        by_cases q : j = i
        · rw [if_neg (by omega)]
          refine hk2 _ ⟨rfl, ?_⟩
          rw [List.range_succ, List.filter_append, List.filter_cons]
          simp [q]
        · rw [if_pos (by omega)]
          refine hk1 _ _ ⟨rfl, ?_⟩
          rw [List.range_succ, List.filter_append, List.filter_cons]
          simp [q, keyD]
      · rintro acc M2 ⟨rfl, rfl⟩ hl
        simp only [List.length_map, List.length_range] at hl ⊢
        have l1 : (upP size.toNat i).length ≤ 144 := Nat.le_trans upP_len (Nat.le_trans (Nat.mul_le_mul (show i ≤ 12 by omega) (show size.toNat ≤ 12 by omega)) (by decide))
        refine ⟨_, e1, by rw [List.length_map]; omega, hk _ _ ⟨_, _, _, _, _, rfl, ?_, kp.put hp nph⟩⟩
        rw [mput_same, ← List.map_append, upP_succ]
        rfl
    · rintro δ M' ⟨a, b, c, q6, q7, rfl, e1, kp⟩
      rw [List.length_map, List.length_range] at e1
      try walk_at "z"
      refine ⟨_, e1, ?_⟩
      have l1 : (upP size.toNat size.toNat).length ≤ 144 := Nat.le_trans upP_len (Nat.le_trans (Nat.mul_le_mul (show size.toNat ≤ 12 by omega) (show size.toNat ≤ 12 by omega)) (by decide))
      have hk0 : Hk h w0.M (mdel M' p) := ⟨kp.1.del_ne nph, fun x m nx e => by rw [mdel_ne (fun z => by subst z; rw [hp] at e; cases e)]; exact kp.2 x m nx e⟩
      refine zlc (fun j acc M2 => Hk h w0.M M2 ∧ ∃ ps : List (Int × Int), acc = ps.map keyD ∧ List.Sublist ps ((upP size.toNat size.toNat).take j)) (by rw [List.length_map, sizeLine_eq]; omega) ?_ ?_ ⟨hk0, [], rfl, List.nil_sublist _⟩
      · rintro j d acc M2 k1 k2 hd ⟨hkk, ps, rfl, hs⟩ hk1 hk2
        rw [List.getElem?_map] at hd
        cases e2 : (upP size.toNat size.toNat)[j]? with
        | none => rw [e2] at hd; cases hd
        | some pr =>
          rw [e2] at hd
          cases hd
          try walk_at "z"
          refine drw hkk.1 (by decide) (by decide) fun r M3 hx a b => ?_
          rw [List.take_succ, e2] at hk1 hk2
          rw [e_eqI]
          try walk_at "z"
          split
          · exact hk1 _ _ ⟨hkk.tr hx.k, ps ++ [pr], by simp, hs.append (List.Sublist.refl _)⟩
          · exact hk2 _ ⟨hkk.tr hx.k, ps, rfl, hs.trans (List.sublist_append_left _ _)⟩
      · rintro acc M2 ⟨hkk, ps, rfl, hs⟩ _
        rw [List.length_map, List.take_length] at hs
        have up := up_ok s1 s2
        have hps : PsOk size ps := ⟨fun q hq => up.b q (hs.mem hq), up.s.sublist hs, Nat.le_trans hs.length_le (by omega)⟩
        try walk_at "z"
        refine anyof hkk.1 (.inl rfl) (by simp) (by rw [sizeLine_eq]; show 8 ≤ 16777216; decide) fun x M3 hm hx => k _ _ ?_ (hkk.tr hx.k)
        simp only [List.mem_cons, List.not_mem_nil, or_false] at hm
        rcases hm with rfl | rfl | rfl | rfl | rfl | rfl | rfl | rfl
        · exact .inl ⟨1, by decide, by decide, rfl⟩
        · exact .inl ⟨2, by decide, by decide, rfl⟩
        · exact .inr (.inl ⟨ps, hps, rfl⟩)
        · exact .inr (.inr (.inl rfl))
        · exact .inr (.inr (.inr (.inl rfl)))
        · exact .inr (.inr (.inr (.inr (.inl rfl))))
        · exact .inr (.inr (.inr (.inr (.inr (.inl rfl)))))
        · exact .inr (.inr (.inr (.inr (.inr (.inr rfl)))))
theorem ok__law_kind_of (T : Tx K mg base) : DefAt P w K mg base 11 "_law_kind_of" ["size", "word"] (zp__law_kind_of K) := by
  refine zok T.d__law_kind_of sc__law_kind_of hl__law_kind_of (fun f cdv A outer s H E w0 Ez hr hW => ⟨(tSeq (tIfS (tTest (tOp (rEqD K) (tOp (rIx K) (tVar 1) (tC (.int 0))) (tC (.str "exchanged")))) (tRet (tCallW (spOf K (zp_exchanged K)) (WB E) (tCons (tVar 0) (tCons (tOp (rIx K) (tVar 1) (tC (.int 1))) tNil)))) tNext)
  (tSeq (tIfS (tTest (tOp (rEqD K) (tOp (rIx K) (tVar 1) (tC (.int 0))) (tC (.str "misheard")))) (tRet (tCallW (spOf K (zp_misheard K)) (WB E) (tCons (tVar 0) (tCons (tOp (rIx K) (tVar 1) (tC (.int 1))) tNil)))) tNext)
  (tSeq (tIfS (tTest (tOp (rIn K false) (tOp (rIx K) (tVar 1) (tC (.int 0))) (tTup (tCons (tC (.str "any")) (tCons (tC (.str "twins")) tNil))))) (tRet (tIf (tTest (tOp (rEqD K) (tOp (rIx K) (tVar 1) (tC (.int 0))) (tC (.str "any")))) (tCallW (spOf K (zp_any_sign K)) (WB E) (tCons (tVar 0) tNil)) (tCallW (spOf K (zp_made1 K)) (WB E) (tCons (tVar 0) tNil)))) tNext)
  (tSeq (tIfS (tTest (tOp (rEqD K) (tOp (rIx K) (tVar 1) (tC (.int 0))) (tC (.str "out")))) (tRet (tCallW (spOf K (zp_left_out K)) (WB E) (tCons (tVar 0) tNil))) tNext)
  (tRet (tIf (tTest (tOp (rEqD K) (tOp (rIx K) (tVar 1) (tC (.int 0))) (tC (.str "in")))) (tCallW (spOf K (zp_put_in K)) (WB E) (tCons (tVar 0) tNil)) (tCallW (spOf K (zp_doubled K)) (WB E) (tCons (tVar 0) tNil)))))))), _,
  (pss_cons (ps_if (pt_cmpR (op_eqD hr.units) (pe_ix ix_seq (pv 1) pe_int (fun _ _ => rfl)) pe_str (nomark _)) (pss_one (ps_ret (zc_call (ok_exchanged T) (hr.mono (by decide)) rfl tkB (pa_cons (pv 0) (pa_cons (pe_ix ix_seq (pv 1) pe_int (fun _ _ => rfl)) pa_nil))))) pss_nil)
  (pss_cons (ps_if (pt_cmpR (op_eqD hr.units) (pe_ix ix_seq (pv 1) pe_int (fun _ _ => rfl)) pe_str (nomark _)) (pss_one (ps_ret (zc_call (ok_misheard T) (hr.mono (by decide)) rfl tkB (pa_cons (pv 0) (pa_cons (pe_ix ix_seq (pv 1) pe_int (fun _ _ => rfl)) pa_nil))))) pss_nil)
  (pss_cons (ps_if (pt_cmpR op_in_seq (pe_ix ix_seq (pv 1) pe_int (fun _ _ => rfl)) (pe_tup (pa_cons pe_str (pa_cons pe_str pa_nil))) (by rfl)) (pss_one (ps_ret (pe_ifExp (pt_cmpR (op_eqD hr.units) (pe_ix ix_seq (pv 1) pe_int (fun _ _ => rfl)) pe_str (nomark _)) (zc_call (ok_any_sign T) (hr.mono (by decide)) rfl tkB (pa_cons (pv 0) pa_nil)) (zc_call (ok_twins T) (hr.mono (by decide)) rfl tkB (pa_cons (pv 0) pa_nil))))) pss_nil)
  (pss_cons (ps_if (pt_cmpR (op_eqD hr.units) (pe_ix ix_seq (pv 1) pe_int (fun _ _ => rfl)) pe_str (nomark _)) (pss_one (ps_ret (zc_call (ok_left_out T) (hr.mono (by decide)) rfl tkB (pa_cons (pv 0) pa_nil)))) pss_nil)
  (pss_one (ps_ret (pe_ifExp (pt_cmpR (op_eqD hr.units) (pe_ix ix_seq (pv 1) pe_int (fun _ _ => rfl)) pe_str (nomark _)) (zc_call (ok_put_in T) (hr.mono (by decide)) rfl tkB (pa_cons (pv 0) pa_nil)) (zc_call (ok_doubled T) (hr.mono (by decide)) rfl tkB (pa_cons (pv 0) pa_nil))))))))),
  (ls_seq (ls_if (lt_test (le_op lr_eq (le_op lr_ix le_var le_c) le_c)) (ls_ret (le_call hW (la_cons le_var (la_cons (le_op lr_ix le_var le_c) la_nil)))) ls_next)
  (ls_seq (ls_if (lt_test (le_op lr_eq (le_op lr_ix le_var le_c) le_c)) (ls_ret (le_call hW (la_cons le_var (la_cons (le_op lr_ix le_var le_c) la_nil)))) ls_next)
  (ls_seq (ls_if (lt_test (le_op lr_in (le_op lr_ix le_var le_c) (le_tup (la_cons le_c (la_cons le_c la_nil))))) (ls_ret (le_if (lt_test (le_op lr_eq (le_op lr_ix le_var le_c) le_c)) (le_call hW (la_cons le_var la_nil)) (le_call hW (la_cons le_var la_nil)))) ls_next)
  (ls_seq (ls_if (lt_test (le_op lr_eq (le_op lr_ix le_var le_c) le_c)) (ls_ret (le_call hW (la_cons le_var la_nil))) ls_next)
  (ls_ret (le_if (lt_test (le_op lr_eq (le_op lr_ix le_var le_c) le_c)) (le_call hW (la_cons le_var la_nil)) (le_call hW (la_cons le_var la_nil)))))))), ?z⟩)
  case z =>
    intro ds Qz h
    obtain ⟨size, d, rfl, s1, s2, hw, k⟩ := h
    rcases hw with ⟨far, h1, h2, rfl⟩ | ⟨ps, hp, rfl⟩ | rfl | rfl | rfl | rfl | rfl
    · try walk_at "z"
      walk_at "w"
      exact ⟨size, far, rfl, s1, s2, h1, h2, k⟩
    · try walk_at "z"
      walk_at "w"
      exact ⟨size, ps, rfl, s1, s2, hp, k _ _ _ _ (place_kok s1 s2 (hr_pairs hp)) (Kp.rf _)⟩
    · try walk_at "z"
      walk_at "w"
      exact ⟨size, rfl, s1, s2, fun M' kp => k _ _ _ _ (place_kok s1 s2 (hr_pairs (up_ok s1 s2))) kp⟩
    · try walk_at "z"
      walk_at "w"
      exact ⟨size, rfl, s1, s2, k⟩
    · try walk_at "z"
      walk_at "w"
      exact ⟨size, rfl, s1, s2, k _ _ _ _ (place_kok s1 s2 (ok_outH s2)) (Kp.rf _)⟩
    · try walk_at "z"
      walk_at "w"
      exact ⟨size, rfl, s1, s2, k _ _ _ _ (place_kok s1 s2 (ok_inH s2)) (Kp.rf _)⟩
    · try walk_at "z"
      walk_at "w"
      exact ⟨size, rfl, s1, s2, k _ _ _ _ (place_kok s1 s2 (ok_dblH s2)) (Kp.rf _)⟩
theorem ok__law_lags (T : Tx K mg base) : DefAt P w K mg base 1 "_law_lags" ["kind"] (zp__law_lags) := by
  refine zok T.d__law_lags sc__law_lags hl__law_lags (fun f cdv A outer s H E w0 Ez hr hW => ⟨(tSeq (tAsg (tTup (tCons (tD1 (0) (tC (.int 0))) (tCons (tLst (tCons (tC (.int 0)) tNil)) tNil))) (gTup K 2 (gCons (gName 1) (gCons (gName 2) gNil))))
  (tSeq (tWhile (tTest (tOp (rI0 fun i j => .bl (decide (j < i))) (tCB (rLenA K) (tCons (tVar 2) tNil)) (tC (.int 0))))
  (tSeq (tAsg (tBM0 K "list" rPop (tVar 2)) (gName 3))
  (tFor (iSeq K (tOp (rIx K) (tVar 0) (tC (.int 2)))) (gTup K 4 (gCons (gName 4) (gCons (gName 5) (gCons (gName 6) (gCons (gName 7) gNil)))))
  (tIfS (tTest (tOp (rEqD K) (tVar 4) (tVar 3))) (tSeq (tAsg (tOp (rI0 fun i j => .int (i - j)) (tOp (rAddA K) (tDGet (tVar 1) (tVar 3)) (tCB (rLenA K) (tCons (tVar 5) tNil))) (tCB (rLenA K) (tCons (tVar 6) tNil))) (gName 8))
  (tIfS (tTest (tOp (rDIn true) (tVar 7) (tVar 1))) (tSeq (sDPut (tVar 1) (tVar 7) (tVar 8))
  (tDrop (tBM K "list" rAppend (tVar 2) (tCons (tVar 7) tNil)))) (tIfS (tTest (tOp (rNeD K) (tDGet (tVar 1) (tVar 7)) (tVar 8))) (tRet (tC .non)) tNext))) tNext))))
  (tSeq (tIfS (tB (tCB (rAny K) (tCons (tLc (iSeq K (tOp (rIx K) (tVar 0) (tC (.int 3)))) (gName 4) tYes (tOp (rNeD K) (tDGet2 (tVar 1) (tVar 4) (tC (.int 0))) (tC (.int 0))) [4]) tNil))) (tRet (tC .non)) tNext)
  (tRet (tCB (rTuple K) (tCons (tLc (iRng1 (tCons (tOp (rIx K) (tVar 0) (tC (.int 1))) tNil)) (gName 4) tYes (tDGet2 (tVar 1) (tVar 4) (tC .non)) [4]) tNil)))))), _,
  (pss_cons (ps_asg (pe_tup (pa_cons (zp_d1 pe_int) (pa_cons (pe_lst (pa_cons pe_int pa_nil)) pa_nil))) (pg_tup rfl (pgs_cons (pg_name (i := 1) sc__law_lags.nd rfl (Or.inr rfl)) (pgs_cons (pg_name (i := 2) sc__law_lags.nd rfl (Or.inl rfl)) pgs_nil))))
  (pss_cons (ps_while (passes_of rfl) (pt_cmpR op_gt (pe_callB call_lenA rfl T.f_len (by decide +kernel) (pa_cons (pv 2) pa_nil)) pe_int (nomark _))
  (pss_cons (ps_set (i := 3) sc__law_lags.nd rfl (Or.inl rfl) (pe_bm0 PySem.F.plainAttrs_list PySem.F.slot_list_pop PySem.F.type_list_pop mt_pop (pv 2)))
  (pss_one (ps_for (passes_of rfl) rfl (pi_seq (pe_ix ix_seq (pv 0) pe_int (fun _ _ => rfl))) (pg_tup rfl (pgs_cons (pg_name (i := 4) sc__law_lags.nd rfl (Or.inl rfl)) (pgs_cons (pg_name (i := 5) sc__law_lags.nd rfl (Or.inl rfl)) (pgs_cons (pg_name (i := 6) sc__law_lags.nd rfl (Or.inl rfl)) (pgs_cons (pg_name (i := 7) sc__law_lags.nd rfl (Or.inl rfl)) pgs_nil)))))
  (pss_one (ps_if (pt_cmpR (op_eqD hr.units) (pv 4) (pv 3) (nomark _)) (pss_cons (ps_set (i := 8) sc__law_lags.nd rfl (Or.inl rfl) (pe_op op_sub (pe_op op_addA (pe_dget (room1 hr) (pv 1) (pv 3) (fun _ _ => rfl)) (pe_callB call_lenA rfl T.f_len (by decide +kernel) (pa_cons (pv 5) pa_nil))) (pe_callB call_lenA rfl T.f_len (by decide +kernel) (pa_cons (pv 6) pa_nil))))
  (pss_one (ps_if (pt_cmpR (op_notInD (room9 hr)) (pv 7) (pv 1) (by rfl)) (pss_cons (ps_dput (room1 hr) (pv 1) (pv 7) (pv 8) rfl)
  (pss_one (ps_expr (pe_bm PySem.F.plainAttrs_list PySem.F.slot_list_append PySem.F.type_list_append mt_append (pv 2) (pa_cons (pv 7) pa_nil))))) (pss_one (ps_if (pt_cmpR (op_neD hr.units) (pe_dget (room1 hr) (pv 1) (pv 7) (fun _ _ => rfl)) (pv 8) (nomark _)) (pss_one (ps_ret pe_non)) pss_nil))))) pss_nil))))))
  (pss_cons (ps_if (pt_val (pe_callB (cr_any rfl) rfl T.f_any (by decide +kernel) (pa_cons (pe_lc (own := [("state", 4)]) rfl sc__law_lags.nd (pi_seq (pe_ix ix_seq (pv 0) pe_int (fun _ _ => rfl))) (blkOk_by (by kernel_rfl)) (fun _ _ _ _ _ => (pg_name (i := 4) sc__law_lags.nd rfl (Or.inl rfl))) (fun _ _ _ _ _ => pts_nil) (fun _ _ _ _ _ => (pe_cmpR (op_neD hr.units) (pe_dget2 (room1 hr) (pv 1) (pv 4) pe_int ⟨rfl, rfl, rfl, rfl⟩) pe_int (nomark _)))) pa_nil))) (pss_one (ps_ret pe_non)) pss_nil)
  (pss_one (ps_ret (pe_callTy call_tuple_of rfl T.f_tuple (by decide +kernel) (pa_cons (pe_lc (own := [("state", 4)]) rfl sc__law_lags.nd (pi_range1 rfl T.f_range (pa_cons (pe_ix ix_seq (pv 0) pe_int (fun _ _ => rfl)) pa_nil)) (blkOk_by (by kernel_rfl)) (fun _ _ _ _ _ => (pg_name (i := 4) sc__law_lags.nd rfl (Or.inl rfl))) (fun _ _ _ _ _ => pts_nil) (fun _ _ _ _ _ => (pe_dget2 (room1 hr) (pv 1) (pv 4) pe_non ⟨rfl, rfl, rfl, rfl⟩))) pa_nil))))))),
  (ls_seq (ls_asg (le_tup (la_cons (le_d1M le_c) (la_cons (le_lstM (la_cons le_c la_nil)) la_nil))) (lg_tup (lgs_cons lg_name (lgs_cons lg_name lgs_nil))))
  (ls_seq (ls_while (lt_test (le_op lr_I0 (le_cb lra_len (la_cons le_var la_nil)) le_c))
  (ls_seq (ls_asg (le_bmL0 lrm_pop le_var) lg_name)
  (ls_for (li_seq (le_op lr_ix le_var le_c)) (lg_tup (lgs_cons lg_name (lgs_cons lg_name (lgs_cons lg_name (lgs_cons lg_name lgs_nil)))))
  (ls_if (lt_test (le_op lr_eq le_var le_var)) (ls_seq (ls_asg (le_op lr_I0 (le_op lr_add (le_dget le_var le_var) (le_cb lra_len (la_cons le_var la_nil))) (le_cb lra_len (la_cons le_var la_nil))) lg_name)
  (ls_if (lt_test (le_op lr_din le_var le_var)) (ls_seq (ls_dput le_var le_var le_var)
  (ls_drop (le_bmL lrm_append le_var (la_cons le_var la_nil)))) (ls_if (lt_test (le_op lr_ne (le_dget le_var le_var) le_var)) (ls_ret le_c) ls_next))) ls_next))))
  (ls_seq (ls_if (lt_B (le_cb lra_any (la_cons (le_lc (li_seq (le_op lr_ix le_var le_c)) lg_name mono_name (wo_name (by decide)) lt_yes (le_op lr_ne (le_dget2 le_var le_var le_c) le_c)) la_nil))) (ls_ret le_c) ls_next)
  (ls_ret (le_cb lra_tuple (la_cons (le_lc (li_rng1 (la_cons (le_op lr_ix le_var le_c) la_nil)) lg_name mono_name (wo_name (by decide)) lt_yes (le_dget2 le_var le_var le_c)) la_nil)))))), ?z⟩)
  case z =>
    intro ds Qz h
    obtain ⟨size, many, arcs, ends, rfl, hk, k⟩ := h
    have m1 := hk.m1
    have m2 := hk.m2
    have hl := hk.l
    try walk_at "z"
    intro pf hpf pw hpw
    obtain ⟨npf, hpw0⟩ := mput_none hpw
    have npf2 : pf ≠ pw := fun z => npf z.symm
    refine zwhile (fun m δ M' => ∃ (f : Fnd) (kvs : List (Key × D)) (s : List Int) (q3 q4 q5 q6 q7 q8 : Option D), δ = [some (kpD size many arcs ends), some (.v (.ref pf)), some (.v (.ref pw)), q3, q4, q5, q6, q7, q8] ∧
      M' pf = some (.dct kvs) ∧ M' pw = some (.lst (dInts s)) ∧ Kp w0.M M' ∧ FD f kvs ∧ DI many arcs f s ∧ s.length + nn f < m ∧ m ≤ 500 ∧ dfs arcs m f s = dfs arcs 500 (f0 many) [0])
      ⟨500, f0 many, _, [0], _, _, _, _, _, _, rfl, by rw [mput_ne npf2, mput_same], by rw [mput_same]; rfl, ((Kp.rf _).put hpf).put hpw0, ⟨fun i hi => ?_, by rw [nn_f0]; simp; omega⟩, DI.start m1, by rw [nn_f0]; simp; omega, Nat.le_refl _, rfl⟩ ?_
    · rw [valD_cons, valD_nil]
      split
      · rename_i q
        cases q
        rfl
      · rename_i q
        cases e : at_ (f0 many) i with
        | none => rfl
        | some v =>
          obtain ⟨rfl, _⟩ := at_f0 hi e
          exact absurd rfl q
    rintro m δ M' kk ⟨f, kvs, s, q3, q4, q5, q6, q7, q8, rfl, e1, e2, kp, fd, di, hm, m5, hd⟩ hk2
    have hz : lagsO many arcs ends = endO ends (dfs arcs m f s) := by rw [lagsO_end, hd]
    obtain ⟨m', rfl⟩ : ∃ m', m = m' + 1 := ⟨m - 1, by omega⟩
    try walk_at "z"
    refine ⟨s.length, by rw [lenD_lst e2, ints_len], ?_⟩
    rcases List.eq_nil_or_concat s with rfl | ⟨s0, here, rfl⟩
    · rw [if_neg (by simp)]
      have hz : lagsO many arcs ends = if ends.any (badE f) = true then none else some f := hz
      try walk_at "z"
      refine zlc (fun i acc M2 => M2 = M' ∧ acc = (ends.take i).map fun e => .v (.bl (badE f e))) (by rw [ints_len, sizeLine_eq]; have := hk.elen; omega) ?_ ?_ ⟨rfl, rfl⟩
      · rintro i d acc M2 k1 k2 hd2 ⟨rfl, rfl⟩ hk3 hk4
        rw [Zl.ints_get] at hd2
        cases e3 : ends[i]? with
        | none => rw [e3] at hd2; cases hd2
        | some x =>
          rw [e3] at hd2
          cases hd2
          have hx := hk.eb x (List.mem_of_getElem? e3)
          have tk : ends.take (i + 1) = ends.take i ++ [x] := by rw [List.take_succ, e3]; rfl
          rw [tk, List.map_append] at hk3
          try walk_at "z"
          refine ⟨⟨_, by simp only [dctOf_ref]; exact e1⟩, _, e1, ?_⟩
          rw [fd.v x hx.1]
          cases e4 : at_ f x with
          | none =>
            show zNe (.v (.int 0)) (.v (.int 0)) M2 k1
            try walk_at "z"
            exact hk3 _ _ ⟨rfl, by simp [badE, e4]⟩
          | some v =>
            show zNe (.v (.int v)) (.v (.int 0)) M2 k1
            rw [e_neI]
            exact hk3 _ _ ⟨rfl, by simp [badE, e4]⟩
      · rintro acc M2 ⟨rfl, rfl⟩ _
        rw [ints_len, List.take_length]
        try walk_at "z"
        by_cases q : ends.any (badE f) = true
        · rw [if_pos q]
          rw [if_pos q] at hz
          rw [hz] at k
          exact k _ kp
        · rw [if_neg q]
          rw [if_neg q] at hz
          rw [hz] at k
          refine ⟨by omega, by omega, ?_⟩
          refine zlc (fun i acc M3 => M3 = M2 ∧ acc = (f.take i).map optI) (by rw [List.length_map, List.length_range, sizeLine_eq]; omega) ?_ ?_ ⟨rfl, rfl⟩
          · rintro i d acc M3 k1 k2 hd2 ⟨rfl, rfl⟩ hk3 hk4
            obtain ⟨hi, rfl⟩ := rg_at hd2
            have len := di.len
            have e5 : f[i]? = some (f[i]'(by omega)) := List.getElem?_eq_getElem _
            try walk_at "z"
            refine ⟨⟨_, by simp only [dctOf_ref]; exact e1⟩, _, e1, ?_⟩
            refine hk3 _ _ ⟨rfl, ?_⟩
            rw [List.take_succ, e5, List.map_append, fd.v _ (Int.natCast_nonneg i)]
            unfold at_
            rw [Int.toNat_natCast, e5]
            cases f[i]'(by omega) <;> rfl
          · rintro acc M3 ⟨rfl, rfl⟩ _
            rw [List.length_map, List.length_range, ← di.len, List.take_length]
            exact k _ kp
    · rw [List.concat_eq_append] at *
      rw [if_pos (by rw [List.length_append, List.length_singleton]; omega)]
      obtain ⟨h0, h1, v, hv⟩ := di.st here (by simp)
      rw [dfs_snoc hv] at hz hd
      refine ⟨⟨_, e2⟩, dInts s0, .v (.int here), by rw [e2]; unfold dInts; simp, ?_⟩
      unfold arcsD
      try walk_at "z"
      refine zloop (fun i δ M2 => ∃ (f' : Fnd) (kvs' : List (Key × D)) (s' : List Int) (q4 q5 q6 q7 q8 : Option D), δ = [some (kpD size many arcs ends), some (.v (.ref pf)), some (.v (.ref pw)), some (.v (.int here)), q4, q5, q6, q7, q8] ∧
        M2 pf = some (.dct kvs') ∧ M2 pw = some (.lst (dInts s')) ∧ Kp w0.M M2 ∧ FD f' kvs' ∧ loopA v (outA (arcs.take i) here) f s0 = some (f', s')) ?_ ?_ ⟨f, kvs, s0, _, _, _, _, _, rfl, by rw [mput_ne npf2]; exact e1, mput_same, kp.put hpw0, fd, rfl⟩
      · rintro i d δ M2 k2 hd3 ⟨f', kvs', s', q4, q5, q6, q7, q8, rfl, g1, g2, kp2, fd2, hl2⟩ hk3
        rw [List.getElem?_map] at hd3
        cases e3 : arcs[i]? with
        | none => rw [e3] at hd3; cases hd3
        | some a =>
          rw [e3] at hd3
          cases hd3
          have ha := hk.a a (List.mem_of_getElem? e3)
          have li0 : LI many f s0 := ⟨di.len, fun j hj => di.st j (List.mem_append_left _ hj)⟩
          obtain ⟨li, cnt, keep, -⟩ := loopA_keep (fun b hb => hk.a b (List.mem_of_mem_take (mem_out.mp hb).1)) li0 hl2
          have hv' := keep _ _ h0 hv
          have len := li.len
          have t0 := ha.t0
          have t1 := ha.t1
          have os := outA_succ e3 (x := here)
          unfold arcD
          try walk_at "z"
          by_cases ea : a.1 = here
          · rw [if_pos ea.symm] at os
            have nx : loopA v (outA (arcs.take (i + 1)) here) f s0 = loopA v [a] f' s' := by rw [os, loopA_app, hl2]; rfl
            rw [if_pos ea]
            refine ⟨_, g1, _, by rw [fd2.v _ h0, hv']; rfl, ?_⟩
            try walk_at "z"
            refine ⟨_, g1, ?_⟩
            rw [fd2.v _ t0]
            rw [loopA_cons] at nx
            have ew : v + ((dInts a.2.1).length : Int) - ((dInts a.2.2.1).length : Int) = v + wA a := by rw [ints_len, ints_len]; unfold wA; omega
            rw [ew]
            cases e4 : at_ f' a.2.2.2 with
            | none =>
              rw [e4] at nx
              have fl := fd2.l
              try walk_at "z"
              refine ⟨_, g1, by omega, ⟨_, by rw [mput_ne npf2.symm]; exact g2⟩, _, by rw [mput_ne npf2.symm]; exact g2, by rw [ints_len]; rw [List.length_append] at hm; omega, ?_⟩
              refine hk3 _ _ ⟨_, _, _, _, _, _, _, _, rfl, by rw [mput_ne npf2, mput_same], ?_, (kp2.put hpf).put hpw0, fd2.put t0 (by omega) e4, nx⟩
              rw [mput_same]
              unfold dInts
              simp
            | some u =>
              rw [e4] at nx
              try walk_at "z"
              refine ⟨_, g1, _, by rw [fd2.v _ t0, e4]; rfl, ?_⟩
              try walk_at "z"
              by_cases q : u = v + wA a
              · rw [if_neg (fun z => z q)]
                dsimp only at nx
                rw [if_pos q] at nx
                exact hk3 _ _ ⟨_, _, _, _, _, _, _, _, rfl, g1, g2, kp2, fd2, nx⟩
              · rw [if_pos q]
                dsimp only at nx
                rw [if_neg q] at nx
                have : loopA v (outA arcs here) f s0 = none := by
                  rw [← List.take_append_drop (i + 1) arcs]
                  unfold outA at nx ⊢
                  rw [List.filter_append, loopA_app, nx]
                  rfl
                rw [this] at hz
                rw [hz] at k
                exact k _ kp2
          · rw [if_neg (fun z => ea z.symm), List.append_nil] at os
            rw [if_neg ea]
            exact hk3 _ _ ⟨_, _, _, _, _, _, _, _, rfl, g1, g2, kp2, fd2, by rw [os]; exact hl2⟩
      · rintro δ M2 ⟨f', kvs', s', q4, q5, q6, q7, q8, rfl, g1, g2, kp2, fd2, hl2⟩
        rw [List.length_map, List.take_length] at hl2
        rw [hl2] at hd
        obtain ⟨di2, cnt⟩ := dfs_step hk.a di (List.getLast?_concat ..) (f' := f') (s' := s') (by rw [hv, List.dropLast_concat]; exact hl2)
        exact hk2 _ _ m' (by omega) ⟨f', kvs', s', _, _, _, _, _, _, rfl, g1, g2, kp2, fd2, di2, by omega, by omega, hd⟩
theorem ok__law_balanced (T : Tx K mg base) : DefAt P w K mg base 2 "_law_balanced" ["hand", "size"] (zp__law_balanced) := by
  refine zok T.d__law_balanced sc__law_balanced hl__law_balanced (fun f cdv A outer s H E w0 Ez hr hW => ⟨(tSeq (tAsg (tOp (rAddA K) (tC (.int 2)) (tCallW (spOf K (zp__law_draw)) (WB E) (tCons (tVar 0) (tCons (tC (.int 3)) tNil)))) (gName 2))
  (tSeq (tAsg (tTup (tCons (tOp (rAddA K) (tLst (tCons (tC (.int 0)) tNil)) (tLc (iRng1 (tCons (tOp (rI0 fun i j => .int (i - j)) (tVar 2) (tC (.int 1))) tNil)) (gName 5) tYes (tOp (rI0 fun i j => .int (i - j)) (tCallW (spOf K (zp__law_draw)) W0 (tCons (tVar 0) (tCons (tC (.int 5)) tNil))) (tC (.int 2))) [5])) (tCons (tNNew w) tNil))) (gTup K 2 (gCons (gName 3) (gCons (gName 4) gNil))))
  (tSeq (tFor (iRng1 (tCons (tC (.int 14)) tNil)) (gName 6)
  (tSeq (tPar 7 8 (tCons (tCallW (spOf K (zp__law_draw)) (WB E) (tCons (tVar 0) (tCons (tVar 2) tNil))) (tCons (tCallW (spOf K (zp__law_draw)) (WB E) (tCons (tVar 0) (tCons (tVar 2) tNil))) tNil)))
  (tSeq (tAsg (tOp (rI0 fun i j => .int (i - j)) (tOp (rIx K) (tVar 3) (tVar 8)) (tOp (rIx K) (tVar 3) (tVar 7))) (gName 9))
  (tIfS (tTest (tChain (rI0 fun i j => .bl (decide (i < j))) (rI0 fun i j => .bl (decide (i < j))) (tUn (rU fun i => .int (-i)) (tC (.int 3))) (tVar 9) (tC (.int 3)))) (tSeq (tAsg (tCB (rTuple K) (tCons (tLc (iRng1 (tCons (tCB rMax2 (tCons (tC (.int 0)) (tCons (tVar 9) tNil))) tNil)) (gName 11) tYes (tCallW (spOf K (zp__law_draw)) W0 (tCons (tVar 0) (tCons (tVar 1) tNil))) [11]) tNil)) (gName 10))
  (tSeq (tAsg (tCB (rTuple K) (tCons (tLc (iRng1 (tCons (tCB rMax2 (tCons (tC (.int 0)) (tCons (tOp (rI0 fun i j => .int (i - j)) (tC (.int 0)) (tVar 9)) tNil))) tNil)) (gName 11) tYes (tCallW (spOf K (zp__law_draw)) W0 (tCons (tVar 0) (tCons (tVar 1) tNil))) [11]) tNil)) (gName 12))
  (tSeq (tIfS (tTest (tOp (rEqD K) (tOp (rAddA K) (tCB (rLenA K) (tCons (tVar 10) tNil)) (tCB (rLenA K) (tCons (tVar 12) tNil))) (tC (.int 0)))) (tPar 10 12 (tCons (tTup (tCons (tCallW (spOf K (zp__law_draw)) (WB E) (tCons (tVar 0) (tCons (tVar 1) tNil))) tNil)) (tCons (tTup (tCons (tCallW (spOf K (zp__law_draw)) (WB E) (tCons (tVar 0) (tCons (tVar 1) tNil))) tNil)) tNil))) tNext)
  (sNPut w (tVar 4) (tTup (tCons (tVar 7) (tCons (tVar 10) (tCons (tVar 12) (tCons (tVar 8) tNil))))) (tC (.bl true)))))) tNext))))
  (tSeq (tAsg (tLc (iRng1 (tCons (tVar 2) tNil)) (gName 5) (tOr (tTest (tOp (rEqD K) (tOp (rIx K) (tVar 3) (tVar 5)) (tC (.int 0)))) (tTest (tOp (rEqD K) (tCallW (spOf K (zp__law_draw)) W0 (tCons (tVar 0) (tCons (tC (.int 9)) tNil))) (tC (.int 0))))) (tVar 5) [5]) (gName 13))
  (tRet (tTup (tCons (tVar 1) (tCons (tVar 2) (tCons (tCB (rTuple K) (tCons (tCB (rSrtY K) (tCons (tCB (rListN w) (tCons (tVar 4) tNil)) tNil)) tNil)) (tCons (tCB (rTuple K) (tCons (tVar 13) tNil)) tNil)))))))))), _,
  (pss_cons (ps_set (i := 2) sc__law_balanced.nd rfl (Or.inl rfl) (pe_op op_addA pe_int (zc_call (ok__law_draw T) (hr.mono (by decide)) rfl tkB (pa_cons (pv 0) (pa_cons pe_int pa_nil)))))
  (pss_cons (ps_asg (pe_tup (pa_cons (pe_op op_addA (pe_lst (pa_cons pe_int pa_nil)) (pe_lc (own := [("state", 5)]) rfl sc__law_balanced.nd (pi_range1 rfl T.f_range (pa_cons (pe_op op_sub (pv 2) pe_int) pa_nil)) (blkOk_by (by kernel_rfl)) (fun _ _ _ _ _ => (pg_name (i := 5) sc__law_balanced.nd rfl (Or.inl rfl))) (fun _ _ _ _ _ => pts_nil) (fun _ _ _ _ _ => (pe_op op_sub (zc_call (ok__law_draw T) (hr.mono (by decide)) rfl tk0 (pa_cons (pv 0) (pa_cons pe_int pa_nil))) pe_int)))) (pa_cons pe_nnew pa_nil))) (pg_tup rfl (pgs_cons (pg_name (i := 3) sc__law_balanced.nd rfl (Or.inr rfl)) (pgs_cons (pg_name (i := 4) sc__law_balanced.nd rfl (Or.inl rfl)) pgs_nil))))
  (pss_cons (ps_for (passes_of rfl) rfl (pi_range1 rfl T.f_range (pa_cons pe_int pa_nil)) (pg_name (i := 6) sc__law_balanced.nd rfl (Or.inl rfl))
  (pss_cons (ps_par (i := 7) (j := 8) rfl sc__law_balanced.nd rfl rfl (by decide) rfl rfl (pa_cons (zc_call (ok__law_draw T) (hr.mono (by decide)) rfl tkB (pa_cons (pv 0) (pa_cons (pv 2) pa_nil))) (pa_cons (zc_call (ok__law_draw T) (hr.mono (by decide)) rfl tkB (pa_cons (pv 0) (pa_cons (pv 2) pa_nil))) pa_nil)) rfl)
  (pss_cons (ps_set (i := 9) sc__law_balanced.nd rfl (Or.inl rfl) (pe_op op_sub (pe_ix ix_seq (pv 3) (pv 8) (fun _ _ => rfl)) (pe_ix ix_seq (pv 3) (pv 7) (fun _ _ => rfl))))
  (pss_one (ps_if (pt_chain op_lt op_lt (pe_un un_neg pe_int) (pv 9) pe_int) (pss_cons (ps_set (i := 10) sc__law_balanced.nd rfl (Or.inl rfl) (pe_callTy call_tuple_of rfl T.f_tuple (by decide +kernel) (pa_cons (pe_lc (own := [("sign", 11)]) rfl sc__law_balanced.nd (pi_range1 rfl T.f_range (pa_cons (pe_callB (call_max2 rfl) rfl T.f_max (by decide +kernel) (pa_cons pe_int (pa_cons (pv 9) pa_nil))) pa_nil)) (blkOk_by (by kernel_rfl)) (fun _ _ _ _ _ => (pg_name (i := 11) sc__law_balanced.nd rfl (Or.inl rfl))) (fun _ _ _ _ _ => pts_nil) (fun _ _ _ _ _ => (zc_call (ok__law_draw T) (hr.mono (by decide)) rfl tk0 (pa_cons (pv 0) (pa_cons (pv 1) pa_nil))))) pa_nil)))
  (pss_cons (ps_set (i := 12) sc__law_balanced.nd rfl (Or.inl rfl) (pe_callTy call_tuple_of rfl T.f_tuple (by decide +kernel) (pa_cons (pe_lc (own := [("sign", 11)]) rfl sc__law_balanced.nd (pi_range1 rfl T.f_range (pa_cons (pe_callB (call_max2 rfl) rfl T.f_max (by decide +kernel) (pa_cons pe_int (pa_cons (pe_op op_sub pe_int (pv 9)) pa_nil))) pa_nil)) (blkOk_by (by kernel_rfl)) (fun _ _ _ _ _ => (pg_name (i := 11) sc__law_balanced.nd rfl (Or.inl rfl))) (fun _ _ _ _ _ => pts_nil) (fun _ _ _ _ _ => (zc_call (ok__law_draw T) (hr.mono (by decide)) rfl tk0 (pa_cons (pv 0) (pa_cons (pv 1) pa_nil))))) pa_nil)))
  (pss_cons (ps_if (pt_cmpR (op_eqD hr.units) (pe_op op_addA (pe_callB call_lenA rfl T.f_len (by decide +kernel) (pa_cons (pv 10) pa_nil)) (pe_callB call_lenA rfl T.f_len (by decide +kernel) (pa_cons (pv 12) pa_nil))) pe_int (nomark _)) (pss_one (ps_par (i := 10) (j := 12) rfl sc__law_balanced.nd rfl rfl (by decide) rfl rfl (pa_cons (pe_tup (pa_cons (zc_call (ok__law_draw T) (hr.mono (by decide)) rfl tkB (pa_cons (pv 0) (pa_cons (pv 1) pa_nil))) pa_nil)) (pa_cons (pe_tup (pa_cons (zc_call (ok__law_draw T) (hr.mono (by decide)) rfl tkB (pa_cons (pv 0) (pa_cons (pv 1) pa_nil))) pa_nil)) pa_nil)) rfl)) pss_nil)
  (pss_one (ps_nput (room9 hr) (pv 4) (pe_tup (pa_cons (pv 7) (pa_cons (pv 10) (pa_cons (pv 12) (pa_cons (pv 8) pa_nil))))) pe_bl rfl))))) pss_nil)))))
  (pss_cons (ps_setLc (i := 13) (own := [("state", 5)]) rfl sc__law_balanced.nd rfl rfl (sw_true rfl rfl rfl (by decide +kernel)) (pi_range1 rfl T.f_range (pa_cons (pv 2) pa_nil)) (blkOk_by (by kernel_rfl)) (fun _ _ _ _ _ => (pg_name (i := 5) sc__law_balanced.nd rfl (Or.inl rfl))) (fun _ _ _ _ _ => (pts_one (PW.pt (pw_or (pt_cmpR (op_eqD hr.units) (pe_ix ix_seq (pv 3) (pv 5) (fun _ _ => rfl)) pe_int (nomark _)) (pw_or1 (pt_cmpR (op_eqD hr.units) (zc_call (ok__law_draw T) (hr.mono (by decide)) rfl tk0 (pa_cons (pv 0) (pa_cons pe_int pa_nil))) pe_int (nomark _))))))) (fun _ _ _ _ _ => (pv 5)))
  (pss_one (ps_ret (pe_tup (pa_cons (pv 1) (pa_cons (pv 2) (pa_cons (pe_callTy call_tuple_of rfl T.f_tuple (by decide +kernel) (pa_cons (pe_callB (call_srtY (room64 hr)) rfl T.f_sorted (by decide +kernel) (pa_cons (pe_callTy (call_listN rfl) rfl T.f_list (by decide +kernel) (pa_cons (pv 4) pa_nil)) pa_nil)) pa_nil)) (pa_cons (pe_callTy call_tuple_of rfl T.f_tuple (by decide +kernel) (pa_cons (pv 13) pa_nil)) pa_nil))))))))))),
  (ls_seq (ls_asg (le_op lr_add le_c (le_call hW (la_cons le_var (la_cons le_c la_nil)))) lg_name)
  (ls_seq (ls_asg (le_tup (la_cons (le_op lr_add (le_lst (la_cons le_c la_nil)) (le_lc (li_rng1 (la_cons (le_op lr_I0 le_var le_c) la_nil)) lg_name mono_name (wo_name (by decide)) lt_yes (le_op lr_I0 (le_call ctW0' (la_cons le_var (la_cons le_c la_nil))) le_c))) (la_cons le_nnew la_nil))) (lg_tup (lgs_cons lg_name (lgs_cons lg_name lgs_nil))))
  (ls_seq (ls_for (li_rng1 (la_cons le_c la_nil)) lg_name
  (ls_seq (ls_par (la_cons (le_call hW (la_cons le_var (la_cons le_var la_nil))) (la_cons (le_call hW (la_cons le_var (la_cons le_var la_nil))) la_nil)))
  (ls_seq (ls_asg (le_op lr_I0 (le_op lr_ix le_var le_var) (le_op lr_ix le_var le_var)) lg_name)
  (ls_if (lt_test (le_chain lr_I0 lr_I0 (le_un lr_U le_c) le_var le_c)) (ls_seq (ls_asg (le_cb lra_tuple (la_cons (le_lc (li_rng1 (la_cons (le_cb lra_max2 (la_cons le_c (la_cons le_var la_nil))) la_nil)) lg_name mono_name (wo_name (by decide)) lt_yes (le_call ctW0' (la_cons le_var (la_cons le_var la_nil)))) la_nil)) lg_name)
  (ls_seq (ls_asg (le_cb lra_tuple (la_cons (le_lc (li_rng1 (la_cons (le_cb lra_max2 (la_cons le_c (la_cons (le_op lr_I0 le_c le_var) la_nil))) la_nil)) lg_name mono_name (wo_name (by decide)) lt_yes (le_call ctW0' (la_cons le_var (la_cons le_var la_nil)))) la_nil)) lg_name)
  (ls_seq (ls_if (lt_test (le_op lr_eq (le_op lr_add (le_cb lra_len (la_cons le_var la_nil)) (le_cb lra_len (la_cons le_var la_nil))) le_c)) (ls_par (la_cons (le_tup (la_cons (le_call hW (la_cons le_var (la_cons le_var la_nil))) la_nil)) (la_cons (le_tup (la_cons (le_call hW (la_cons le_var (la_cons le_var la_nil))) la_nil)) la_nil))) ls_next)
  (ls_nput le_c le_var (le_tup (la_cons le_var (la_cons le_var (la_cons le_var (la_cons le_var la_nil))))))))) ls_next))))
  (ls_seq (ls_asg (le_lc (li_rng1 (la_cons le_var la_nil)) lg_name mono_name (wo_name (by decide)) (lt_or (lt_test (le_op lr_eq (le_op lr_ix le_var le_var) le_c)) (lt_test (le_op lr_eq (le_call ctW0' (la_cons le_var (la_cons le_c la_nil))) le_c))) le_var) lg_name)
  (ls_ret (le_tup (la_cons le_var (la_cons le_var (la_cons (le_cb lra_tuple (la_cons (le_cb lra_srtY (la_cons (le_cb lra_listN (la_cons le_var la_nil)) la_nil)) la_nil)) (la_cons (le_cb lra_tuple (la_cons le_var la_nil)) la_nil)))))))))), ?z⟩)
  case z =>
    intro ds Qz h
    obtain ⟨h, size, rfl, hH, s1, s2, k⟩ := h
    try walk_at "z"
    refine drw hH (by decide) (by decide) fun r0 M1 hx1 a0 b0 => ?_
    try walk_at "z"
    refine ⟨by omega, by omega, ?_⟩
    refine zlc (fun i acc M' => ∃ row : List Int, acc = dInts row ∧ row.length = i ∧ Hk h w0.M M') (by rw [List.length_map, List.length_range, sizeLine_eq]; omega) ?_ ?_ ⟨[], rfl, rfl, hx1.k⟩
    · rintro i d acc M' k1 k2 hd ⟨row, rfl, hn, hkk⟩ hk1 hk2
      try walk_at "z"
      refine drw hkk.1 (by decide) (by decide) fun r M2 hx a b => ?_
      try walk_at "z"
      exact hk1 _ _ ⟨row ++ [r - 2], by unfold dInts; simp, by rw [List.length_append, hn]; rfl, hkk.tr hx.k⟩
    rintro acc M2 ⟨row, rfl, hrow, hkk⟩ _
    rw [List.length_map, List.length_range] at hrow
    refine ⟨by rw [ints_len]; omega, fun p hp => ?_⟩
    have nph : p ≠ h := hkk.1.ne hp
    have hp0 : w0.M p = none := by
      cases e : w0.M p with
      | none => rfl
      | some o => have := hkk.2 p o nph e; rw [hp] at this; cases this
    refine ⟨by omega, by omega, ?_⟩
    refine zloop (fun i δ M' => ∃ (A : List Arc) (q5 q6 q7 q8 q9 q10 q11 q12 q13 : Option D), δ = [some (.v (.ref h)), some (.v (.int size)), some (.v (.int (2 + r0))), some (.lst (dInts (0 :: row))), some (.v (.ref p)), q5, q6, q7, q8, q9, q10, q11, q12, q13] ∧ M' p = some (.dN w p (yesD A)) ∧ DA size (2 + r0) i A ∧ Hk h w0.M M') ?_ ?_ ⟨[], _, _, _, _, _, _, _, _, _, rfl, mput_same, ⟨.nil, (fun a ha => nomatch ha), Nat.le_refl _⟩, hkk.put hp0 nph⟩
    · rintro i d δ M' kk hd ⟨A, q5, q6, q7, q8, q9, q10, q11, q12, q13, rfl, e1, da, hkk⟩ hk
      try walk_at "z"
      refine drw hkk.1 (by omega) (by omega) fun r1 M3 hx3 a1 b1 => ?_
      try walk_at "z"
      refine drw hx3.1 (by omega) (by omega) fun r2 M4 hx4 a2 b2 => ?_
      try walk_at "z"
      have lw : ((0 :: row).length : Int) = 2 + r0 := by rw [List.length_cons, hrow]; omega
      obtain ⟨x2, w2, -⟩ := row_atI (row := 0 :: row) a2 (by omega)
      obtain ⟨x1, w1, -⟩ := row_atI (row := 0 :: row) a1 (by omega)
      refine ⟨_, w2, _, w1, ?_⟩
      try walk_at "z"
      have hk4 : Hk h w0.M M4 := (hkk.tr hx3.k).tr hx4.k
      have ep4 := hx4.at nph (hx3.at nph e1)
      have skip : kk [some (.v (.ref h)), some (.v (.int size)), some (.v (.int (2 + r0))), some (.lst (dInts (0 :: row))), some (.v (.ref p)), q5, some d, some (.v (.int r1)), some (.v (.int r2)), some (.v (.int (x2 - x1))), q10, q11, q12, q13] M4 :=
        hk _ _ ⟨A, _, _, _, _, _, _, _, _, _, rfl, ep4, ⟨da.nd, da.b, Nat.le_succ_of_le da.l⟩, hk4⟩
      split
      · split
        · rename_i g1 g2
          have fin : ∀ (said heard : List Int) (q10 q11 q12 : Option D) M5, said.length ≤ 2 → heard.length ≤ 2 → 0 < said.length + heard.length → (∀ x ∈ said, 0 ≤ x ∧ x < size) → (∀ x ∈ heard, 0 ≤ x ∧ x < size) → M5 p = some (.dN w p (yesD A)) → Hk h w0.M M5 →
              ∃ kvs, M5 p = some (.dN w p kvs) ∧ keyB (.tup [.v (.int r1), rowD said, rowD heard, .v (.int r2)]) = true ∧ kvs.length < 16777216 ∧
                kk [some (.v (.ref h)), some (.v (.int size)), some (.v (.int (2 + r0))), some (.lst (dInts (0 :: row))), some (.v (.ref p)), q5, some d, some (.v (.int r1)), some (.v (.int r2)), some (.v (.int (x2 - x1))), q10, q11, q12, q13]
                  (mput M5 p (.dN w p (putN kvs (.tup [.v (.int r1), rowD said, rowD heard, .v (.int r2)]) (.v (.bl true))))) := by
            intro said heard q10 q11 q12 M5 l1 l2 l3 bs bh e5 k5
            have ok : ArcOk size (2 + r0) (r1, said, heard, r2) := ⟨a1, b1, a2, b2, bs, bh, l1, l2, l3⟩
            refine ⟨_, e5, keyB_arc (a := (r1, said, heard, r2)), by rw [yes_len]; have := da.l; have hi := (List.getElem?_eq_some_iff.mp hd).1; rw [List.length_map, List.length_range] at hi; omega, hk _ _ ⟨addA A (r1, said, heard, r2), _, _, _, _, _, _, _, _, _, rfl, ?_, da.add ok, k5.put hp0 nph⟩⟩
            rw [mput_same]
            exact congrArg (fun l => some (MO.dN w p l)) (put_yes (A := A) (a := (r1, said, heard, r2)))
          refine ⟨by split <;> omega, by split <;> omega, ?_⟩
          refine drws (j := 1) rfl rfl (by decide) (by decide) hk4.1 (by omega) (by omega) (by rw [List.length_map, List.length_range, sizeLine_eq]; split <;> omega) fun said M5 l1 bs hx5 => ?_
          rw [List.length_map, List.length_range] at l1
          try walk_at "z"
          refine ⟨by split <;> omega, by split <;> omega, ?_⟩
          refine drws (j := 1) rfl rfl (by decide) (by decide) hx5.1 (by omega) (by omega) (by rw [List.length_map, List.length_range, sizeLine_eq]; split <;> omega) fun heard M6 l2 bh hx6 => ?_
          rw [List.length_map, List.length_range] at l2
          rw [ints_len, ints_len]
          have e6 := hx6.at nph (hx5.at nph ep4)
          have hk6 := (hk4.tr hx5.k).tr hx6.k
          have l1' : said.length ≤ 2 := by rw [l1]; split <;> omega
          have l2' : heard.length ≤ 2 := by rw [l2]; split <;> omega
          split
          · refine drw hk6.1 (by omega) (by omega) fun r3 M7 hx7 a3 b3 => ?_
            try walk_at "z"
            refine drw hx7.1 (by omega) (by omega) fun r4 M8 hx8 a4 b4 => ?_
            have one : ∀ r : Int, 0 ≤ r → r < size → ∀ x ∈ [r], 0 ≤ x ∧ x < size := fun r h0 h1 x hx => by rw [List.mem_singleton.mp hx]; exact ⟨h0, h1⟩
            try walk_at "z"
            exact fin [r3] [r4] _ _ _ _ (Nat.le_succ 1) (Nat.le_succ 1) (Nat.succ_pos 1) (one _ a3 b3) (one _ a4 b4) (hx8.at nph (hx7.at nph e6)) ((hk6.tr hx7.k).tr hx8.k)
          · exact fin said heard _ _ _ _ l1' l2' (by omega) bs bh e6 hk6
        · exact skip
      · exact skip
    · rintro δ M' ⟨A, q5, q6, q7, q8, q9, q10, q11, q12, q13, rfl, e1, da, hkk⟩
      rw [List.length_map, List.length_range] at da
      try walk_at "z"
      refine ⟨by omega, by omega, ?_⟩
      refine zlc (fun m acc M2 => ∃ ends : List Int, acc = dInts ends ∧ ends.Pairwise (· < ·) ∧ (∀ x ∈ ends, 0 ≤ x ∧ x < m) ∧ Hx h M' M2) (by rw [List.length_map, List.length_range, sizeLine_eq]; omega) ?_ ?_ ⟨[], rfl, .nil, (fun x hx => absurd hx List.not_mem_nil), Hx.rf hkk.1⟩
      · rintro m d acc M2 k1 k2 hd ⟨ends, rfl, hpw, hb, hx⟩ hk1 hk2
        obtain ⟨hm, rfl⟩ := rg_at hd
        have lw : ((0 :: row).length : Int) = 2 + r0 := by rw [List.length_cons, hrow]; omega
        obtain ⟨x2, w2, -⟩ := row_atI (row := 0 :: row) (i := m) (by omega) (by omega)
        have yes : ∀ M3, Hx h M' M3 → k1 (.v (.int m)) M3 := fun M3 hx3 => hk1 _ _ ⟨ends ++ [(m : Int)], by unfold dInts; simp, List.pairwise_append.mpr ⟨hpw, List.pairwise_singleton .., fun x hx y hy => by rw [List.mem_singleton.mp hy]; exact (hb x hx).2⟩, fun x hxm => by
          rcases List.mem_append.mp hxm with hxm | hxm
          · have := hb x hxm; omega
          · rw [List.mem_singleton.mp hxm]; omega, hx3⟩
        try walk_at "z"
        refine ⟨_, w2, ?_⟩
        try walk_at "z"
        split
        · exact yes _ hx
        · refine drw hx.1 (by decide) (by decide) fun r M3 hx3 a b => ?_
          try walk_at "z"
          split
          · exact yes _ (hx.tr hx3)
          · exact hk2 _ ⟨ends, rfl, hpw, fun x hxm => by have := hb x hxm; omega, hx.tr hx3⟩
      · rintro acc M3 ⟨ends, rfl, hpw, hb, hx3⟩ _
        rw [List.length_map, List.length_range] at hb
        have l := da.l
        refine ⟨_, hx3.at nph e1, ?_, ?_⟩
        · rw [yes_keys]
          exact srtOk_arc (by rw [sizeLine_eq]; omega)
        · rw [yes_keys, sortD_arc]
          exact k (2 + r0) (sortA A) ends M3 (KOk.of s1 s2 (by omega) (by omega) (by omega) da.b da.nd hpw fun x hx => by have := hb x hx; omega) (hkk.tr hx3.k)
theorem ok__law_is_right_of (T : Tx K mg base) : DefAt P w K mg base 9 "_law_is_right_of" ["kind"] (zp__law_is_right_of) := by
  refine zok T.d__law_is_right_of sc__law_is_right_of hl__law_is_right_of (fun f cdv A outer s H E w0 Ez hr hW => ⟨(tSeq (tPar 1 2 (tCons (tCallW (spOf K (zp__law_kind K)) (WB E) (tCons (tVar 0) tNil)) (tCons (tCallW (spOf K (zp__law_lags)) (WB E) (tCons (tVar 0) tNil)) tNil)))
  (tSeq (tIfS (tNot (tB (tCallW (spOf K (zp__law_same 6)) (WB E) (tCons (tCallW (spOf K (zp_lags K)) (WB E) (tCons (tVar 1) tNil)) (tCons (tVar 2) tNil))))) (tRet (tC (.bl false))) tNext)
  (tSeq (tAsg (tIf (tTest (tOp (fun x y H Q => y = .non ∧ Q (.bl (decide (x = .non))) H) (tVar 2) (tC .non))) (tC .non) (tCB (rTuple K) (tCons (tLc (iSeq K (tVar 2)) (gName 4) tYes (tIf (tTest (tOp (fun x y H Q => y = .non ∧ Q (.bl (decide (x = .non))) H) (tVar 4) (tC .non))) (tC .non) (tOp (rI0 fun i j => .int (i - j)) (tC (.int 0)) (tVar 4))) [4]) tNil))) (gName 3))
  (tSeq (tIfS (tNot (tB (tCallW (spOf K (zp__law_same 6)) (WB E) (tCons (tCallW (spOf K (zp_lags K)) (WB E) (tCons (tCallW (spOf K (zp_turned K)) (WB E) (tCons (tVar 1) tNil)) tNil)) (tCons (tVar 3) tNil))))) (tRet (tC (.bl false))) tNext)
  (tRet (tOrV (tOp rIsB (tCallW (spOf K (zp_is_level K)) (WB E) (tCons (tVar 1) tNil)) (tC (.bl false))) (tAndV (tOp (fun x y H Q => y = .non ∧ Q (.bl (!decide (x = .non))) H) (tVar 2) (tC .non)) (tCB (rAll K) (tCons (tLc (iSeq K (tVar 2)) (gName 4) tYes (tOp (rIn K false) (tVar 4) (tTup (tCons (tC .non) (tCons (tC (.int 0)) tNil)))) [4]) tNil))))))))), _,
  (pss_cons (ps_par (i := 1) (j := 2) rfl sc__law_is_right_of.nd rfl rfl (by decide) rfl rfl (pa_cons (zc_call (ok__law_kind T) (hr.mono (by decide)) rfl tkB (pa_cons (pv 0) pa_nil)) (pa_cons (zc_call (ok__law_lags T) (hr.mono (by decide)) rfl tkB (pa_cons (pv 0) pa_nil)) pa_nil)) rfl)
  (pss_cons (ps_if (pt_not (pt_val (zc_call (ok__law_same T 6) (hr.mono (by decide)) rfl tkB (pa_cons (zc_call (ok_lags T) (hr.mono (by decide)) rfl tkB (pa_cons (pv 1) pa_nil)) (pa_cons (pv 2) pa_nil))))) (pss_one (ps_ret pe_bl)) pss_nil)
  (pss_cons (ps_set (i := 3) sc__law_is_right_of.nd rfl (Or.inl rfl) (pe_ifExp (pt_cmpR op_isN (pv 2) pe_non (nomark _)) pe_non (pe_callTy call_tuple_of rfl T.f_tuple (by decide +kernel) (pa_cons (pe_lc (own := [("lag", 4)]) rfl sc__law_is_right_of.nd (pi_seq (pv 2)) (blkOk_by (by kernel_rfl)) (fun _ _ _ _ _ => (pg_name (i := 4) sc__law_is_right_of.nd rfl (Or.inl rfl))) (fun _ _ _ _ _ => pts_nil) (fun _ _ _ _ _ => (pe_ifExp (pt_cmpR op_isN (pv 4) pe_non (nomark _)) pe_non (pe_op op_sub pe_int (pv 4))))) pa_nil))))
  (pss_cons (ps_if (pt_not (pt_val (zc_call (ok__law_same T 6) (hr.mono (by decide)) rfl tkB (pa_cons (zc_call (ok_lags T) (hr.mono (by decide)) rfl tkB (pa_cons (zc_call (ok_turned T) (hr.mono (by decide)) rfl tkB (pa_cons (pv 1) pa_nil)) pa_nil)) (pa_cons (pv 3) pa_nil))))) (pss_one (ps_ret pe_bl)) pss_nil)
  (pss_one (ps_ret (pe_or (pe_cmpR op_isBl (zc_call (ok_is_level T) (hr.mono (by decide)) rfl tkB (pa_cons (pv 1) pa_nil)) pe_bl (nomark _)) (pe_one (pe_and (pe_cmpR op_notN (pv 2) pe_non (nomark _)) (pe_one (pe_callB (cr_all rfl) rfl T.f_all (by decide +kernel) (pa_cons (pe_lc (own := [("lag", 4)]) rfl sc__law_is_right_of.nd (pi_seq (pv 2)) (blkOk_by (by kernel_rfl)) (fun _ _ _ _ _ => (pg_name (i := 4) sc__law_is_right_of.nd rfl (Or.inl rfl))) (fun _ _ _ _ _ => pts_nil) (fun _ _ _ _ _ => (pe_cmpR op_in_seq (pv 4) (pe_tup (pa_cons pe_non (pa_cons pe_int pa_nil))) (by rfl)))) pa_nil)))))))))))),
  (ls_seq (ls_par (la_cons (le_call hW (la_cons le_var la_nil)) (la_cons (le_call hW (la_cons le_var la_nil)) la_nil)))
  (ls_seq (ls_if (lt_not (lt_B (le_call hW (la_cons (le_call hW (la_cons le_var la_nil)) (la_cons le_var la_nil))))) (ls_ret le_c) ls_next)
  (ls_seq (ls_asg (le_if (lt_test (le_op lr_isN le_var le_c)) le_c (le_cb lra_tuple (la_cons (le_lc (li_seq le_var) lg_name mono_name (wo_name (by decide)) lt_yes (le_if (lt_test (le_op lr_isN le_var le_c)) le_c (le_op lr_I0 le_c le_var))) la_nil))) lg_name)
  (ls_seq (ls_if (lt_not (lt_B (le_call hW (la_cons (le_call hW (la_cons (le_call hW (la_cons le_var la_nil)) la_nil)) (la_cons le_var la_nil))))) (ls_ret le_c) ls_next)
  (ls_ret (le_orV (le_op lr_isBl (le_call hW (la_cons le_var la_nil)) le_c) (le_andV (le_op lr_isNotN le_var le_c) (le_cb lra_all (la_cons (le_lc (li_seq le_var) lg_name mono_name (wo_name (by decide)) lt_yes (le_op lr_in le_var (le_tup (la_cons le_c (la_cons le_c la_nil))))) la_nil))))))))), ?z⟩)
  case z =>
    intro ds Qz h
    obtain ⟨size, many, arcs, ends, rfl, hk, k⟩ := h
    try walk_at "z"
    refine ⟨size, many, arcs, ends, rfl, hk, ?_⟩
    try walk_at "z"
    refine ⟨size, many, arcs, ends, rfl, hk, fun M1 kp1 => ?_⟩
    try walk_at "z"
    refine ⟨_, rfl, .inl ⟨size, many, arcs, ends, rfl, hk, fun M2 kp2 => ?_⟩⟩
    try walk_at "z"
    have hlen : ∀ f, lagsO many arcs ends = some f → f.length ≤ 400 := fun f e => by
      unfold lagsO at e
      cases e2 : dfs arcs 500 (f0 many) [0] with
      | none => rw [e2] at e; cases e
      | some g =>
        rw [e2] at e
        dsimp only at e
        split at e
        · cases e
        · cases e
          have d := dfs_ok hk.a 500 (DI.start hk.m1) e2
          have := d.len
          have := hk.m2
          omega
    have sm : ∀ o, (∀ f, o = some f → f.length ≤ 400) → Sm 5 (lagD o) := fun o h => by
      cases o with
      | none => exact .non
      | some f =>
        refine .tup (by rw [List.length_map]; have := h f rfl; omega) fun d hd => ?_
        obtain ⟨v, _, rfl⟩ := List.mem_map.mp hd
        cases v with
        | none => exact .non
        | some v => exact .int
    have sm1 := sm _ hlen
    have tl := lags_turn hk
    have lv := level_lags hk
    refine ⟨_, rfl, sm1, by decide, ?_⟩
    try walk_at "z"
    cases eo : lagsO many arcs ends with
    | none =>
      rw [eo] at tl
      unfold lagD
      try walk_at "z"
      refine ⟨size, many, arcs, ends, rfl, hk, ?_⟩
      try walk_at "z"
      refine ⟨_, rfl, .inl ⟨size, many, _, ends, rfl, hk.turned, fun M3 kp3 => ?_⟩⟩
      rw [tl]
      try walk_at "z"
      refine ⟨_, rfl, .non, by decide, ?_⟩
      try walk_at "z"
      refine ⟨size, many, arcs, ends, rfl, hk, ?_⟩
      try walk_at "z"
      have hb : arcs.all lvA = false := by
        cases q : arcs.all lvA with
        | false => rfl
        | true =>
          obtain ⟨f, e, _⟩ := lv q
          rw [eo] at e
          cases e
      rw [hb]
      try walk_at "z"
      exact k _ ((kp1.tr kp2).tr kp3)
    | some f =>
      rw [eo] at tl
      unfold lagD fndD
      try walk_at "z"
      refine zlc_map1 (fun d => match d with | .v (.int v) => .v (.int (0 - v)) | d => d) (by rw [List.length_map, sizeLine_eq]; have := hlen f eo; omega) (fun d k1 k2 hd hk1 => ?_) ?_
      · obtain ⟨v, _, rfl⟩ := List.mem_map.mp hd
        cases v with
        | none =>
          unfold optI
          try walk_at "z"
          exact hk1
        | some v =>
          unfold optI
          try walk_at "z"
          exact hk1
      · rw [List.map_map, show ((fun d : D => match d with | .v (.int v) => .v (.int (0 - v)) | d => d) ∘ optI) = fun o : Option Int => optI (o.map fun v => -v) by
          funext o
          cases o with
          | none => rfl
          | some v =>
            show D.v (.int (0 - v)) = .v (.int (-v))
            rw [Int.zero_sub]]
        have en : (f.map fun o : Option Int => optI (o.map fun v => -v)) = (negF f).map optI := by
          unfold negF
          rw [List.map_map]
          rfl
        rw [en]
        try walk_at "z"
        refine ⟨size, many, arcs, ends, rfl, hk, ?_⟩
        try walk_at "z"
        refine ⟨_, rfl, .inl ⟨size, many, _, ends, rfl, hk.turned, fun M3 kp3 => ?_⟩⟩
        rw [tl]
        have smn : Sm 5 (lagD ((some f).map negF)) := sm _ fun g e => by
          cases e
          unfold negF
          rw [List.length_map]
          exact hlen f eo
        try walk_at "z"
        refine ⟨_, rfl, smn, by decide, ?_⟩
        try walk_at "z"
        refine ⟨size, many, arcs, ends, rfl, hk, ?_⟩
        try walk_at "z"
        cases q : arcs.all lvA with
        | false =>
          try walk_at "z"
          exact k _ ((kp1.tr kp2).tr kp3)
        | true =>
          try walk_at "z"
          obtain ⟨f', e, hz⟩ := lv q
          rw [eo] at e
          cases e
          refine zlc_map1 (fun _ => .v (.bl true)) (by rw [List.length_map, sizeLine_eq]; have := hlen f eo; omega) (fun d k1 k2 hd hk1 => ?_) ?_
          · obtain ⟨o, ho, rfl⟩ := List.mem_map.mp hd
            rcases hz o ho with rfl | rfl
            · unfold optI
              try walk_at "z"
              exact e_inF (b := true) (by decide +kernel) (by decide +kernel) (by decide +kernel) hk1
            · unfold optI
              try walk_at "z"
              exact e_inF (b := true) (by decide +kernel) (by decide +kernel) (by decide +kernel) hk1
          · try walk_at "z"
            rw [List.all_eq_true.mpr fun _ _ => rfl]
            exact k _ ((kp1.tr kp2).tr kp3)
theorem ok__law_is_refused (T : Tx K mg base) : DefAt P w K mg base 5 "_law_is_refused" ["odd"] (zp__law_is_refused) := by
  refine zok T.d__law_is_refused sc__law_is_refused hl__law_is_refused (fun f cdv A outer s H E w0 Ez hr hW => ⟨(tSeq (tTryAs K (.ref (He.ga K "SlipError")) 1 (fun a cls d => (tRet (tAndV (tCB (rIsXg K cls a d) (tCons (tVar 1) (tCons (tC (.ref (He.ga K "NoKind"))) tNil))) (tCB (rIsXg K cls a d) (tCons (tVar 1) (tCons (tC (.ty "ValueError")) tNil)))))) (WB E) (fun W => (tDrop (tCallW (spOf K (zp_lags K)) W (tCons (tVar 0) tNil)))))
  (tRet (tC (.bl false)))), _,
  (pss_cons (zc_try (i := 1) rfl rfl sc__law_is_refused.nd rfl rfl ⟨rfl, by decide, Or.inl T.a_SlipError⟩ tkB (fun W pn xe tk hown => (pss_one (ps_expr (zc_call (ok_lags T) (hr.mono (by decide)) rfl tk (pa_cons (pv 0) pa_nil)))))
  (fun a oe cls d pn hz hf => (pss_one (ps_ret (pe_and (pe_callB (call_isXg hz hf) rfl T.f_isinstance (by decide +kernel) (pa_cons (pv 1) (pa_cons (zp_ref T.a_NoKind rfl) pa_nil))) (pe_one (pe_callB (call_isXg hz hf) rfl T.f_isinstance (by decide +kernel) (pa_cons (pv 1) (pa_cons (zp_ty (n := "ValueError") T.f_ValueError (by decide +kernel) rfl) pa_nil)))))))))
  (pss_one (ps_ret pe_bl))),
  (ls_seq (ls_tryAs hW (fun w a C d fs lx rx => (ls_ret (le_andV (le_isXg rx (la_cons le_var (la_cons le_c la_nil))) (le_isXg rx (la_cons le_var (la_cons le_c la_nil))))))
  (fun w W Wz lw hW => (ls_drop (le_call hW (la_cons le_var la_nil)))))
  (ls_ret le_c)), ?z⟩)
  case z =>
    intro ds Qz h
    obtain ⟨d, rfl, hn, k⟩ := h
    try walk_at "z"
    refine ⟨_, rfl, .inr ⟨hn, ?_⟩⟩
    try walk_at "z"
    refine ⟨true, T.e_NoKind_SlipError, fun _ a ha => ?_, fun h => nomatch h⟩
    refine ⟨T.x_NoKind.1, _, rfl, true, kit_self _, ?_⟩
    try walk_at "z"
    exact ⟨T.x_NoKind.1, _, rfl, true, T.k_NoKind_ValueError, k⟩
theorem ok_law (T : Tx K mg base) {f : Addr} {fd : FuncData} (F : FunD K "law" "law" (defArgs (top 54)) (defBody (top 54)) (defScope (top 54)) [] [] f fd) : FnOk P w K mg base (L2N.CX P w) 12 f fd ["script"] (spOf K spLaw) := by
  refine zok_core F sc_law hl_law (fun cdv A outer s H E w0 Ez hr hW => ⟨(tSeq (tAsg (tCallW (spOf K (zp__law_hand)) (WB E) (tCons (tVar 0) tNil)) (gName 1))
  (tSeq (tFor (iRng1 (tCons (tC (.int 6)) tNil)) (gName 2)
  (tSeq (tAsg (tOp (rAddA K) (tC (.int 2)) (tCallW (spOf K (zp__law_draw)) (WB E) (tCons (tVar 1) (tCons (tC (.int 3)) tNil)))) (gName 3))
  (tSeq (tAsg (tLst (tCons (tCallW (spOf K (zp__law_kind_parts)) (WB E) (tCons (tVar 1) (tCons (tVar 3) (tCons (tC (.bl false)) tNil)))) (tCons (tCallW (spOf K (zp__law_kind_parts)) (WB E) (tCons (tVar 1) (tCons (tVar 3) (tCons (tC (.bl true)) tNil)))) (tCons (tCallW (spOf K (zp__law_balanced)) (WB E) (tCons (tVar 1) (tCons (tVar 3) tNil))) tNil)))) (gName 4))
  (tSeq (tDrop (tBM K "list" rAppend (tVar 4) (tCons (tCallW (spOf K (zp__law_parts_of K)) (WB E) (tCons (tCallW (spOf K (zp__law_kind_of K)) (WB E) (tCons (tVar 3) (tCons (tCallW (spOf K (zp__law_word)) (WB E) (tCons (tVar 1) (tCons (tVar 3) tNil))) tNil))) tNil)) tNil)))
  (tSeq (tIfS (tNot (tB (tCB (rAll K) (tCons (tLc (iSeq K (tVar 4)) (gName 5) tYes (tCallW (spOf K (zp__law_is_right_of)) W0 (tCons (tVar 5) tNil)) [5]) tNil)))) (tRet (tC (.bl false))) tNext)
  (tIfS (tNot (tB (tCallW (spOf K (zp__law_is_refused)) (WB E) (tCons (tCallW (spOf K (zp__law_any)) (WB E) (tCons (tVar 1) (tCons (tLst (tCons (tC .non) (tCons (tOp (rIx K) (tVar 4) (tC (.int 0))) (tCons (tC (.int 0)) (tCons (tC (.str "kind")) (tCons (tLst tNil) (tCons (tLk tDNewK) (tCons (tTup (tCons (tVar 3) tNil)) tNil)))))))) tNil))) tNil)))) (tRet (tC (.bl false))) tNext))))))
  (tSeq (tIfS (tOr (tTest (tOp (fun x y H Q => y = .non ∧ Q (.bl (!decide (x = .non))) H) (tCallW (spOf K (zp_lags K)) (WB E) (tCons (tCallW (spOf K (zp_left_out K)) (WB E) (tCons (tC (.int 2)) tNil)) tNil)) (tC .non))) (tTest (tOp (fun x y H Q => y = .non ∧ Q (.bl (!decide (x = .non))) H) (tCallW (spOf K (zp_lags K)) (WB E) (tCons (tCallW (spOf K (zp_put_in K)) (WB E) (tCons (tC (.int 3)) tNil)) tNil)) (tC .non)))) (tRet (tC (.bl false))) tNext)
  (tSeq (tAsg (tMakeW (He.ga K "Kind") (spOf K (zp_Kind___init__ K)) (WB E) (tCons (tC (.int 2)) (tCons (tC (.int 3)) (tCons (tTup (tCons (tTup (tCons (tC (.int 0)) (tCons (tTup (tCons (tC (.int 0)) (tCons (tC (.int 1)) tNil))) (tCons (tTup tNil) (tCons (tC (.int 1)) tNil))))) (tCons (tTup (tCons (tC (.int 1)) (tCons (tTup tNil) (tCons (tTup (tCons (tC (.int 1)) (tCons (tC (.int 0)) tNil))) (tCons (tC (.int 0)) tNil))))) tNil))) (tCons (tTup (tCons (tC (.int 0)) tNil)) tNil))))) (gName 6))
  (tRet (tCallW (spOf K (zp__law_same 6)) (WB E) (tCons (tCallW (spOf K (zp_lags K)) (WB E) (tCons (tVar 6) tNil)) (tCons (tTup (tCons (tC (.int 0)) (tCons (tC (.int 2)) (tCons (tC .non) tNil)))) tNil)))))))), _,
  (pss_cons (ps_set (i := 1) sc_law.nd rfl (Or.inl rfl) (zc_call (ok__law_hand T) (hr.mono (by decide)) rfl tkB (pa_cons (pv 0) pa_nil)))
  (pss_cons (ps_for (passes_of rfl) rfl (pi_range1 rfl T.f_range (pa_cons pe_int pa_nil)) (pg_name (i := 2) sc_law.nd rfl (Or.inl rfl))
  (pss_cons (ps_set (i := 3) sc_law.nd rfl (Or.inl rfl) (pe_op op_addA pe_int (zc_call (ok__law_draw T) (hr.mono (by decide)) rfl tkB (pa_cons (pv 1) (pa_cons pe_int pa_nil)))))
  (pss_cons (ps_set (i := 4) sc_law.nd rfl (Or.inl rfl) (pe_lst (pa_cons (zc_call (ok__law_kind_parts T) (hr.mono (by decide)) rfl tkB (pa_cons (pv 1) (pa_cons (pv 3) (pa_cons pe_bl pa_nil)))) (pa_cons (zc_call (ok__law_kind_parts T) (hr.mono (by decide)) rfl tkB (pa_cons (pv 1) (pa_cons (pv 3) (pa_cons pe_bl pa_nil)))) (pa_cons (zc_call (ok__law_balanced T) (hr.mono (by decide)) rfl tkB (pa_cons (pv 1) (pa_cons (pv 3) pa_nil))) pa_nil)))))
  (pss_cons (ps_expr (pe_bm PySem.F.plainAttrs_list PySem.F.slot_list_append PySem.F.type_list_append mt_append (pv 4) (pa_cons (zc_call (ok__law_parts_of T) (hr.mono (by decide)) rfl tkB (pa_cons (zc_call (ok__law_kind_of T) (hr.mono (by decide)) rfl tkB (pa_cons (pv 3) (pa_cons (zc_call (ok__law_word T) (hr.mono (by decide)) rfl tkB (pa_cons (pv 1) (pa_cons (pv 3) pa_nil))) pa_nil))) pa_nil)) pa_nil)))
  (pss_cons (ps_if (pt_not (pt_val (pe_callB (cr_all rfl) rfl T.f_all (by decide +kernel) (pa_cons (pe_lc (own := [("kind", 5)]) rfl sc_law.nd (pi_seq (pv 4)) (blkOk_by (by kernel_rfl)) (fun _ _ _ _ _ => (pg_name (i := 5) sc_law.nd rfl (Or.inl rfl))) (fun _ _ _ _ _ => pts_nil) (fun _ _ _ _ _ => (zc_call (ok__law_is_right_of T) (hr.mono (by decide)) rfl tk0 (pa_cons (pv 5) pa_nil)))) pa_nil)))) (pss_one (ps_ret pe_bl)) pss_nil)
  (pss_one (ps_if (pt_not (pt_val (zc_call (ok__law_is_refused T) (hr.mono (by decide)) rfl tkB (pa_cons (zc_call (ok__law_any T) (hr.mono (by decide)) rfl tkB (pa_cons (pv 1) (pa_cons (pe_lst (pa_cons pe_non (pa_cons (pe_ix ix_seq (pv 4) pe_int (fun _ _ => rfl)) (pa_cons pe_int (pa_cons pe_str (pa_cons (pe_lst pa_nil) (pa_cons (pe_lk pe_dnewK) (pa_cons (pe_tup (pa_cons (pv 3) pa_nil)) pa_nil)))))))) pa_nil))) pa_nil)))) (pss_one (ps_ret pe_bl)) pss_nil)))))))
  (pss_cons (ps_if (PW.pt (pw_or (pt_cmpR op_notN (zc_call (ok_lags T) (hr.mono (by decide)) rfl tkB (pa_cons (zc_call (ok_left_out T) (hr.mono (by decide)) rfl tkB (pa_cons pe_int pa_nil)) pa_nil)) pe_non (nomark _)) (pw_or1 (pt_cmpR op_notN (zc_call (ok_lags T) (hr.mono (by decide)) rfl tkB (pa_cons (zc_call (ok_put_in T) (hr.mono (by decide)) rfl tkB (pa_cons pe_int pa_nil)) pa_nil)) pe_non (nomark _))))) (pss_one (ps_ret pe_bl)) pss_nil)
  (pss_cons (ps_set (i := 6) sc_law.nd rfl (Or.inl rfl) (zc_make (ok_Kind T) (hr.mono (by decide)) rfl tkB (pa_cons pe_int (pa_cons pe_int (pa_cons (pe_tup (pa_cons (pe_tup (pa_cons pe_int (pa_cons (pe_tup (pa_cons pe_int (pa_cons pe_int pa_nil))) (pa_cons (pe_tup pa_nil) (pa_cons pe_int pa_nil))))) (pa_cons (pe_tup (pa_cons pe_int (pa_cons (pe_tup pa_nil) (pa_cons (pe_tup (pa_cons pe_int (pa_cons pe_int pa_nil))) (pa_cons pe_int pa_nil))))) pa_nil))) (pa_cons (pe_tup (pa_cons pe_int pa_nil)) pa_nil))))))
  (pss_one (ps_ret (zc_call (ok__law_same T 6) (hr.mono (by decide)) rfl tkB (pa_cons (zc_call (ok_lags T) (hr.mono (by decide)) rfl tkB (pa_cons (pv 6) pa_nil)) (pa_cons (pe_tup (pa_cons pe_int (pa_cons pe_int (pa_cons pe_non pa_nil)))) pa_nil))))))))),
  (ls_seq (ls_asg (le_call hW (la_cons le_var la_nil)) lg_name)
  (ls_seq (ls_for (li_rng1 (la_cons le_c la_nil)) lg_name
  (ls_seq (ls_asg (le_op lr_add le_c (le_call hW (la_cons le_var (la_cons le_c la_nil)))) lg_name)
  (ls_seq (ls_asg (le_lstM (la_cons (le_call hW (la_cons le_var (la_cons le_var (la_cons le_c la_nil)))) (la_cons (le_call hW (la_cons le_var (la_cons le_var (la_cons le_c la_nil)))) (la_cons (le_call hW (la_cons le_var (la_cons le_var la_nil))) la_nil)))) lg_name)
  (ls_seq (ls_reb (i := 4) (ls_drop (le_bmL lrm_append le_var (la_cons (le_call hW (la_cons (le_call hW (la_cons le_var (la_cons (le_call hW (la_cons le_var (la_cons le_var la_nil))) la_nil))) la_nil)) la_nil))))
  (ls_seq (ls_if (lt_not (lt_B (le_cb lra_all (la_cons (le_lc (li_seq le_var) lg_name mono_name (wo_name (by decide)) lt_yes (le_call ctW0' (la_cons le_var la_nil))) la_nil)))) (ls_ret le_c) ls_next)
  (ls_if (lt_not (lt_B (le_call hW (la_cons (le_call hW (la_cons le_var (la_cons (le_lst (la_cons le_c (la_cons (le_op lr_ix le_var le_c) (la_cons le_c (la_cons le_c (la_cons (le_lst la_nil) (la_cons le_dnew (la_cons (le_tup (la_cons le_var la_nil)) la_nil)))))))) la_nil))) la_nil)))) (ls_ret le_c) ls_next))))))
  (ls_seq (ls_if (lt_or (lt_test (le_op lr_isNotN (le_call hW (la_cons (le_call hW (la_cons le_c la_nil)) la_nil)) le_c)) (lt_test (le_op lr_isNotN (le_call hW (la_cons (le_call hW (la_cons le_c la_nil)) la_nil)) le_c))) (ls_ret le_c) ls_next)
  (ls_seq (ls_asg (le_make mk_Kind hW (la_cons le_c (la_cons le_c (la_cons (le_tup (la_cons (le_tup (la_cons le_c (la_cons (le_tup (la_cons le_c (la_cons le_c la_nil))) (la_cons (le_tup la_nil) (la_cons le_c la_nil))))) (la_cons (le_tup (la_cons le_c (la_cons (le_tup la_nil) (la_cons (le_tup (la_cons le_c (la_cons le_c la_nil))) (la_cons le_c la_nil))))) la_nil))) (la_cons (le_tup (la_cons le_c la_nil)) la_nil))))) lg_name)
  (ls_ret (le_call hW (la_cons (le_call hW (la_cons le_var la_nil)) (la_cons (le_tup (la_cons le_c (la_cons le_c (la_cons le_c la_nil)))) la_nil)))))))), ?z⟩)
  case z =>
    intro ds Qz h
    obtain ⟨ns, rfl, hn, hb, h0, k⟩ := h
    try walk_at "z"
    refine ⟨ns, rfl, hn, fun h M1 hM0 hM1 => ?_⟩
    try walk_at "z"
    refine ⟨by decide, by decide, ?_⟩
    refine zloop (fun i δ M' => Hk h M1 M' ∧ ∃ r, δ = some (.rd (ns.map fun n => .v (.int n))) :: some (.v (.ref h)) :: r ∧ r.length = 5) ?_ ?_ ⟨Hk.rf hM1.1, [none, none, none, none, none], rfl, rfl⟩
    · rintro i d δ M' kk _ ⟨hk, r, rfl, hr⟩ hkk
      match r, hr with
      | [r0, r1, r2, r3, r4], _ =>
      generalize some (D.rd (ns.map fun n => D.v (.int n))) = SC at hkk ⊢
      try walk_at "z"
      refine drw hk.1 (by decide) (by decide) fun r M2 hx2 a b => ?_
      try walk_at "z"
      refine ⟨h, _, _, rfl, hx2.1, by omega, by omega, fun many1 arcs1 ends1 M3 ok1 hk3 => ?_⟩
      try walk_at "z"
      refine ⟨h, _, _, rfl, hk3.1, by omega, by omega, fun many2 arcs2 ends2 M4 ok2 hk4 => ?_⟩
      try walk_at "z"
      refine ⟨h, _, rfl, hk4.1, by omega, by omega, fun many3 arcs3 ends3 M5 ok3 hk5 => ?_⟩
      try walk_at "z"
      intro p hp
      have nph : p ≠ h := hk5.1.ne hp
      have hk15 : Hk h M1 M5 := (((hk.tr hx2.k).tr hk3).tr hk4).tr hk5
      have hp0 : M1 p = none := by
        cases e : M1 p with
        | none => rfl
        | some o => have := hk15.2 p o nph e; rw [hp] at this; cases this
      refine ⟨⟨_, rfl⟩, h, _, rfl, hk5.1.put_ne nph, by omega, by omega, fun wd M6 okw hk6 => ?_⟩
      try walk_at "z"
      refine ⟨_, wd, rfl, by omega, by omega, okw, fun many4 arcs4 ends4 M7 ok4 kp7 => ?_⟩
      try walk_at "z"
      refine ⟨_, _, _, _, rfl, ?_⟩
      try walk_at "z"
      have e7 := kp7 _ _ (hk6.2 p _ nph mput_same)
      have hk17 : Hk h M1 M7 := ((hk15.put hp0 nph).tr hk6).tr (kp7.hk hk6.1)
      refine ⟨_, e7, Nat.lt_of_lt_of_le (show 3 < 4 by decide) (by decide), ?_⟩
      have hk18 : ∀ o, Hk h M1 (mdel (mput M7 p o) p) := fun o => ⟨(hk17.1.put_ne nph).del_ne nph, fun x m nx e => by
        have nxp : x ≠ p := fun z => by rw [z, hp0] at e; cases e
        rw [mdel_ne nxp, mput_ne nxp]
        exact hk17.2 x m nx e⟩
      refine zlc (fun j acc M8 => Hk h M1 M8 ∧ acc = (([kpD (2 + r) many1 arcs1 ends1, kpD (2 + r) many2 arcs2 ends2, kpD (2 + r) many3 arcs3 ends3] ++ [kpD (2 + r) many4 arcs4 ends4]).take j).map fun _ => .v (.bl true)) (by rw [sizeLine_eq]; exact Nat.le_of_lt_succ (Nat.lt_of_lt_of_le (show 4 < 5 by decide) (by decide))) ?_ ?_ ⟨hk18 _, rfl⟩
      · rintro j dd acc M8 k1 k2 hd ⟨hk8, rfl⟩ hk1 hk2
        try walk_at "z"
        have fin : ∀ M9, Kp M8 M9 → k1 (.v (.bl true)) M9 := fun M9 kp9 => hk1 _ _ ⟨hk8.tr (kp9.hk hk8.1), by rw [List.take_succ, hd, List.map_append]; rfl⟩
        match j, hd with
        | 0, hd => cases hd; exact ⟨_, _, _, _, rfl, ok1, fin⟩
        | 1, hd => cases hd; exact ⟨_, _, _, _, rfl, ok2, fin⟩
        | 2, hd => cases hd; exact ⟨_, _, _, _, rfl, ok3, fin⟩
        | 3, hd => cases hd; exact ⟨_, _, _, _, rfl, ok4, fin⟩
        | j + 4, hd => cases hd
      · rintro acc M8 ⟨hk8, rfl⟩ _
        try walk_at "z"
        rw [List.all_eq_true.mpr fun _ _ => rfl]
        try walk_at "z"
        refine anyof hk8.1 (.inl rfl) (by simp) (by rw [sizeLine_eq]; exact Nat.le_of_lt_succ (Nat.lt_of_lt_of_le (show 7 < 8 by decide) (by decide))) fun x M9 hm hx9 => ?_
        refine ⟨x, rfl, ?_, ?_⟩
        · simp only [List.mem_cons, List.not_mem_nil, or_false] at hm
          rcases hm with rfl | rfl | rfl | rfl | rfl | rfl | rfl <;> rfl
        · try walk_at "z"
          exact hkk _ _ ⟨hk8.tr hx9.k, _, rfl, rfl⟩
    · rintro δ M' ⟨hk, r, rfl, hr⟩
      match r, hr with
      | [r0, r1, r2, r3, r4], _ =>
      try walk_at "z"
      have okO : KOk 2 2 (placeA 2 (signsH 2 fun s => ([s], []))) [1] := place_kok (by decide) (by decide) (ok_outH (by decide))
      have okI : KOk 3 2 (placeA 3 (signsH 3 fun s => ([], [s]))) [1] := place_kok (by decide) (by decide) (ok_inH (by decide))
      refine ⟨2, rfl, by decide, by decide, ?_⟩
      try walk_at "z"
      refine ⟨_, rfl, .inl ⟨2, 2, _, [1], rfl, okO, fun M2 kp2 => ?_⟩⟩
      rw [lags_bad okO (.step .nil (mem_place (x := ([0], [])) (by decide)) rfl) (List.mem_singleton.mpr rfl) (by decide)]
      unfold lagD
      try walk_at "z"
      refine ⟨3, rfl, by decide, by decide, ?_⟩
      try walk_at "z"
      refine ⟨_, rfl, .inl ⟨3, 2, _, [1], rfl, okI, fun M3 kp3 => ?_⟩⟩
      rw [lags_bad okI (.step .nil (mem_place (x := ([], [0])) (by decide)) rfl) (List.mem_singleton.mpr rfl) (by decide)]
      unfold lagD
      try walk_at "z"
      have ok : KOk 2 3 [(0, [0, 1], [], 1), (1, [], [1, 0], 0)] [0] := ⟨by decide, by decide, by decide, by decide, by decide, fun a ha => by
        simp only [List.mem_cons, List.not_mem_nil, or_false] at ha
        rcases ha with rfl | rfl <;> exact ⟨by decide, by decide, by decide, by decide, by decide, by decide, by decide, by decide, by decide⟩, List.pairwise_pair.mpr (by decide +kernel), List.pairwise_singleton .., by decide⟩
      refine ⟨2, 3, [(0, [0, 1], [], 1), (1, [], [1, 0], 0)], [0], rfl, ok, ?_⟩
      try walk_at "z"
      refine ⟨_, rfl, .inl ⟨2, 3, _, [0], rfl, ok, fun M4 kp4 => ?_⟩⟩
      rw [show lagsO 3 [(0, [0, 1], [], 1), (1, [], [1, 0], 0)] [0] = some [some 0, some 2, none] by decide +kernel]
      unfold lagD fndD
      exact ⟨_, rfl, .tup (by decide) fun d hd => by
        simp only [List.map_cons, List.map_nil, List.mem_cons, List.not_mem_nil, or_false] at hd
        rcases hd with rfl | rfl | rfl
        · exact .int
        · exact .int
        · exact .non, by decide, k _⟩
end
/-! ### the head: facts by names, the run -/
def fn : List He.DefD := [d__law_hand, d__law_draw, d__law_any, d_is_int, d_is_within, d_are_within, d_is_row, d_check_size, d_is_arc, d_Kind___init__, d_check_kind, d_is_level_kind, d_is_level, d_kept_arcs, d_unlike_pairs, d_two_signs, d_exchanged, d_twins, d_is_pair, d_check_pairs, d_at_one_place, d_misheard, d_any_sign, d_left_out, d_put_in, d_doubled, d_turned, d_arcs_of, d_lags, d__law_same, d__law_kind_parts, d__law_kind, d__law_parts_of, d__law_word, d__law_kind_of, d__law_lags, d__law_balanced, d__law_is_right_of, d__law_is_refused, d_law]
def fa : List He.Fa := [.glo "Kind", .glo "NoKind", .glo "SlipError", .glo "_law_hand", .glo "_law_draw", .glo "_law_any", .glo "is_int", .glo "is_within", .glo "are_within", .glo "is_row", .glo "check_size", .glo "is_arc", .mkr "Kind", .glo "check_kind", .glo "is_level_kind", .glo "is_level", .glo "kept_arcs", .glo "unlike_pairs", .glo "two_signs", .glo "exchanged", .glo "twins", .glo "is_pair", .glo "check_pairs", .glo "at_one_place", .glo "misheard", .glo "any_sign", .glo "left_out", .glo "put_in", .glo "doubled", .glo "turned", .glo "arcs_of", .glo "lags", .glo "_law_same", .glo "_law_kind_parts", .glo "_law_kind", .glo "_law_parts_of", .glo "_law_word", .glo "_law_kind_of", .glo "_law_lags", .glo "_law_balanced", .glo "_law_is_right_of", .glo "_law_is_refused", .glo "law", .cls "Kind", .noat "Kind" "size", .noat "Kind" "many", .noat "Kind" "arcs", .noat "Kind" "ends", .exc "NoKind", .free "ValueError", .free "abs", .free "all", .free "any", .free "bool", .free "dict", .free "enumerate", .free "int", .free "isinstance", .free "len", .free "list", .free "max", .free "range", .free "sorted", .free "str", .free "tuple", .free "zip", .int "MOST_ARCS" (6000), .int "MOST_FAR" (2), .int "MOST_SAID" (2), .int "MOST_SIZE" (12), .int "MOST_STATES" (400), .exm "NoKind" "SlipError" true]
def exB (K : PySem.W.Frag) : Bool := (insB K (He.ga K "Kind") && (xccB K (He.ga K "NoKind") && (kitE K (.ref (He.ga K "NoKind")) (.ref (He.ga K "NoKind")) true && (kitE K (.ref (He.ga K "NoKind")) (.type "ValueError") true && (kitE K (.type "NoneType") (.ref (He.ga K "Kind")) false && (kitE K (.type "bool") (.ref (He.ga K "Kind")) false && (kitE K (.type "int") (.ref (He.ga K "Kind")) false && (kitE K (.type "str") (.ref (He.ga K "Kind")) false && (kitE K (.type "tuple") (.ref (He.ga K "Kind")) false && (kitE K (.type "list") (.ref (He.ga K "Kind")) false && (kitE K (.type "dict") (.ref (He.ga K "Kind")) false && true)))))))))))
theorem ex_of {K : PySem.W.Frag} {a : Bool} (h : exB K = true → a = true) (c : exB K = true) : a = true := h c
theorem ex_Kind_s {K : PySem.W.Frag} (h : exB K = true) : insB K (He.ga K "Kind") = true := (Bool.and_eq_true_iff.mp h).1
theorem ex_NoKind_c {K : PySem.W.Frag} (h : exB K = true) : xccB K (He.ga K "NoKind") = true := (Bool.and_eq_true_iff.mp (Bool.and_eq_true_iff.mp h).2).1
theorem ex_k_NoKind_NoKind {K : PySem.W.Frag} (h : exB K = true) : kitE K (.ref (He.ga K "NoKind")) (.ref (He.ga K "NoKind")) true = true := (Bool.and_eq_true_iff.mp (Bool.and_eq_true_iff.mp (Bool.and_eq_true_iff.mp h).2).2).1
theorem ex_k_NoKind_ValueError {K : PySem.W.Frag} (h : exB K = true) : kitE K (.ref (He.ga K "NoKind")) (.type "ValueError") true = true := (Bool.and_eq_true_iff.mp (Bool.and_eq_true_iff.mp (Bool.and_eq_true_iff.mp (Bool.and_eq_true_iff.mp h).2).2).2).1
theorem ex_k_NoneType_Kind {K : PySem.W.Frag} (h : exB K = true) : kitE K (.type "NoneType") (.ref (He.ga K "Kind")) false = true := (Bool.and_eq_true_iff.mp (Bool.and_eq_true_iff.mp (Bool.and_eq_true_iff.mp (Bool.and_eq_true_iff.mp (Bool.and_eq_true_iff.mp h).2).2).2).2).1
theorem ex_k_bool_Kind {K : PySem.W.Frag} (h : exB K = true) : kitE K (.type "bool") (.ref (He.ga K "Kind")) false = true := (Bool.and_eq_true_iff.mp (Bool.and_eq_true_iff.mp (Bool.and_eq_true_iff.mp (Bool.and_eq_true_iff.mp (Bool.and_eq_true_iff.mp (Bool.and_eq_true_iff.mp h).2).2).2).2).2).1
theorem ex_k_int_Kind {K : PySem.W.Frag} (h : exB K = true) : kitE K (.type "int") (.ref (He.ga K "Kind")) false = true := (Bool.and_eq_true_iff.mp (Bool.and_eq_true_iff.mp (Bool.and_eq_true_iff.mp (Bool.and_eq_true_iff.mp (Bool.and_eq_true_iff.mp (Bool.and_eq_true_iff.mp (Bool.and_eq_true_iff.mp h).2).2).2).2).2).2).1
theorem ex_k_str_Kind {K : PySem.W.Frag} (h : exB K = true) : kitE K (.type "str") (.ref (He.ga K "Kind")) false = true := (Bool.and_eq_true_iff.mp (Bool.and_eq_true_iff.mp (Bool.and_eq_true_iff.mp (Bool.and_eq_true_iff.mp (Bool.and_eq_true_iff.mp (Bool.and_eq_true_iff.mp (Bool.and_eq_true_iff.mp (Bool.and_eq_true_iff.mp h).2).2).2).2).2).2).2).1
theorem ex_k_tuple_Kind {K : PySem.W.Frag} (h : exB K = true) : kitE K (.type "tuple") (.ref (He.ga K "Kind")) false = true := (Bool.and_eq_true_iff.mp (Bool.and_eq_true_iff.mp (Bool.and_eq_true_iff.mp (Bool.and_eq_true_iff.mp (Bool.and_eq_true_iff.mp (Bool.and_eq_true_iff.mp (Bool.and_eq_true_iff.mp (Bool.and_eq_true_iff.mp (Bool.and_eq_true_iff.mp h).2).2).2).2).2).2).2).2).1
theorem ex_k_list_Kind {K : PySem.W.Frag} (h : exB K = true) : kitE K (.type "list") (.ref (He.ga K "Kind")) false = true := (Bool.and_eq_true_iff.mp (Bool.and_eq_true_iff.mp (Bool.and_eq_true_iff.mp (Bool.and_eq_true_iff.mp (Bool.and_eq_true_iff.mp (Bool.and_eq_true_iff.mp (Bool.and_eq_true_iff.mp (Bool.and_eq_true_iff.mp (Bool.and_eq_true_iff.mp (Bool.and_eq_true_iff.mp h).2).2).2).2).2).2).2).2).2).1
theorem ex_k_dict_Kind {K : PySem.W.Frag} (h : exB K = true) : kitE K (.type "dict") (.ref (He.ga K "Kind")) false = true := (Bool.and_eq_true_iff.mp (Bool.and_eq_true_iff.mp (Bool.and_eq_true_iff.mp (Bool.and_eq_true_iff.mp (Bool.and_eq_true_iff.mp (Bool.and_eq_true_iff.mp (Bool.and_eq_true_iff.mp (Bool.and_eq_true_iff.mp (Bool.and_eq_true_iff.mp (Bool.and_eq_true_iff.mp (Bool.and_eq_true_iff.mp h).2).2).2).2).2).2).2).2).2).2).1
abbrev R : PySem.W.OpenRow := PySem.W.OpenLaw.row PySem.Challenge.rw_slipcaught_k20_lags_of_kinds
abbrev hk : PySem.W.Hook := He.hookX 6 fa fn [] tf exB
def ob (s : PySem.W.SharedT) : He.AlX := He.obsX 6 fa fn [] tf exB (HandSHeadRun.getT s)
theorem ob_eq (s : PySem.W.SharedT) : ob s = hk.obs s.abs := He.obsX_eq (HandSHeadRun.getT_eq s)
def loose : List Str := [("is_int" : Str), ("is_within" : Str), ("are_within" : Str), ("is_row" : Str), ("SlipError" : Str), ("BadFar" : Str), ("BadKind" : Str), ("BadPairs" : Str), ("NoKind" : Str), ("MOST_SIZE" : Str), ("MOST_STATES" : Str), ("MOST_ARCS" : Str), ("MOST_SAID" : Str), ("MOST_FAR" : Str), ("check_size" : Str), ("is_arc" : Str), ("Kind" : Str), ("check_kind" : Str), ("is_level_kind" : Str), ("is_level" : Str), ("kept_arcs" : Str), ("unlike_pairs" : Str), ("two_signs" : Str), ("exchanged" : Str), ("twins" : Str), ("is_pair" : Str), ("check_pairs" : Str), ("at_one_place" : Str), ("misheard" : Str), ("any_sign" : Str), ("left_out" : Str), ("put_in" : Str), ("doubled" : Str), ("turned" : Str), ("arcs_of" : Str), ("lags" : Str), ("_law_hand" : Str), ("_law_draw" : Str), ("_law_any" : Str), ("_law_same" : Str), ("_law_kind_parts" : Str), ("_law_kind" : Str), ("_law_parts_of" : Str), ("_law_word" : Str), ("_law_kind_of" : Str), ("_law_lags" : Str), ("_law_balanced" : Str), ("_law_is_right_of" : Str), ("_law_is_refused" : Str)]
theorem run (w : World) : HandSHeadRun.RunEq R (PySem.W.view R.prog [54]) hk ob 6000 loose w := by
  intro os
  kernel_rfl
theorem tx_of {w : World} {K : PySem.W.Frag} {h hh : Heap} {mg : Str → Option Value} (X : K.In h) (G : h.Ns mainGlobals mg) (c : He.SaysX fa fn [] tf exB w hh K) {base : Heap} (TB : ∀ p ∈ ts K, LamX.TabB base mg p.1 p.2.1) : Tx K mg base where
  a_Kind := He.glo_ok X G (c.t.d.fact 0 (f := .glo "Kind") rfl)
  a_NoKind := He.glo_ok X G (c.t.d.fact 1 (f := .glo "NoKind") rfl)
  a_SlipError := He.glo_ok X G (c.t.d.fact 2 (f := .glo "SlipError") rfl)
  d__law_hand := ⟨let ⟨fd, F⟩ := c.t.d.def_ 0 (d := d__law_hand) rfl; ⟨_, fd, F, He.glo_ok X G (c.t.d.fact 3 (f := .glo "_law_hand") rfl), F.bindsN fun _ _ _ _ _ _ us hl => match us, hl with | [_], _ => rfl⟩⟩
  d__law_draw := ⟨let ⟨fd, F⟩ := c.t.d.def_ 1 (d := d__law_draw) rfl; ⟨_, fd, F, He.glo_ok X G (c.t.d.fact 4 (f := .glo "_law_draw") rfl), F.bindsN fun _ _ _ _ _ _ us hl => match us, hl with | [_, _], _ => rfl⟩⟩
  d__law_any := ⟨let ⟨fd, F⟩ := c.t.d.def_ 2 (d := d__law_any) rfl; ⟨_, fd, F, He.glo_ok X G (c.t.d.fact 5 (f := .glo "_law_any") rfl), F.bindsN fun _ _ _ _ _ _ us hl => match us, hl with | [_, _], _ => rfl⟩⟩
  d_is_int := ⟨let ⟨fd, F⟩ := c.t.d.def_ 3 (d := d_is_int) rfl; ⟨_, fd, F, He.glo_ok X G (c.t.d.fact 6 (f := .glo "is_int") rfl), F.bindsN fun _ _ _ _ _ _ us hl => match us, hl with | [_], _ => rfl⟩⟩
  d_is_within := ⟨let ⟨fd, F⟩ := c.t.d.def_ 4 (d := d_is_within) rfl; ⟨_, fd, F, He.glo_ok X G (c.t.d.fact 7 (f := .glo "is_within") rfl), F.bindsN fun _ _ _ _ _ _ us hl => match us, hl with | [_, _, _], _ => rfl⟩⟩
  d_are_within := ⟨let ⟨fd, F⟩ := c.t.d.def_ 5 (d := d_are_within) rfl; ⟨_, fd, F, He.glo_ok X G (c.t.d.fact 8 (f := .glo "are_within") rfl), F.bindsN fun _ _ _ _ _ _ us hl => match us, hl with | [_, _, _], _ => rfl⟩⟩
  d_is_row := ⟨let ⟨fd, F⟩ := c.t.d.def_ 6 (d := d_is_row) rfl; ⟨_, fd, F, He.glo_ok X G (c.t.d.fact 9 (f := .glo "is_row") rfl), F.bindsN fun _ _ _ _ _ _ us hl => match us, hl with | [_, _], _ => rfl⟩⟩
  d_check_size := ⟨let ⟨fd, F⟩ := c.t.d.def_ 7 (d := d_check_size) rfl; ⟨_, fd, F, He.glo_ok X G (c.t.d.fact 10 (f := .glo "check_size") rfl), F.bindsN fun _ _ _ _ _ _ us hl => match us, hl with | [_], _ => rfl⟩⟩
  d_is_arc := ⟨let ⟨fd, F⟩ := c.t.d.def_ 8 (d := d_is_arc) rfl; ⟨_, fd, F, He.glo_ok X G (c.t.d.fact 11 (f := .glo "is_arc") rfl), F.bindsN fun _ _ _ _ _ _ us hl => match us, hl with | [_, _, _], _ => rfl⟩⟩
  in_Kind := let ⟨fd, F⟩ := c.t.d.def_ 9 (d := d_Kind___init__) rfl; ⟨_, fd, F, He.mkr_ok (c.t.d.fact 12 (f := .mkr "Kind") rfl), F.bindsN fun _ _ _ _ _ _ us hl => match us, hl with | [_, _, _, _, _], _ => rfl⟩
  d_check_kind := ⟨let ⟨fd, F⟩ := c.t.d.def_ 10 (d := d_check_kind) rfl; ⟨_, fd, F, He.glo_ok X G (c.t.d.fact 13 (f := .glo "check_kind") rfl), F.bindsN fun _ _ _ _ _ _ us hl => match us, hl with | [_], _ => rfl⟩⟩
  d_is_level_kind := ⟨let ⟨fd, F⟩ := c.t.d.def_ 11 (d := d_is_level_kind) rfl; ⟨_, fd, F, He.glo_ok X G (c.t.d.fact 14 (f := .glo "is_level_kind") rfl), F.bindsN fun _ _ _ _ _ _ us hl => match us, hl with | [_], _ => rfl⟩⟩
  d_is_level := ⟨let ⟨fd, F⟩ := c.t.d.def_ 12 (d := d_is_level) rfl; ⟨_, fd, F, He.glo_ok X G (c.t.d.fact 15 (f := .glo "is_level") rfl), F.bindsN fun _ _ _ _ _ _ us hl => match us, hl with | [_], _ => rfl⟩⟩
  d_kept_arcs := ⟨let ⟨fd, F⟩ := c.t.d.def_ 13 (d := d_kept_arcs) rfl; ⟨_, fd, F, He.glo_ok X G (c.t.d.fact 16 (f := .glo "kept_arcs") rfl), F.bindsN fun _ _ _ _ _ _ us hl => match us, hl with | [_, _], _ => rfl⟩⟩
  d_unlike_pairs := ⟨let ⟨fd, F⟩ := c.t.d.def_ 14 (d := d_unlike_pairs) rfl; ⟨_, fd, F, He.glo_ok X G (c.t.d.fact 17 (f := .glo "unlike_pairs") rfl), F.bindsN fun _ _ _ _ _ _ us hl => match us, hl with | [_], _ => rfl⟩⟩
  d_two_signs := ⟨let ⟨fd, F⟩ := c.t.d.def_ 15 (d := d_two_signs) rfl; ⟨_, fd, F, He.glo_ok X G (c.t.d.fact 18 (f := .glo "two_signs") rfl), F.bindsN fun _ _ _ _ _ _ us hl => match us, hl with | [_, _, _], _ => rfl⟩⟩
  d_exchanged := ⟨let ⟨fd, F⟩ := c.t.d.def_ 16 (d := d_exchanged) rfl; ⟨_, fd, F, He.glo_ok X G (c.t.d.fact 19 (f := .glo "exchanged") rfl), F.bindsN fun _ _ _ _ _ _ us hl => match us, hl with | [_, _], _ => rfl⟩⟩
  d_twins := ⟨let ⟨fd, F⟩ := c.t.d.def_ 17 (d := d_twins) rfl; ⟨_, fd, F, He.glo_ok X G (c.t.d.fact 20 (f := .glo "twins") rfl), F.bindsN fun _ _ _ _ _ _ us hl => match us, hl with | [_], _ => rfl⟩⟩
  d_is_pair := ⟨let ⟨fd, F⟩ := c.t.d.def_ 18 (d := d_is_pair) rfl; ⟨_, fd, F, He.glo_ok X G (c.t.d.fact 21 (f := .glo "is_pair") rfl), F.bindsN fun _ _ _ _ _ _ us hl => match us, hl with | [_, _], _ => rfl⟩⟩
  d_check_pairs := ⟨let ⟨fd, F⟩ := c.t.d.def_ 19 (d := d_check_pairs) rfl; ⟨_, fd, F, He.glo_ok X G (c.t.d.fact 22 (f := .glo "check_pairs") rfl), F.bindsN fun _ _ _ _ _ _ us hl => match us, hl with | [_, _], _ => rfl⟩⟩
  d_at_one_place := ⟨let ⟨fd, F⟩ := c.t.d.def_ 20 (d := d_at_one_place) rfl; ⟨_, fd, F, He.glo_ok X G (c.t.d.fact 23 (f := .glo "at_one_place") rfl), F.bindsN fun _ _ _ _ _ _ us hl => match us, hl with | [_, _], _ => rfl⟩⟩
  d_misheard := ⟨let ⟨fd, F⟩ := c.t.d.def_ 21 (d := d_misheard) rfl; ⟨_, fd, F, He.glo_ok X G (c.t.d.fact 24 (f := .glo "misheard") rfl), F.bindsN fun _ _ _ _ _ _ us hl => match us, hl with | [_, _], _ => rfl⟩⟩
  d_any_sign := ⟨let ⟨fd, F⟩ := c.t.d.def_ 22 (d := d_any_sign) rfl; ⟨_, fd, F, He.glo_ok X G (c.t.d.fact 25 (f := .glo "any_sign") rfl), F.bindsN fun _ _ _ _ _ _ us hl => match us, hl with | [_], _ => rfl⟩⟩
  d_left_out := ⟨let ⟨fd, F⟩ := c.t.d.def_ 23 (d := d_left_out) rfl; ⟨_, fd, F, He.glo_ok X G (c.t.d.fact 26 (f := .glo "left_out") rfl), F.bindsN fun _ _ _ _ _ _ us hl => match us, hl with | [_], _ => rfl⟩⟩
  d_put_in := ⟨let ⟨fd, F⟩ := c.t.d.def_ 24 (d := d_put_in) rfl; ⟨_, fd, F, He.glo_ok X G (c.t.d.fact 27 (f := .glo "put_in") rfl), F.bindsN fun _ _ _ _ _ _ us hl => match us, hl with | [_], _ => rfl⟩⟩
  d_doubled := ⟨let ⟨fd, F⟩ := c.t.d.def_ 25 (d := d_doubled) rfl; ⟨_, fd, F, He.glo_ok X G (c.t.d.fact 28 (f := .glo "doubled") rfl), F.bindsN fun _ _ _ _ _ _ us hl => match us, hl with | [_], _ => rfl⟩⟩
  d_turned := ⟨let ⟨fd, F⟩ := c.t.d.def_ 26 (d := d_turned) rfl; ⟨_, fd, F, He.glo_ok X G (c.t.d.fact 29 (f := .glo "turned") rfl), F.bindsN fun _ _ _ _ _ _ us hl => match us, hl with | [_], _ => rfl⟩⟩
  d_arcs_of := ⟨let ⟨fd, F⟩ := c.t.d.def_ 27 (d := d_arcs_of) rfl; ⟨_, fd, F, He.glo_ok X G (c.t.d.fact 30 (f := .glo "arcs_of") rfl), F.bindsN fun _ _ _ _ _ _ us hl => match us, hl with | [_], _ => rfl⟩⟩
  d_lags := ⟨let ⟨fd, F⟩ := c.t.d.def_ 28 (d := d_lags) rfl; ⟨_, fd, F, He.glo_ok X G (c.t.d.fact 31 (f := .glo "lags") rfl), F.bindsN fun _ _ _ _ _ _ us hl => match us, hl with | [_], _ => rfl⟩⟩
  d__law_same := ⟨let ⟨fd, F⟩ := c.t.d.def_ 29 (d := d__law_same) rfl; ⟨_, fd, F, He.glo_ok X G (c.t.d.fact 32 (f := .glo "_law_same") rfl), F.bindsN fun _ _ _ _ _ _ us hl => match us, hl with | [_, _], _ => rfl⟩⟩
  d__law_kind_parts := ⟨let ⟨fd, F⟩ := c.t.d.def_ 30 (d := d__law_kind_parts) rfl; ⟨_, fd, F, He.glo_ok X G (c.t.d.fact 33 (f := .glo "_law_kind_parts") rfl), F.bindsN fun _ _ _ _ _ _ us hl => match us, hl with | [_, _, _], _ => rfl⟩⟩
  d__law_kind := ⟨let ⟨fd, F⟩ := c.t.d.def_ 31 (d := d__law_kind) rfl; ⟨_, fd, F, He.glo_ok X G (c.t.d.fact 34 (f := .glo "_law_kind") rfl), F.bindsN fun _ _ _ _ _ _ us hl => match us, hl with | [_], _ => rfl⟩⟩
  d__law_parts_of := ⟨let ⟨fd, F⟩ := c.t.d.def_ 32 (d := d__law_parts_of) rfl; ⟨_, fd, F, He.glo_ok X G (c.t.d.fact 35 (f := .glo "_law_parts_of") rfl), F.bindsN fun _ _ _ _ _ _ us hl => match us, hl with | [_], _ => rfl⟩⟩
  d__law_word := ⟨let ⟨fd, F⟩ := c.t.d.def_ 33 (d := d__law_word) rfl; ⟨_, fd, F, He.glo_ok X G (c.t.d.fact 36 (f := .glo "_law_word") rfl), F.bindsN fun _ _ _ _ _ _ us hl => match us, hl with | [_, _], _ => rfl⟩⟩
  d__law_kind_of := ⟨let ⟨fd, F⟩ := c.t.d.def_ 34 (d := d__law_kind_of) rfl; ⟨_, fd, F, He.glo_ok X G (c.t.d.fact 37 (f := .glo "_law_kind_of") rfl), F.bindsN fun _ _ _ _ _ _ us hl => match us, hl with | [_, _], _ => rfl⟩⟩
  d__law_lags := ⟨let ⟨fd, F⟩ := c.t.d.def_ 35 (d := d__law_lags) rfl; ⟨_, fd, F, He.glo_ok X G (c.t.d.fact 38 (f := .glo "_law_lags") rfl), F.bindsN fun _ _ _ _ _ _ us hl => match us, hl with | [_], _ => rfl⟩⟩
  d__law_balanced := ⟨let ⟨fd, F⟩ := c.t.d.def_ 36 (d := d__law_balanced) rfl; ⟨_, fd, F, He.glo_ok X G (c.t.d.fact 39 (f := .glo "_law_balanced") rfl), F.bindsN fun _ _ _ _ _ _ us hl => match us, hl with | [_, _], _ => rfl⟩⟩
  d__law_is_right_of := ⟨let ⟨fd, F⟩ := c.t.d.def_ 37 (d := d__law_is_right_of) rfl; ⟨_, fd, F, He.glo_ok X G (c.t.d.fact 40 (f := .glo "_law_is_right_of") rfl), F.bindsN fun _ _ _ _ _ _ us hl => match us, hl with | [_], _ => rfl⟩⟩
  d__law_is_refused := ⟨let ⟨fd, F⟩ := c.t.d.def_ 38 (d := d__law_is_refused) rfl; ⟨_, fd, F, He.glo_ok X G (c.t.d.fact 41 (f := .glo "_law_is_refused") rfl), F.bindsN fun _ _ _ _ _ _ us hl => match us, hl with | [_], _ => rfl⟩⟩
  d_law := ⟨let ⟨fd, F⟩ := c.t.d.def_ 39 (d := d_law) rfl; ⟨_, fd, F, He.glo_ok X G (c.t.d.fact 42 (f := .glo "law") rfl), F.bindsN fun _ _ _ _ _ _ us hl => match us, hl with | [_], _ => rfl⟩⟩
  c_Kind := He.cls_ok (c.t.d.fact 43 (f := .cls "Kind") rfl)
  s_Kind := insB_ok (He.cls_ok (c.t.d.fact 43 (f := .cls "Kind") rfl)) (ex_of ex_Kind_s c.more)
  na_Kind_size := He.noat_ok (c.t.d.fact 44 (f := .noat "Kind" "size") rfl)
  na_Kind_many := He.noat_ok (c.t.d.fact 45 (f := .noat "Kind" "many") rfl)
  na_Kind_arcs := He.noat_ok (c.t.d.fact 46 (f := .noat "Kind" "arcs") rfl)
  na_Kind_ends := He.noat_ok (c.t.d.fact 47 (f := .noat "Kind" "ends") rfl)
  x_NoKind := xccB_ok (ex_of ex_NoKind_c c.more)
  x0_NoKind := let ⟨a, b, d, e⟩ := He.exc_ok (c.t.d.fact 48 (f := .exc "NoKind") rfl); ⟨a, b, d, e, He.glo_ok X G (c.t.d.fact 1 (f := .glo "NoKind") rfl)⟩
  f_ValueError := He.free_ok X G (c.t.d.fact 49 (f := .free "ValueError") rfl)
  f_abs := He.free_ok X G (c.t.d.fact 50 (f := .free "abs") rfl)
  f_all := He.free_ok X G (c.t.d.fact 51 (f := .free "all") rfl)
  f_any := He.free_ok X G (c.t.d.fact 52 (f := .free "any") rfl)
  f_bool := He.free_ok X G (c.t.d.fact 53 (f := .free "bool") rfl)
  f_dict := He.free_ok X G (c.t.d.fact 54 (f := .free "dict") rfl)
  f_enumerate := He.free_ok X G (c.t.d.fact 55 (f := .free "enumerate") rfl)
  f_int := He.free_ok X G (c.t.d.fact 56 (f := .free "int") rfl)
  f_isinstance := He.free_ok X G (c.t.d.fact 57 (f := .free "isinstance") rfl)
  f_len := He.free_ok X G (c.t.d.fact 58 (f := .free "len") rfl)
  f_list := He.free_ok X G (c.t.d.fact 59 (f := .free "list") rfl)
  f_max := He.free_ok X G (c.t.d.fact 60 (f := .free "max") rfl)
  f_range := He.free_ok X G (c.t.d.fact 61 (f := .free "range") rfl)
  f_sorted := He.free_ok X G (c.t.d.fact 62 (f := .free "sorted") rfl)
  f_str := He.free_ok X G (c.t.d.fact 63 (f := .free "str") rfl)
  f_tuple := He.free_ok X G (c.t.d.fact 64 (f := .free "tuple") rfl)
  f_zip := He.free_ok X G (c.t.d.fact 65 (f := .free "zip") rfl)
  g_MOST_ARCS := He.int_ok X G (c.t.d.fact 66 (f := .int "MOST_ARCS" (6000)) rfl)
  g_MOST_FAR := He.int_ok X G (c.t.d.fact 67 (f := .int "MOST_FAR" (2)) rfl)
  g_MOST_SAID := He.int_ok X G (c.t.d.fact 68 (f := .int "MOST_SAID" (2)) rfl)
  g_MOST_SIZE := He.int_ok X G (c.t.d.fact 69 (f := .int "MOST_SIZE" (12)) rfl)
  g_MOST_STATES := He.int_ok X G (c.t.d.fact 70 (f := .int "MOST_STATES" (400)) rfl)
  e_NoKind_SlipError := He.exm_ok (c.t.d.fact 71 (f := .exm "NoKind" "SlipError" true) rfl)
  k_NoKind_NoKind := kitE_ok (ex_of ex_k_NoKind_NoKind c.more)
  k_NoKind_ValueError := kitE_ok (ex_of ex_k_NoKind_ValueError c.more)
  k_NoneType_Kind := kitE_ok (ex_of ex_k_NoneType_Kind c.more)
  k_bool_Kind := kitE_ok (ex_of ex_k_bool_Kind c.more)
  k_int_Kind := kitE_ok (ex_of ex_k_int_Kind c.more)
  k_str_Kind := kitE_ok (ex_of ex_k_str_Kind c.more)
  k_tuple_Kind := kitE_ok (ex_of ex_k_tuple_Kind c.more)
  k_list_Kind := kitE_ok (ex_of ex_k_list_Kind c.more)
  k_dict_Kind := kitE_ok (ex_of ex_k_dict_Kind c.more)
theorem facts {P : Program} {w : World} {K : PySem.W.Frag} {h hh : Heap} {mg : Str → Option Value} {f : Addr} (X : K.In h) (G : h.Ns mainGlobals mg) (hfa : mg ("law" : Str) = some (.ref f)) (c : He.SaysX fa fn [] tf exB w hh K) :
    ∃ fd : FuncData, (∀ (s : Shared) (v : Value), BindsTo s fd ⟨[v], []⟩ [("script", v)]) ∧ ∀ base : Heap, K.In base → base.Ns mainGlobals mg → FnOk P w K mg base (L2N.CX P w) 12 f fd ["script"] (spOf K spLaw) := by
  obtain ⟨fd, F⟩ := c.t.d.def_ 39 (d := d_law) rfl
  have e : mg ("law" : Str) = some (.ref (He.ga K "law")) := He.glo_ok X G (c.t.d.fact 42 (f := .glo "law") rfl)
  have eq : He.ga K "law" = f := by
    have := e.symm.trans hfa
    cases this
    rfl
  subst eq
  have bb := FunD.bindsA (ps := ["script"]) F fun _ _ _ _ _ _ us hl => match us, hl with | [_], _ => rfl
  exact ⟨fd, fun s v => bb s [v] rfl, fun base _ _ => ok_law (tx_of X G c (base := base) (fun p hp => nomatch hp)) F⟩
end K20
open PySem PySem.W PySem.Calls PyProof.Rows
theorem PySem.Challenge.cw_slipcaught_k20_lags_of_kinds_holds : PySem.Challenge.rw_slipcaught_k20_lags_of_kinds.Holds := by
  w_on; o_law
  refine HandSHeadRun.head_any (r := OpenLaw.row PySem.Challenge.rw_slipcaught_k20_lags_of_kinds) (q := view (OpenLaw.row PySem.Challenge.rw_slipcaught_k20_lags_of_kinds).prog [54]) (H := K20.hk) (ob := K20.ob) (M := 6000) (loose := K20.loose) (d := HandSHeadRun.topDef (OpenLaw.row PySem.Challenge.rw_slipcaught_k20_lags_of_kinds).prog 54) (kwd := []) K20.ob_eq
    (by kernel_rfl) (fun s => by kernel_rfl) K20.run (by kernel_rfl) (by kernel_rfl) (by kernel_rfl) (by rfl) (by first | assumption | decide +kernel) (by decide +kernel) ⟨rfl, rfl, rfl, rfl, rfl, by decide +kernel⟩ ?hw ?hc
  case hw => w_witness2
  case hc =>
    refine Zl.walk_law (l := PySem.Challenge.rw_slipcaught_k20_lags_of_kinds) (k := 12) rfl (by kernel_rfl) ⟨rfl, by decide, by decide⟩ ?F
    intro w mg fa h Y G hmg0
    obtain ⟨K, KX, c⟩ := Y
    have hmg : mg ("law" : PySem.Str) = some (.ref fa) := by
      have e : (HandSHeadRun.topDef (OpenLaw.row PySem.Challenge.rw_slipcaught_k20_lags_of_kinds).prog 54).name = ("law" : PySem.Str) := by kernel_rfl
      rw [← e]
      exact hmg0
    obtain ⟨fd, hb, hF⟩ := K20.facts (P := (PySem.Challenge.rw_slipcaught_k20_lags_of_kinds).prog) (w := w) KX G hmg c
    exact ⟨K, fd, KX, hb, hF⟩
