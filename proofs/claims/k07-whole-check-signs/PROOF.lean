import PyProof.Rows.All
import Wide.All
import OpenK.AllK
import Wide.FinOn
import HandS.Base
import HandS.Call
import HandS.List
import HandS.Comp
import HandS.Lambda
import HandS.Dict
import KE.KeyNested
import KE.KDictDisplayH
import PyProof.Rows.TupTab
import HandS.ForMost
import HandS.ForExc
import HandS.Defaults
import HandS.TupAny
import HandS.IsInst
import HandS.Wide
import HandS.Zip
import KE.GoesMore
import KE.GoesEnum
import HandS.ExcInit
import HandS.ExcField
import HandS.ExcIs
import HandS.TryMany
import HandS.HotCalls
import HandS.Small
import HandS.TupMul
import KE.KExcIs
import HandS.Style
import HandS.EndBits
import HandS.HeadEnd
import HandS.HeadHook4
import HandS.Head0
import HandS.Head1
import HandS.Head2
import HandS.Conv
import HandS.RevTup
import HandS.OwnEq
import PyProof.InstEq
import PyProof.InstNe
import PyProof.P3Eq
import HandS.EndTab
import HandS.Words
import HandS.NoneIn
import HandS.Iter
import HandS.Nested
import PySem.Challenge.RW_slipcaught_k07_whole_check_signs
set_option Elab.async false
set_option maxRecDepth 100000
set_option maxHeartbeats 4000000
set_option autoImplicit false
set_option linter.unusedVariables false
namespace Zl
open PySem L2

/-- deep data: what is never changed any more, as a tree; v: a scalar, or a reference that stands for itself -/
inductive D where
  | v (x : V)
  | tup (ds : List D)
  | lst (ds : List D)
  | rd (ds : List D)
  | dct (kvs : List (Key × D))
  | ins (C : Addr) (fs : List (Str × D))

mutual
inductive Rep (K : PySem.W.Frag) (F : Hp) : D → V → Prop
  | v (x : V) : Rep K F (.v x) x
  | tup {ds : List D} {a : Addr} {xs : List V} (h : F a = some (.tup xs)) (r : Reps K F ds xs) : Rep K F (.tup ds) (.ref a)
  | lst {ds : List D} {a : Addr} {xs : List V} (h : F a = some (.lst xs)) (r : Reps K F ds xs) : Rep K F (.lst ds) (.ref a)
  | rd {ds : List D} {a : Addr} {xs : List V} (h : SqL K F a xs) (r : Reps K F ds xs) : Rep K F (.rd ds) (.ref a)
  | dct {ds : List (Key × D)} {a : Addr} {o : Obj} {xs : List (Key × V)} (h : F a = some (.frz o (.dK xs))) (r : RepK K F ds xs) : Rep K F (.dct ds) (.ref a)
  | ins {C dx : Addr} {ds : List (Str × D)} {a : Addr} {xs : List (Str × V)} (h : F a = some (.ins C dx xs)) (r : RepF K F ds xs) : Rep K F (.ins C ds) (.ref a)
inductive Reps (K : PySem.W.Frag) (F : Hp) : List D → List V → Prop
  | nil : Reps K F [] []
  | cons {d : D} {x : V} {ds : List D} {xs : List V} (h : Rep K F d x) (r : Reps K F ds xs) : Reps K F (d :: ds) (x :: xs)
inductive RepK (K : PySem.W.Frag) (F : Hp) : List (Key × D) → List (Key × V) → Prop
  | nil : RepK K F [] []
  | cons {k : Key} {d : D} {x : V} {ds : List (Key × D)} {xs : List (Key × V)} (h : Rep K F d x) (r : RepK K F ds xs) : RepK K F ((k, d) :: ds) ((k, x) :: xs)
inductive RepF (K : PySem.W.Frag) (F : Hp) : List (Str × D) → List (Str × V) → Prop
  | nil : RepF K F [] []
  | cons {k : Str} {d : D} {x : V} {ds : List (Str × D)} {xs : List (Str × V)} (h : Rep K F d x) (r : RepF K F ds xs) : RepF K F ((k, d) :: ds) ((k, x) :: xs)
end

/-- all that was tracked stands -/
def Le (F G : Hp) : Prop := ∀ a o, F a = some o → G a = some o
theorem Le.rfl' (F : Hp) : Le F F := fun _ _ h => h
theorem Le.tr {F G H : Hp} (x : Le F G) (y : Le G H) : Le F H := fun a o h => y a o (x a o h)
theorem Le.put {F : Hp} {p : Addr} {o : HO} (h : F p = none) : Le F (upd F p o) := fun a u e => by
  have n : a ≠ p := fun q => by
    subst q
    rw [h] at e
    cases e
  rw [upd_ne n]
  exact e
theorem rd_le {F G : Hp} {a : Addr} {u : HO} (l : Le F G) (h : Rd F a u) : Rd G a u := by
  cases h with
  | inl h => exact .inl (l _ _ h)
  | inr h =>
    obtain ⟨o, h⟩ := h
    exact .inr ⟨o, l _ _ h⟩
theorem sqT_le {K : PySem.W.Frag} {F G : Hp} {a : Addr} {xs : List V} (l : Le F G) (h : SqT K F a xs) : SqT K G a xs := by
  cases h with
  | inl h => exact .inl (rd_le l h)
  | inr h => exact .inr h
theorem sqL_le {K : PySem.W.Frag} {F G : Hp} {a : Addr} {xs : List V} (l : Le F G) (h : SqL K F a xs) : SqL K G a xs := by
  cases h with
  | inl h => exact .inl (rd_le l h)
  | inr h => exact .inr h

mutual
theorem Rep.le {K : PySem.W.Frag} {F G : Hp} (l : Le F G) : ∀ {d : D} {x : V}, Rep K F d x → Rep K G d x
  | _, _, .v x => .v x
  | _, _, .tup a r => .tup (l _ _ a) (Reps.le l r)
  | _, _, .lst a r => .lst (l _ _ a) (Reps.le l r)
  | _, _, .rd a r => .rd (sqL_le l a) (Reps.le l r)
  | _, _, .dct a r => .dct (l _ _ a) (RepK.le l r)
  | _, _, .ins a r => .ins (l _ _ a) (RepF.le l r)
theorem Reps.le {K : PySem.W.Frag} {F G : Hp} (l : Le F G) : ∀ {ds : List D} {xs : List V}, Reps K F ds xs → Reps K G ds xs
  | _, _, .nil => .nil
  | _, _, .cons a r => .cons (Rep.le l a) (Reps.le l r)
theorem RepK.le {K : PySem.W.Frag} {F G : Hp} (l : Le F G) : ∀ {ds : List (Key × D)} {xs : List (Key × V)}, RepK K F ds xs → RepK K G ds xs
  | _, _, .nil => .nil
  | _, _, .cons a r => .cons (Rep.le l a) (RepK.le l r)
theorem RepF.le {K : PySem.W.Frag} {F G : Hp} (l : Le F G) : ∀ {ds : List (Str × D)} {xs : List (Str × V)}, RepF K F ds xs → RepF K G ds xs
  | _, _, .nil => .nil
  | _, _, .cons a r => .cons (Rep.le l a) (RepF.le l r)
end

section
variable {K : PySem.W.Frag} {F : Hp} {x : V} {ds : List D} {xs : List V}
theorem Rep.v_inv {y : V} (h : Rep K F (.v y) x) : x = y := by
  cases h
  rfl
theorem Rep.tup_inv (h : Rep K F (.tup ds) x) : ∃ a xs, x = .ref a ∧ SqT K F a xs ∧ Reps K F ds xs := by
  cases h with
  | tup a r => exact ⟨_, _, rfl, SqT.of a, r⟩
theorem Rep.lst_inv (h : Rep K F (.lst ds) x) : ∃ a xs, x = .ref a ∧ F a = some (.lst xs) ∧ Reps K F ds xs := by
  cases h with
  | lst a r => exact ⟨_, _, rfl, a, r⟩
theorem Rep.rd_inv (h : Rep K F (.rd ds) x) : ∃ a xs, x = .ref a ∧ SqL K F a xs ∧ Reps K F ds xs := by
  cases h with
  | rd a r => exact ⟨_, _, rfl, a, r⟩
theorem Rep.dct_inv {ks : List (Key × D)} (h : Rep K F (.dct ks) x) : ∃ a o ys, x = .ref a ∧ F a = some (.frz o (.dK ys)) ∧ RepK K F ks ys := by
  cases h with
  | dct a r => exact ⟨_, _, _, rfl, a, r⟩
theorem Rep.ins_inv {C : Addr} {fs : List (Str × D)} (h : Rep K F (.ins C fs) x) : ∃ a dx ys, x = .ref a ∧ F a = some (.ins C dx ys) ∧ RepF K F fs ys := by
  cases h with
  | ins a r => exact ⟨_, _, _, rfl, a, r⟩
theorem Reps.len (h : Reps K F ds xs) : ds.length = xs.length := by
  induction ds generalizing xs with
  | nil => cases h; rfl
  | cons d ds ih =>
    cases h with
    | cons a r => rw [List.length_cons, List.length_cons, ih r]
theorem Reps.get {i : Nat} {d : D} (h : Reps K F ds xs) (e : ds[i]? = some d) : ∃ y, xs[i]? = some y ∧ Rep K F d y := by
  induction ds generalizing xs i with
  | nil => cases e
  | cons d' ds ih =>
    cases h with
    | cons a r =>
      cases i with
      | zero =>
        rw [List.getElem?_cons_zero] at e
        cases e
        exact ⟨_, rfl, a⟩
      | succ i =>
        rw [List.getElem?_cons_succ] at e
        obtain ⟨y, e1, e2⟩ := ih r e
        exact ⟨y, by rw [List.getElem?_cons_succ]; exact e1, e2⟩
theorem Reps.getR {i : Nat} {y : V} (h : Reps K F ds xs) (e : xs[i]? = some y) : ∃ d, ds[i]? = some d ∧ Rep K F d y := by
  induction xs generalizing ds i with
  | nil => cases e
  | cons y' xs ih =>
    cases h with
    | cons a r =>
      cases i with
      | zero =>
        rw [List.getElem?_cons_zero] at e
        cases e
        exact ⟨_, rfl, a⟩
      | succ i =>
        rw [List.getElem?_cons_succ] at e
        obtain ⟨d, e1, e2⟩ := ih r e
        exact ⟨d, by rw [List.getElem?_cons_succ]; exact e1, e2⟩
theorem Reps.app {es : List D} {ys : List V} (h : Reps K F ds xs) (g : Reps K F es ys) : Reps K F (ds ++ es) (xs ++ ys) := by
  induction ds generalizing xs with
  | nil => cases h; exact g
  | cons d ds ih =>
    cases h with
    | cons a r => exact .cons a (ih r)
theorem Reps.snoc {d : D} {y : V} (h : Reps K F ds xs) (g : Rep K F d y) : Reps K F (ds ++ [d]) (xs ++ [y]) := h.app (.cons g .nil)
theorem Reps.take (h : Reps K F ds xs) (n : Nat) : Reps K F (ds.take n) (xs.take n) := by
  induction ds generalizing xs n with
  | nil => cases h; rw [List.take_nil, List.take_nil]; exact .nil
  | cons d ds ih =>
    cases h with
    | cons a r =>
      cases n with
      | zero => exact .nil
      | succ n => exact .cons a (ih r n)
theorem Reps.drop (h : Reps K F ds xs) (n : Nat) : Reps K F (ds.drop n) (xs.drop n) := by
  induction ds generalizing xs n with
  | nil => cases h; rw [List.drop_nil, List.drop_nil]; exact .nil
  | cons d ds ih =>
    cases h with
    | cons a r =>
      cases n with
      | zero => exact .cons a r
      | succ n => exact ih r n
theorem Reps.set {d : D} {y : V} (h : Reps K F ds xs) (g : Rep K F d y) (i : Nat) : Reps K F (ds.set i d) (xs.set i y) := by
  induction ds generalizing xs i with
  | nil => cases h; exact .nil
  | cons d' ds ih =>
    cases h with
    | cons a r =>
      cases i with
      | zero => exact .cons g r
      | succ i => exact .cons a (ih r i)
theorem Reps.rev (h : Reps K F ds xs) : Reps K F ds.reverse xs.reverse := by
  induction ds generalizing xs with
  | nil => cases h; exact .nil
  | cons d ds ih =>
    cases h with
    | cons a r =>
      rw [List.reverse_cons, List.reverse_cons]
      exact (ih r).snoc a
theorem Reps.dropLast (h : Reps K F ds xs) : Reps K F ds.dropLast xs.dropLast := by
  rw [List.dropLast_eq_take, List.dropLast_eq_take, h.len]
  exact h.take _
theorem Reps.flatRep (h : Reps K F ds xs) (k : Nat) : Reps K F (List.replicate k ds).flatten (List.replicate k xs).flatten := by
  induction k with
  | zero => exact .nil
  | succ k ih =>
    rw [List.replicate_succ, List.replicate_succ, List.flatten_cons, List.flatten_cons]
    exact h.app ih
theorem RepF.look {fs : List (Str × D)} {ys : List (Str × V)} {f : Str} (h : RepF K F fs ys) : (fs.lookup f = none → ys.lookup f = none) ∧ ∀ d, fs.lookup f = some d → ∃ y, ys.lookup f = some y ∧ Rep K F d y := by
  induction fs generalizing ys with
  | nil =>
    cases h
    exact ⟨fun _ => rfl, fun d e => by cases e⟩
  | cons p fs ih =>
    cases h with
    | @cons k d x _ xs a r =>
      rw [List.lookup_cons, List.lookup_cons]
      cases f == k with
      | true => exact ⟨fun e => (by cases e), fun d' e => (by cases e; exact ⟨_, rfl, a⟩)⟩
      | false => exact ih r
theorem RepF.len {fs : List (Str × D)} {ys : List (Str × V)} (h : RepF K F fs ys) : fs.length = ys.length := by
  induction fs generalizing ys with
  | nil => cases h; rfl
  | cons d ds ih =>
    cases h with
    | cons a r => rw [List.length_cons, List.length_cons, ih r]
theorem RepK.len {fs : List (Key × D)} {ys : List (Key × V)} (h : RepK K F fs ys) : fs.length = ys.length := by
  induction fs generalizing ys with
  | nil => cases h; rfl
  | cons d ds ih =>
    cases h with
    | cons a r => rw [List.length_cons, List.length_cons, ih r]
end
/-- a field put, in deep data -/
def putD (f : Str) (d : D) : List (Str × D) → List (Str × D)
  | [] => [(f, d)]
  | (g, x) :: r => if g = f then (g, d) :: r else (g, x) :: putD f d r
theorem RepF.put {K : PySem.W.Frag} {F : Hp} {f : Str} {d : D} {y : V} {fs : List (Str × D)} {ys : List (Str × V)} (h : RepF K F fs ys) (g : Rep K F d y) : RepF K F (putD f d fs) (putF f y ys) := by
  induction fs generalizing ys with
  | nil => cases h; exact .cons g .nil
  | cons p fs ih =>
    cases h with
    | @cons k d' x _ xs a r =>
      unfold putD putF
      by_cases q : k = f
      · rw [if_pos q, if_pos q]
        exact .cons g r
      · rw [if_neg q, if_neg q]
        exact .cons a (ih r)

/-! ### dicts whose keys are tuples of any depth -/
mutual
def keyOf : D → Option NestedKey
  | .v .non => some .none
  | .v (.bl b) => some (.num (if b then 1 else 0))
  | .v (.int i) => some (.num i)
  | .v (.str x) => some (.text x)
  | .tup ds => (keysOf ds).map .tup
  | _ => none
def keysOf : List D → Option (List NestedKey)
  | [] => some []
  | d :: ds => match keyOf d, keysOf ds with
    | some k, some ks => some (k :: ks)
    | _, _ => none
end
def entN (w : World) (x : NestedKey × Addr × Value) : DictEntry := ⟨x.1.hash w, .ref x.2.1, x.2.2⟩
/-- the dict at a: its keys, where they stand, its values -/
def DN (w : World) (a : Addr) (xs : List (NestedKey × Addr × V)) : HO := .ext fun h => (a == sysModules) = false ∧ xs.length ≤ sizeLine ∧
  ∃ ys : List (NestedKey × Addr × Value), Paired (fun (p : NestedKey × Addr × V) (q : NestedKey × Addr × Value) => p.1 = q.1 ∧ p.2.1 = q.2.1 ∧ L2.RelV p.2.2 q.2.2) xs ys ∧
    ∃ o es ep, h.get? a = some o ∧ o.ExactDict ∧ o.data = .dict es ep ∧ es.toList = ys.map (entN w) ∧ (ys.map (·.1)).Nodup
inductive RepN (K : PySem.W.Frag) (F : Hp) : List (D × D) → List (NestedKey × Addr × V) → Prop
  | nil : RepN K F [] []
  | cons {d e : D} {k : NestedKey} {b : Addr} {x : V} {ds : List (D × D)} {xs : List (NestedKey × Addr × V)} (hk : keyOf d = some k) (dp : k.depth ≤ 8) (rk : Rep K F d (.ref b)) (rv : Rep K F e x) (r : RepN K F ds xs) :
      RepN K F ((d, e) :: ds) ((k, b, x) :: xs)
theorem RepN.le {K : PySem.W.Frag} {F G : Hp} (l : Le F G) {ds : List (D × D)} {xs : List (NestedKey × Addr × V)} (h : RepN K F ds xs) : RepN K G ds xs := by
  induction h with
  | nil => exact .nil
  | cons hk dp rk rv _ ih => exact .cons hk dp (rk.le l) (rv.le l) ih
/-! ### what may change -/
inductive MO where
  | lst (ds : List D)
  | dct (kvs : List (Key × D))
  | ins (C dx : Addr) (fs : List (Str × D))
  /-- a table of code objects, each of the name q -/
  | tbl (q : Str)
  /-- the dict at a, its keys tuples -/
  | dN (w : World) (a : Addr) (kvs : List (D × D))
inductive RepO (K : PySem.W.Frag) (F : Hp) : MO → HO → Prop
  | lst {ds : List D} {xs : List V} (r : Reps K F ds xs) : RepO K F (.lst ds) (.lst xs)
  | dct {ds : List (Key × D)} {xs : List (Key × V)} (r : RepK K F ds xs) : RepO K F (.dct ds) (.dK xs)
  | ins {C dx : Addr} {ds : List (Str × D)} {xs : List (Str × V)} (r : RepF K F ds xs) : RepO K F (.ins C dx ds) (.ins C dx xs)
  | tbl {q : Str} {ps : Array Value} (t : TriplesOk ps.toList) (r : ∀ pos cv, codeAmong pos ps.toList = some cv → ∃ c, cv = .ref c ∧ F c = some (LamX.CodeO c q)) : RepO K F (.tbl q) (.tbl ps)
  | dN {w : World} {a : Addr} {ds : List (D × D)} {xs : List (NestedKey × Addr × V)} (r : RepN K F ds xs) : RepO K F (.dN w a ds) (DN w a xs)
theorem RepO.le {K : PySem.W.Frag} {F G : Hp} (l : Le F G) {m : MO} {o : HO} (h : RepO K F m o) : RepO K G m o := by
  cases h with
  | lst r => exact .lst (r.le l)
  | dct r => exact .dct (r.le l)
  | ins r => exact .ins (r.le l)
  | dN r => exact .dN (r.le l)
  | tbl t r => exact .tbl t fun pos cv e => let ⟨c, e1, e2⟩ := r pos cv e; ⟨c, e1, l _ _ e2⟩
abbrev MS := Addr → Option MO
def mput (M : MS) (a : Addr) (o : MO) : MS := fun b => if b = a then some o else M b
theorem mput_same {M : MS} {a : Addr} {o : MO} : mput M a o a = some o := if_pos rfl
theorem mput_ne {M : MS} {a b : Addr} {o : MO} (h : b ≠ a) : mput M a o b = M b := if_neg h
theorem mput_mput {M : MS} {a : Addr} {o u : MO} : mput (mput M a o) a u = mput M a u := by
  funext b
  unfold mput
  split <;> rfl
def mdel (M : MS) (a : Addr) : MS := fun b => if b = a then none else M b

structure Sim (K : PySem.W.Frag) (F : Hp) (M : MS) (H : Hp) : Prop where
  sub : Le F H
  dis : ∀ a o, F a = some o → M a = none
  mu : ∀ a m, M a = some m → ∃ o, H a = some o ∧ RepO K F m o
section
variable {K : PySem.W.Frag} {F : Hp} {M : MS} {H : Hp} {a p : Addr} {o : HO} {m : MO}
theorem Sim.nF (s : Sim K F M H) (h : H p = none) : F p = none := by
  cases e : F p with
  | none => rfl
  | some o =>
    have := s.sub _ _ e
    rw [h] at this
    cases this
theorem Sim.nM (s : Sim K F M H) (h : H p = none) : M p = none := by
  cases e : M p with
  | none => rfl
  | some m =>
    obtain ⟨o, q, _⟩ := s.mu _ _ e
    rw [h] at q
    cases q
/-- a new object that will never change -/
theorem Sim.freeze (s : Sim K F M H) (h : H p = none) : Sim K (upd F p o) M (upd H p o) where
  sub := fun a u e => by
    by_cases q : a = p
    · subst q
      rw [upd_same] at e ⊢
      exact e
    · rw [upd_ne q] at e ⊢
      exact s.sub _ _ e
  dis := fun a u e => by
    by_cases q : a = p
    · subst q
      exact s.nM h
    · rw [upd_ne q] at e
      exact s.dis _ _ e
  mu := fun a m e => by
    obtain ⟨u, e1, e2⟩ := s.mu _ _ e
    have q : a ≠ p := fun q => by
      subst q
      rw [h] at e1
      cases e1
    exact ⟨u, by rw [upd_ne q]; exact e1, e2.le (Le.put (s.nF h))⟩
/-- a new object that may change -/
theorem Sim.alloc (s : Sim K F M H) (h : H p = none) (r : RepO K F m o) : Sim K F (mput M p m) (upd H p o) where
  sub := fun a u e => by
    have q : a ≠ p := fun q => by
      subst q
      rw [s.nF h] at e
      cases e
    rw [upd_ne q]
    exact s.sub _ _ e
  dis := fun a u e => by
    have q : a ≠ p := fun q => by
      subst q
      rw [s.nF h] at e
      cases e
    rw [mput_ne q]
    exact s.dis _ _ e
  mu := fun a n e => by
    by_cases q : a = p
    · subst q
      rw [mput_same] at e
      cases e
      exact ⟨o, upd_same, r⟩
    · rw [mput_ne q] at e
      rw [upd_ne q]
      exact s.mu _ _ e
/-- an object that may change is written -/
theorem Sim.write {m' : MO} (s : Sim K F M H) (h : M p = some m') (r : RepO K F m o) : Sim K F (mput M p m) (upd H p o) where
  sub := fun a u e => by
    have q : a ≠ p := fun q => by
      subst q
      rw [s.dis _ _ e] at h
      cases h
    rw [upd_ne q]
    exact s.sub _ _ e
  dis := fun a u e => by
    have q : a ≠ p := fun q => by
      subst q
      rw [s.dis _ _ e] at h
      cases h
    rw [mput_ne q]
    exact s.dis _ _ e
  mu := fun a n e => by
    by_cases q : a = p
    · subst q
      rw [mput_same] at e
      cases e
      exact ⟨o, upd_same, r⟩
    · rw [mput_ne q] at e
      rw [upd_ne q]
      exact s.mu _ _ e
/-- it is written for the last time: from now on it is data -/
theorem Sim.settle (s : Sim K F M H) (h : M p = some m) : ∃ o, H p = some o ∧ RepO K F m o ∧ F p = none ∧ Sim K (upd F p o) (mdel M p) H := by
  obtain ⟨o, e1, e2⟩ := s.mu _ _ h
  have f0 : F p = none := by
    cases e : F p with
    | none => rfl
    | some u =>
      rw [s.dis _ _ e] at h
      cases h
  refine ⟨o, e1, e2, f0, ⟨fun a u e => ?_, fun a u e => ?_, fun a n e => ?_⟩⟩
  · by_cases q : a = p
    · subst q
      rw [upd_same] at e
      rw [e1]
      exact e
    · rw [upd_ne q] at e
      exact s.sub _ _ e
  · by_cases q : a = p
    · subst q
      exact if_pos rfl
    · rw [upd_ne q] at e
      show (if a = p then none else M a) = none
      rw [if_neg q]
      exact s.dis _ _ e
  · have q : a ≠ p := fun q => by
      have e' : (if a = p then none else M a) = some n := e
      rw [if_pos q] at e'
      cases e'
    have e' : (if a = p then none else M a) = some n := e
    rw [if_neg q] at e'
    obtain ⟨u, e3, e4⟩ := s.mu _ _ e'
    exact ⟨u, e3, e4.le (Le.put f0)⟩
/-- nothing but the tracked part grew -/
theorem Sim.grow {H' : Hp} (s : Sim K F M H) (h : Le H H') : Sim K F M H' :=
  ⟨s.sub.tr h, s.dis, fun a m e => let ⟨o, e1, e2⟩ := s.mu a m e; ⟨o, h _ _ e1, e2⟩⟩
end

/-! ### states: what is data, what may change, the abstract heap -/
structure W3 where
  F : Hp
  M : MS
  H : Hp
abbrev Ok (K : PySem.W.Frag) (w : W3) : Prop := Sim K w.F w.M w.H
/-- from w to u: data stays; what is tracked and may not change stands (code tables apart) -/
structure Nx (w u : W3) : Prop where
  le : Le w.F u.F
  keep : ∀ a o, w.H a = some o → (∀ ps, o ≠ .tbl ps) → w.M a = none → u.H a = some o ∧ u.M a = none ∧ (w.F a = none → u.F a = none)
theorem Nx.rf (w : W3) : Nx w w := ⟨Le.rfl' _, fun _ _ h _ n => ⟨h, n, id⟩⟩
theorem Nx.tr {w u v : W3} (a : Nx w u) (b : Nx u v) : Nx w v := ⟨a.le.tr b.le, fun p o h t n => let ⟨h1, n1, f1⟩ := a.keep p o h t n; let ⟨h2, n2, f2⟩ := b.keep p o h1 t n1; ⟨h2, n2, fun f => f2 (f1 f)⟩⟩
section
variable {K : PySem.W.Frag} {F : Hp} {M : MS} {H : Hp} {p : Addr} {o : HO} {m : MO}
theorem nx_new (s : Sim K F M H) (h : H p = none) : Nx ⟨F, M, H⟩ ⟨upd F p o, M, upd H p o⟩ :=
  ⟨Le.put (s.nF h), fun a u e _ n => ⟨Le.put h a u e, n, fun f => by
    have q : a ≠ p := fun q => by
      subst q
      have e' : H a = some u := e
      rw [h] at e'
      cases e'
    show upd F p o a = none
    rw [upd_ne q]
    exact f⟩⟩
theorem nx_alloc (s : Sim K F M H) (h : H p = none) : Nx ⟨F, M, H⟩ ⟨F, mput M p m, upd H p o⟩ :=
  ⟨Le.rfl' _, fun a u e _ n => ⟨Le.put h a u e, by
    have q : a ≠ p := fun q => by
      subst q
      have e' : H a = some u := e
      rw [h] at e'
      cases e'
    refine ⟨?_, id⟩
    show mput M p m a = none
    rw [mput_ne q]
    exact n⟩⟩
theorem nx_write {m' : MO} (h : M p = some m') : Nx ⟨F, M, H⟩ ⟨F, mput M p m, upd H p o⟩ :=
  ⟨Le.rfl' _, fun a u e _ n => by
    have q : a ≠ p := fun q => by
      subst q
      have n' : M a = none := n
      rw [h] at n'
      cases n'
    show upd H p o a = some u ∧ mput M p m a = none ∧ _
    rw [mput_ne q, upd_ne q]
    exact ⟨e, n, id⟩⟩
theorem nx_grow {H' : Hp} (l : Le H H') : Nx ⟨F, M, H⟩ ⟨F, M, H'⟩ := ⟨Le.rfl' _, fun a u e _ n => ⟨l a u e, n, id⟩⟩
end

/-! ### slots -/
abbrev ZSt := List (Option D)
structure RepS (K : PySem.W.Frag) (F : Hp) (δ : ZSt) (σ : St) : Prop where
  len : δ.length = σ.length
  get : ∀ (i : Nat) (d : D), δ[i]? = some (some d) → ∃ x, σ[i]? = some (some x) ∧ Rep K F d x
section
variable {K : PySem.W.Frag} {F G : Hp} {δ : ZSt} {σ : St} {d : D} {x : V}
theorem RepS.le (l : Le F G) (h : RepS K F δ σ) : RepS K G δ σ := ⟨h.len, fun i d e => let ⟨x, e1, e2⟩ := h.get i d e; ⟨x, e1, e2.le l⟩⟩
theorem RepS.set (h : RepS K F δ σ) (r : Rep K F d x) (i : Nat) : RepS K F (δ.set i (some d)) (σ.set i (some x)) := by
  refine ⟨by rw [List.length_set, List.length_set]; exact h.len, fun j d' e => ?_⟩
  by_cases q : j = i
  · subst q
    by_cases hj : j < δ.length
    · rw [List.getElem?_set_self hj] at e
      cases e
      exact ⟨x, List.getElem?_set_self (by rw [← h.len]; exact hj), r⟩
    · rw [List.getElem?_eq_none (by rw [List.length_set]; omega)] at e
      cases e
  · rw [List.getElem?_set_ne (Ne.symm q)] at e ⊢
    exact h.get j d' e
theorem RepS.unset (h : RepS K F δ σ) (i : Nat) : RepS K F (δ.set i none) (σ.set i none) := by
  refine ⟨by rw [List.length_set, List.length_set]; exact h.len, fun j d' e => ?_⟩
  by_cases q : j = i
  · subst q
    by_cases hj : j < δ.length
    · rw [List.getElem?_set_self hj] at e
      cases e
    · rw [List.getElem?_eq_none (by rw [List.length_set]; omega)] at e
      cases e
  · rw [List.getElem?_set_ne (Ne.symm q)] at e ⊢
    exact h.get j d' e
def zwipe (δ : ZSt) : List Nat → ZSt
  | [] => δ
  | i :: is => (zwipe δ is).set i none
theorem RepS.wipe (h : RepS K F δ σ) (is : List Nat) : RepS K F (zwipe δ is) (L2.wipe σ is) := by
  induction is with
  | nil => exact h
  | cons i is ih => exact ih.unset i
theorem RepS.start {ds : List D} {xs : List V} (h : Reps K F ds xs) (n : Nat) : RepS K F (ds.map some ++ List.replicate (n - ds.length) none) (xs.map some ++ List.replicate (n - xs.length) none) := by
  refine ⟨by simp [h.len], fun i d e => ?_⟩
  by_cases q : i < ds.length
  · rw [List.getElem?_append_left (by rw [List.length_map]; exact q), List.getElem?_map] at e
    rw [List.getElem?_append_left (by rw [List.length_map, ← h.len]; exact q), List.getElem?_map]
    cases e1 : ds[i]? with
    | none => rw [e1] at e; cases e
    | some d' =>
      rw [e1] at e
      cases e
      obtain ⟨y, e2, e3⟩ := h.get e1
      exact ⟨y, by rw [e2]; rfl, e3⟩
  · rw [List.getElem?_append_right (by rw [List.length_map]; omega)] at e
    rw [List.getElem?_replicate] at e
    split at e <;> cases e
end
end Zl
namespace Zl
open PySem L2

/-! ### readings on deep data -/
abbrev ZQ := D → MS → Prop
abbrev ZE := ZSt → MS → ZQ → Prop
abbrev ZT := ZSt → MS → (Bool → MS → Prop) → Prop
abbrev ZA := ZSt → MS → (List D → MS → Prop) → Prop
abbrev ZR2 := D → D → MS → ZQ → Prop
abbrev ZR1 := D → MS → ZQ → Prop
abbrev ZRA := List D → MS → ZQ → Prop
structure ZEnds where
  nx : ZSt → MS → Prop
  rt : ZQ
  bk : ZSt → MS → Prop := fun _ _ => False
  ct : ZSt → MS → Prop := fun _ _ => False
abbrev ZS := ZEnds → ZSt → MS → Prop

section
variable (K : PySem.W.Frag) (w0 : W3)
/-- the wish over the heap follows from the wish over deep data, at every later state -/
def CtE (Qz : ZQ) (Q : VK) : Prop := ∀ u d x, Nx w0 u → Ok K u → Rep K u.F d x → Qz d u.M → Q x u.H
def CtT (Qz : Bool → MS → Prop) (Q : Bool → Hp → Prop) : Prop := ∀ u b, Nx w0 u → Ok K u → Qz b u.M → Q b u.H
def CtA (Qz : List D → MS → Prop) (Q : List V → Hp → Prop) : Prop := ∀ u ds xs, Nx w0 u → Ok K u → Reps K u.F ds xs → Qz ds u.M → Q xs u.H
def CtS (Nz : ZSt → MS → Prop) (N : St → Hp → Prop) : Prop := ∀ u δ σ, Nx w0 u → Ok K u → RepS K u.F δ σ → Nz δ u.M → N σ u.H
def CtN (Nz : MS → Prop) (N : Hp → Prop) : Prop := ∀ u, Nx w0 u → Ok K u → Nz u.M → N u.H
structure CtD (Dz : ZEnds) (D : Ends) : Prop where
  nx : CtS K w0 Dz.nx D.nx
  rt : CtE K w0 Dz.rt D.rt
  bk : CtS K w0 Dz.bk D.bk
  ct : CtS K w0 Dz.ct D.ct
def LE (t : TE) (z : ZE) : Prop := ∀ w σ δ Qz Q, Nx w0 w → Ok K w → RepS K w.F δ σ → CtE K w Qz Q → z δ w.M Qz → t σ w.H Q
def LT (t : TT) (z : ZT) : Prop := ∀ w σ δ Qz Q, Nx w0 w → Ok K w → RepS K w.F δ σ → CtT K w Qz Q → z δ w.M Qz → t σ w.H Q
def LA (t : TA) (z : ZA) : Prop := ∀ w σ δ Qz Q, Nx w0 w → Ok K w → RepS K w.F δ σ → CtA K w Qz Q → z δ w.M Qz → t σ w.H Q
def LS (t : TS) (z : ZS) : Prop := ∀ w σ δ Dz D, Nx w0 w → Ok K w → RepS K w.F δ σ → CtD K w Dz D → z Dz δ w.M → t D σ w.H
end
section
variable (K : PySem.W.Frag)
def LR2 (r : R2) (z : ZR2) : Prop := ∀ w x y d e Qz Q, Ok K w → Rep K w.F d x → Rep K w.F e y → CtE K w Qz Q → z d e w.M Qz → r x y w.H Q
def LR1 (r : V → Hp → VK → Prop) (z : ZR1) : Prop := ∀ w x d Qz Q, Ok K w → Rep K w.F d x → CtE K w Qz Q → z d w.M Qz → r x w.H Q
def LRA (r : List V → Hp → VK → Prop) (z : ZRA) : Prop := ∀ w xs ds Qz Q, Ok K w → Reps K w.F ds xs → CtE K w Qz Q → z ds w.M Qz → r xs w.H Q
def LRM (r : V → List V → Hp → VK → Prop) (z : D → ZRA) : Prop := ∀ w x xs d ds Qz Q, Ok K w → Rep K w.F d x → Reps K w.F ds xs → CtE K w Qz Q → z d ds w.M Qz → r x xs w.H Q
end
section
variable {K : PySem.W.Frag} {w u : W3}
theorem CtE.le {Qz : ZQ} {Q : VK} (l : Nx w u) (h : CtE K w Qz Q) : CtE K u Qz Q := fun v d x l' => h v d x (l.tr l')
theorem CtT.le {Qz : Bool → MS → Prop} {Q : Bool → Hp → Prop} (l : Nx w u) (h : CtT K w Qz Q) : CtT K u Qz Q := fun v b l' => h v b (l.tr l')
theorem CtA.le {Qz : List D → MS → Prop} {Q : List V → Hp → Prop} (l : Nx w u) (h : CtA K w Qz Q) : CtA K u Qz Q := fun v d x l' => h v d x (l.tr l')
theorem CtS.le {Nz : ZSt → MS → Prop} {N : St → Hp → Prop} (l : Nx w u) (h : CtS K w Nz N) : CtS K u Nz N := fun v d x l' => h v d x (l.tr l')
theorem CtD.le {Dz : ZEnds} {D : Ends} (l : Nx w u) (h : CtD K w Dz D) : CtD K u Dz D := ⟨h.nx.le l, h.rt.le l, h.bk.le l, h.ct.le l⟩
theorem CtE.go {Qz : ZQ} {Q : VK} {d : D} {x : V} (h : CtE K w Qz Q) (s : Ok K w) (r : Rep K w.F d x) (q : Qz d w.M) : Q x w.H := h w d x (Nx.rf w) s r q
theorem CtE.new {Qz : ZQ} {Q : VK} {d : D} {p : Addr} {o : HO} (h : CtE K w Qz Q) (s : Ok K w) (hp : w.H p = none) (r : Rep K (upd w.F p o) d (.ref p)) (q : Qz d w.M) : Q (.ref p) (upd w.H p o) :=
  h ⟨upd w.F p o, w.M, upd w.H p o⟩ d _ (nx_new s hp) (s.freeze hp) r q
theorem CtE.alloc {Qz : ZQ} {Q : VK} {p : Addr} {o : HO} {m : MO} (h : CtE K w Qz Q) (s : Ok K w) (hp : w.H p = none) (r : RepO K w.F m o) (q : Qz (.v (.ref p)) (mput w.M p m)) : Q (.ref p) (upd w.H p o) :=
  h ⟨w.F, mput w.M p m, upd w.H p o⟩ _ _ (nx_alloc s hp) (s.alloc hp r) (.v _) q
end

/-! ### expressions -/
def zVar (i : Nat) : ZE := fun δ M Q => ∃ d, δ[i]? = some (some d) ∧ Q d M
def zC (d : D) : ZE := fun _ M Q => Q d M
def zOp (r : ZR2) (za zb : ZE) : ZE := fun δ M Q => za δ M fun d M1 => zb δ M1 fun e M2 => r d e M2 Q
def zUn (r : ZR1) (za : ZE) : ZE := fun δ M Q => za δ M fun d M1 => r d M1 Q
def zNil : ZA := fun _ M Q => Q [] M
def zCons (za : ZE) (zr : ZA) : ZA := fun δ M Q => za δ M fun d M1 => zr δ M1 fun ds M2 => Q (d :: ds) M2
def zTup (za : ZA) : ZE := fun δ M Q => za δ M fun ds M1 => ds.length ≤ sizeLine ∧ Q (.tup ds) M1
/-- a list that is never changed -/
def zLst (za : ZA) : ZE := fun δ M Q => za δ M fun ds M1 => ds.length ≤ sizeLine ∧ Q (.lst ds) M1
/-- a list that may be changed -/
def zLstM (za : ZA) : ZE := fun δ M Q => za δ M fun ds M1 => ds.length ≤ sizeLine ∧ ∀ p, M1 p = none → Q (.v (.ref p)) (mput M1 p (.lst ds))
def zCB (r : ZRA) (za : ZA) : ZE := fun δ M Q => za δ M fun ds M1 => r ds M1 Q
def bT (z : ZE) : ZT := fun δ M Q => z δ M fun d M1 => match d with | .v (.bl b) => Q b M1 | _ => False
def zAnd (z w : ZT) : ZT := fun δ M Q => z δ M fun b M1 => if b = true then w δ M1 Q else Q false M1
def zOr (z w : ZT) : ZT := fun δ M Q => z δ M fun b M1 => if b = true then Q true M1 else w δ M1 Q
def zNot (z : ZT) : ZT := fun δ M Q => z δ M fun b M1 => Q (!b) M1
def zAndV (z w : ZE) : ZE := fun δ M Q => z δ M fun d M1 => match d with | .v (.bl true) => w δ M1 Q | .v (.bl false) => Q (.v (.bl false)) M1 | _ => False
def zOrV (z w : ZE) : ZE := fun δ M Q => z δ M fun d M1 => match d with | .v (.bl true) => Q (.v (.bl true)) M1 | .v (.bl false) => w δ M1 Q | _ => False
def zNotV (z : ZE) : ZE := fun δ M Q => z δ M fun d M1 => match d with | .v (.bl b) => Q (.v (.bl (!b))) M1 | _ => False
def zIf (z : ZT) (a b : ZE) : ZE := fun δ M Q => z δ M fun c M1 => if c = true then a δ M1 Q else b δ M1 Q
def zChain (r r' : ZR2) (a b c : ZE) : ZE := fun δ M Q => a δ M fun d M1 => b δ M1 fun e M2 => r d e M2 fun k M3 =>
  match k with | .v (.bl true) => c δ M3 fun f M4 => r' e f M4 Q | .v (.bl false) => Q (.v (.bl false)) M3 | _ => False
section
variable {K : PySem.W.Frag} {w0 : W3} {t ta tb tc : TE} {z za zb zc : ZE} {tt tu : TT} {zt zu : ZT} {aa : TA} {za' : ZA}
theorem le_var {i : Nat} : LE K w0 (tVar i) (zVar i) := fun w σ δ Qz Q _ s rs c h => by
  obtain ⟨d, e, q⟩ := h
  obtain ⟨x, e1, r⟩ := rs.get i d e
  exact ⟨x, e1, c.go s r q⟩
theorem le_c {x : V} : LE K w0 (tC x) (zC (.v x)) := fun w σ δ Qz Q _ s rs c h => c.go s (.v x) h
/-- a constant of the written part that is deep data -/
theorem le_cD {x : V} {d : D} (hd : ∀ G, Rep K G d x) : LE K w0 (tC x) (zC d) := fun w σ δ Qz Q _ s rs c h => c.go s (hd w.F) h
theorem le_op {r : R2} {rz : ZR2} (hr : LR2 K r rz) (ha : LE K w0 ta za) (hb : LE K w0 tb zb) : LE K w0 (tOp r ta tb) (zOp rz za zb) := fun w σ δ Qz Q l s rs c h =>
  ha w σ δ _ _ l s rs (fun w1 d x l1 s1 r1 h1 => hb w1 σ δ _ _ (l.tr l1) s1 (rs.le l1.le) (fun w2 e y l2 s2 r2 h2 =>
    hr w2 x y d e Qz Q s2 (r1.le l2.le) r2 ((c.le l1).le l2) h2) h1) h
theorem le_un {r : V → Hp → VK → Prop} {rz : ZR1} (hr : LR1 K r rz) (ha : LE K w0 ta za) : LE K w0 (tUn r ta) (zUn rz za) := fun w σ δ Qz Q l s rs c h =>
  ha w σ δ _ _ l s rs (fun w1 d x l1 s1 r1 h1 => hr w1 x d Qz Q s1 r1 (c.le l1) h1) h
theorem la_nil : LA K w0 tNil zNil := fun w σ δ Qz Q l s rs c h => c w [] [] (Nx.rf w) s .nil h
theorem la_cons (ha : LE K w0 ta za) (hr : LA K w0 aa za') : LA K w0 (tCons ta aa) (zCons za za') := fun w σ δ Qz Q l s rs c h =>
  ha w σ δ _ _ l s rs (fun w1 d x l1 s1 r1 h1 => hr w1 σ δ _ _ (l.tr l1) s1 (rs.le l1.le) (fun w2 ds xs l2 s2 r2 h2 =>
    c w2 _ _ (l1.tr l2) s2 (.cons (r1.le l2.le) r2) h2) h1) h
theorem le_tup (ha : LA K w0 aa za') : LE K w0 (tTup aa) (zTup za') := fun w σ δ Qz Q l s rs c h =>
  ha w σ δ _ _ l s rs (fun w1 ds xs l1 s1 r1 h1 => ⟨by rw [← r1.len]; exact h1.1, fun p hp =>
    (c.le l1).new s1 hp (.tup upd_same (r1.le (Le.put (s1.nF hp)))) h1.2⟩) h
theorem le_lst (ha : LA K w0 aa za') : LE K w0 (tLst aa) (zLst za') := fun w σ δ Qz Q l s rs c h =>
  ha w σ δ _ _ l s rs (fun w1 ds xs l1 s1 r1 h1 => ⟨by rw [← r1.len]; exact h1.1, fun p hp =>
    (c.le l1).new s1 hp (.lst upd_same (r1.le (Le.put (s1.nF hp)))) h1.2⟩) h
theorem le_lstM (ha : LA K w0 aa za') : LE K w0 (tLst aa) (zLstM za') := fun w σ δ Qz Q l s rs c h =>
  ha w σ δ _ _ l s rs (fun w1 ds xs l1 s1 r1 h1 => ⟨by rw [← r1.len]; exact h1.1, fun p hp =>
    (c.le l1).alloc s1 hp (.lst r1) (h1.2 p (s1.nM hp))⟩) h
theorem le_cb {r : List V → Hp → VK → Prop} {rz : ZRA} (hr : LRA K r rz) (ha : LA K w0 aa za') : LE K w0 (tCB r aa) (zCB rz za') := fun w σ δ Qz Q l s rs c h =>
  ha w σ δ _ _ l s rs (fun w1 d x l1 s1 r1 h1 => hr w1 x d Qz Q s1 r1 (c.le l1) h1) h
theorem rep_bl {G : Hp} {b : Bool} {x : V} (r : Rep K G (.v (.bl b)) x) : x = .bl b := r.v_inv
theorem bl_of {d : D} {M : MS} {Q : Bool → MS → Prop} (h : match d with | .v (.bl b) => Q b M | _ => False) : ∃ b, d = .v (.bl b) ∧ Q b M := by
  split at h
  · exact ⟨_, rfl, h⟩
  · exact h.elim
theorem lt_test (ha : LE K w0 ta za) : LT K w0 (tTest ta) (bT za) := fun w σ δ Qz Q l s rs c h =>
  ha w σ δ _ _ l s rs (fun w1 d x l1 s1 r1 h1 => by
    obtain ⟨b, rfl, q⟩ := bl_of h1
    exact ⟨b, r1.v_inv, c _ _ l1 s1 q⟩) h
theorem lt_B (ha : LE K w0 ta za) : LT K w0 (tB ta) (bT za) := fun w σ δ Qz Q l s rs c h =>
  ha w σ δ _ _ l s rs (fun w1 d x l1 s1 r1 h1 => by
    obtain ⟨b, rfl, q⟩ := bl_of h1
    exact ⟨b, r1.v_inv, c _ _ l1 s1 q⟩) h
theorem lt_and (ha : LT K w0 tt zt) (hb : LT K w0 tu zu) : LT K w0 (tAnd tt tu) (zAnd zt zu) := fun w σ δ Qz Q l s rs c h =>
  ha w σ δ _ _ l s rs (fun w1 b l1 s1 h1 => by
    cases b with
    | true => exact hb w1 σ δ Qz Q (l.tr l1) s1 (rs.le l1.le) (c.le l1) h1
    | false => exact c _ _ l1 s1 h1) h
theorem lt_or (ha : LT K w0 tt zt) (hb : LT K w0 tu zu) : LT K w0 (tOr tt tu) (zOr zt zu) := fun w σ δ Qz Q l s rs c h =>
  ha w σ δ _ _ l s rs (fun w1 b l1 s1 h1 => by
    cases b with
    | true => exact c _ _ l1 s1 h1
    | false => exact hb w1 σ δ Qz Q (l.tr l1) s1 (rs.le l1.le) (c.le l1) h1) h
theorem lt_not (ha : LT K w0 tt zt) : LT K w0 (tNot tt) (zNot zt) := fun w σ δ Qz Q l s rs c h =>
  ha w σ δ _ _ l s rs (fun w1 b l1 s1 h1 => c _ _ l1 s1 h1) h
theorem le_andV (ha : LE K w0 ta za) (hb : LE K w0 tb zb) : LE K w0 (tAndV ta tb) (zAndV za zb) := fun w σ δ Qz Q l s rs c h =>
  ha w σ δ _ _ l s rs (fun w1 d x l1 s1 r1 h1 => by
    revert h1
    split
    · intro h1
      exact ⟨true, r1.v_inv, hb w1 σ δ Qz Q (l.tr l1) s1 (rs.le l1.le) (c.le l1) h1⟩
    · intro h1
      exact ⟨false, r1.v_inv, (c.le l1).go s1 (.v _) h1⟩
    · exact fun h1 => h1.elim) h
theorem le_orV (ha : LE K w0 ta za) (hb : LE K w0 tb zb) : LE K w0 (tOrV ta tb) (zOrV za zb) := fun w σ δ Qz Q l s rs c h =>
  ha w σ δ _ _ l s rs (fun w1 d x l1 s1 r1 h1 => by
    revert h1
    split
    · intro h1
      exact ⟨true, r1.v_inv, (c.le l1).go s1 (.v _) h1⟩
    · intro h1
      exact ⟨false, r1.v_inv, hb w1 σ δ Qz Q (l.tr l1) s1 (rs.le l1.le) (c.le l1) h1⟩
    · exact fun h1 => h1.elim) h
theorem le_notV (ha : LE K w0 ta za) : LE K w0 (tNotV ta) (zNotV za) := fun w σ δ Qz Q l s rs c h =>
  ha w σ δ _ _ l s rs (fun w1 d x l1 s1 r1 h1 => by
    revert h1
    split
    · intro h1
      exact ⟨_, r1.v_inv, (c.le l1).go s1 (.v _) h1⟩
    · exact fun h1 => h1.elim) h
theorem le_if (hc : LT K w0 tt zt) (ha : LE K w0 ta za) (hb : LE K w0 tb zb) : LE K w0 (tIf tt ta tb) (zIf zt za zb) := fun w σ δ Qz Q l s rs c h =>
  hc w σ δ _ _ l s rs (fun w1 b l1 s1 h1 => by
    cases b with
    | true => exact ha w1 σ δ Qz Q (l.tr l1) s1 (rs.le l1.le) (c.le l1) h1
    | false => exact hb w1 σ δ Qz Q (l.tr l1) s1 (rs.le l1.le) (c.le l1) h1) h
theorem le_chain {r r' : R2} {rz rz' : ZR2} (hr : LR2 K r rz) (hr' : LR2 K r' rz') (ha : LE K w0 ta za) (hb : LE K w0 tb zb) (hc : LE K w0 tc zc) : LE K w0 (tChain r r' ta tb tc) (zChain rz rz' za zb zc) := fun w σ δ Qz Q l s rs c h =>
  ha w σ δ _ _ l s rs (fun w1 d x l1 s1 r1 h1 => hb w1 σ δ _ _ (l.tr l1) s1 (rs.le l1.le) (fun w2 e y l2 s2 r2 h2 =>
    hr w2 x y d e _ _ s2 (r1.le l2.le) r2 (fun w3 k kx l3 s3 r3 h3 => by
      revert h3
      split
      · intro h3
        exact ⟨true, r3.v_inv, hc w3 σ δ _ _ ((l.tr l1).tr (l2.tr l3)) s3 (rs.le (l1.tr (l2.tr l3)).le) (fun w4 f w l4 s4 r4 h4 =>
          hr' w4 y w e f Qz Q s4 (r2.le (l3.tr l4).le) r4 (((c.le l1).le l2).le (l3.tr l4)) h4) h3⟩
      · intro h3
        exact ⟨false, r3.v_inv, ((c.le l1).le l2).le l3 |>.go s3 (.v _) h3⟩
      · exact fun h3 => h3.elim) h2) h1) h
end

/-! ### statements -/
def zNext : ZS := fun D δ M => D.nx δ M
def zSeq (z w : ZS) : ZS := fun D δ M => z { D with nx := w D } δ M
def zBreak : ZS := fun D δ M => D.bk δ M
def zCont : ZS := fun D δ M => D.ct δ M
def zDrop (z : ZE) : ZS := fun D δ M => z δ M fun _ M1 => D.nx δ M1
def zRet (z : ZE) : ZS := fun D δ M => z δ M D.rt
def zRetN : ZS := fun D _ M => D.rt (.v .non) M
def zIfS (c : ZT) (z w : ZS) : ZS := fun D δ M => c δ M fun b M1 => if b = true then z D δ M1 else w D δ M1
def zNever : ZS := fun _ _ _ => False
abbrev ZG := D → ZSt → MS → (ZSt → MS → Prop) → Prop
abbrev ZGs := List D → ZSt → MS → (ZSt → MS → Prop) → Prop
def zgName (i : Nat) : ZG := fun d δ M Q => Q (δ.set i (some d)) M
def zgNil : ZGs := fun ds δ M Q => match ds with | [] => Q δ M | _ => False
def zgCons (g : ZG) (gs : ZGs) : ZGs := fun ds δ M Q => match ds with | d :: r => g d δ M fun δ1 M1 => gs r δ1 M1 Q | [] => False
def zgTup (n : Nat) (gs : ZGs) : ZG := fun d δ M Q => match d with | .tup ds => ds.length = n ∧ gs ds δ M Q | _ => False
def zAsg (z : ZE) (g : ZG) : ZS := fun D δ M => z δ M fun d M1 => g d δ M1 D.nx
def zAug (i : Nat) (z : ZE) (r : ZR2) : ZS := fun D δ M => ∃ d, δ[i]? = some (some d) ∧ z δ M fun e M1 => r d e M1 fun f M2 => D.nx (δ.set i (some f)) M2
def zPar (i j : Nat) (za : ZA) : ZS := fun D δ M => za δ M fun ds M1 => match ds with | [d, e] => D.nx ((δ.set i (some d)).set j (some e)) M1 | _ => False
section
variable (K : PySem.W.Frag) (w0 : W3)
def LG (t : TG) (z : ZG) : Prop := ∀ w σ δ x d Nz N, Nx w0 w → Ok K w → RepS K w.F δ σ → Rep K w.F d x → CtS K w Nz N → z d δ w.M Nz → t x σ w.H N
def LGs (t : TGs) (z : ZGs) : Prop := ∀ w σ δ xs ds Nz N, Nx w0 w → Ok K w → RepS K w.F δ σ → Reps K w.F ds xs → CtS K w Nz N → z ds δ w.M Nz → t xs σ w.H N
end
section
variable {K : PySem.W.Frag} {w0 : W3} {t u : TS} {z zw : ZS} {te : TE} {ze : ZE} {tt : TT} {zt : ZT} {aa : TA} {za' : ZA} {g : TG} {gz : ZG} {gs : TGs} {gzs : ZGs}
theorem ls_next : LS K w0 tNext zNext := fun w σ δ Dz D l s rs c h => c.nx w δ σ (Nx.rf w) s rs h
theorem ls_break : LS K w0 tBreak zBreak := fun w σ δ Dz D l s rs c h => c.bk w δ σ (Nx.rf w) s rs h
theorem ls_cont : LS K w0 tCont zCont := fun w σ δ Dz D l s rs c h => c.ct w δ σ (Nx.rf w) s rs h
theorem ls_seq (h1 : LS K w0 t z) (h2 : LS K w0 u zw) : LS K w0 (tSeq t u) (zSeq z zw) := fun w σ δ Dz D l s rs c h =>
  h1 w σ δ { Dz with nx := zw Dz } { D with nx := u D } l s rs ⟨fun w1 δ1 σ1 l1 s1 rs1 h3 => h2 w1 σ1 δ1 Dz D (l.tr l1) s1 rs1 (c.le l1) h3, c.rt, c.bk, c.ct⟩ h
theorem ls_drop (h1 : LE K w0 te ze) : LS K w0 (tDrop te) (zDrop ze) := fun w σ δ Dz D l s rs c h =>
  h1 w σ δ _ _ l s rs (fun w1 d x l1 s1 r1 h2 => c.nx w1 δ σ l1 s1 (rs.le l1.le) h2) h
theorem ls_ret (h1 : LE K w0 te ze) : LS K w0 (tRet te) (zRet ze) := fun w σ δ Dz D l s rs c h => h1 w σ δ _ _ l s rs c.rt h
theorem ls_retN : LS K w0 tRetN zRetN := fun w σ δ Dz D l s rs c h => c.rt.go s (.v _) h
theorem ls_if (hc : LT K w0 tt zt) (h1 : LS K w0 t z) (h2 : LS K w0 u zw) : LS K w0 (tIfS tt t u) (zIfS zt z zw) := fun w σ δ Dz D l s rs c h =>
  hc w σ δ _ _ l s rs (fun w1 b l1 s1 h3 => by
    cases b with
    | true => exact h1 w1 σ δ Dz D (l.tr l1) s1 (rs.le l1.le) (c.le l1) h3
    | false => exact h2 w1 σ δ Dz D (l.tr l1) s1 (rs.le l1.le) (c.le l1) h3) h
theorem ls_never : LS K w0 tNever zNever := fun w σ δ Dz D l s rs c h => h
theorem lg_name {i : Nat} : LG K w0 (gName i) (zgName i) := fun w σ δ x d Nz N l s rs r c h => c w _ _ (Nx.rf w) s (rs.set r i) h
theorem lgs_nil : LGs K w0 gNil zgNil := fun w σ δ xs ds Nz N l s rs r c h => by
  cases ds with
  | nil =>
    cases r
    exact ⟨rfl, c w _ _ (Nx.rf w) s rs h⟩
  | cons d ds => exact h.elim
theorem lgs_cons (h1 : LG K w0 g gz) (h2 : LGs K w0 gs gzs) : LGs K w0 (gCons g gs) (zgCons gz gzs) := fun w σ δ xs ds Nz N l s rs r c h => by
  cases ds with
  | nil => exact h.elim
  | cons d ds =>
    cases r with
    | cons a r => exact ⟨_, _, rfl, h1 w σ δ _ d _ _ l s rs a (fun w1 δ1 σ1 l1 s1 rs1 h3 => h2 w1 σ1 δ1 _ ds _ _ (l.tr l1) s1 rs1 (r.le l1.le) (c.le l1) h3) h⟩
theorem lg_tup {n : Nat} (h1 : LGs K w0 gs gzs) : LG K w0 (gTup K n gs) (zgTup n gzs) := fun w σ δ x d Nz N l s rs r c h => by
  cases d with
  | tup ds =>
    obtain ⟨a, xs, rfl, q, r'⟩ := r.tup_inv
    exact ⟨a, xs, rfl, sqT_le s.sub q, by rw [← r'.len]; exact h.1, h1 w σ δ xs ds Nz N l s rs r' c h.2⟩
  | _ => exact h.elim
theorem ls_asg (h1 : LE K w0 te ze) (h2 : LG K w0 g gz) : LS K w0 (tAsg te g) (zAsg ze gz) := fun w σ δ Dz D l s rs c h =>
  h1 w σ δ _ _ l s rs (fun w1 d x l1 s1 r1 h3 => h2 w1 σ δ x d _ _ (l.tr l1) s1 (rs.le l1.le) r1 (c.nx.le l1) h3) h
theorem ls_aug {i : Nat} {r : TIp} {rz : ZR2} (h1 : LE K w0 te ze) (hr : LR2 K r rz) : LS K w0 (tAug i te r) (zAug i ze rz) := fun w σ δ Dz D l s rs c h => by
  obtain ⟨d, e, h⟩ := h
  obtain ⟨x, e1, rd⟩ := rs.get i d e
  exact ⟨x, e1, h1 w σ δ _ _ l s rs (fun w1 f y l1 s1 r1 h3 => hr w1 x y d f _ _ s1 (rd.le l1.le) r1 (fun w2 k kx l2 s2 r2 h4 =>
    c.nx w2 _ _ (l1.tr l2) s2 ((rs.le (l1.tr l2).le).set r2 i) h4) h3) h⟩
theorem ls_par {i j : Nat} (h1 : LA K w0 aa za') : LS K w0 (tPar i j aa) (zPar i j za') := fun w σ δ Dz D l s rs c h =>
  h1 w σ δ _ _ l s rs (fun w1 ds xs l1 s1 r1 h3 => by
    match ds, r1, h3 with
    | [d, e], .cons a (.cons b .nil), h3 => exact ⟨_, _, rfl, c.nx w1 _ _ l1 s1 (((rs.le l1.le).set a i).set b j) h3⟩) h
end

/-! ### while -/
def zWhile (c : ZT) (z : ZS) : ZS := fun D δ M => ∃ W : Nat → ZSt → MS → Prop, (∃ m, W m δ M) ∧ ∀ m δ M, W m δ M →
  c δ M fun b M1 => if b = true then z { D with nx := fun δ2 M2 => ∃ m', m' < m ∧ W m' δ2 M2, ct := fun δ2 M2 => ∃ m', m' < m ∧ W m' δ2 M2, bk := D.nx } δ M1 else D.nx δ M1
theorem ls_while {K : PySem.W.Frag} {w0 : W3} {tt : TT} {zt : ZT} {t : TS} {z : ZS} (hc : LT K w0 tt zt) (hb : LS K w0 t z) : LS K w0 (tWhile tt t) (zWhile zt z) := fun w σ δ Dz D l s rs c h => by
  obtain ⟨W, ⟨m, h0⟩, hW⟩ := h
  refine ⟨fun m σ' H' => ∃ u δ', u.H = H' ∧ Nx w u ∧ Ok K u ∧ RepS K u.F δ' σ' ∧ W m δ' u.M, ⟨m, w, δ, rfl, Nx.rf w, s, rs, h0⟩, ?_⟩
  rintro n σ1 H1 ⟨w1, δ1, rfl, l1, s1, rs1, h1⟩
  refine hc w1 σ1 δ1 _ _ (l.tr l1) s1 rs1 (fun w2 b l2 s2 h2 => ?_) (hW n δ1 w1.M h1)
  cases b with
  | false => exact c.nx w2 _ _ (l1.tr l2) s2 (rs1.le l2.le) h2
  | true =>
    refine ⟨fun σ' H' => ∃ m', m' < n ∧ ∃ u δ', u.H = H' ∧ Nx w u ∧ Ok K u ∧ RepS K u.F δ' σ' ∧ W m' δ' u.M, fun σ' H' w => w, ?_⟩
    have cn : CtS K w2 (fun δ2 M2 => ∃ m', m' < n ∧ W m' δ2 M2) (fun σ' H' => ∃ m', m' < n ∧ ∃ u δ', u.H = H' ∧ Nx w u ∧ Ok K u ∧ RepS K u.F δ' σ' ∧ W m' δ' u.M) := fun u δ3 σ3 l3 s3 rs3 ⟨m', lt, w3⟩ =>
      ⟨m', lt, u, δ3, rfl, (l1.tr l2).tr l3, s3, rs3, w3⟩
    exact hb w2 σ1 δ1 { Dz with nx := fun δ2 M2 => ∃ m', m' < n ∧ W m' δ2 M2, ct := fun δ2 M2 => ∃ m', m' < n ∧ W m' δ2 M2, bk := Dz.nx } _ ((l.tr l1).tr l2) s2 (rs1.le l2.le) ⟨cn, c.rt.le (l1.tr l2), c.nx.le (l1.tr l2), cn⟩ h2
end Zl
namespace Zl
open PySem PySem.Spec PyProof.Rows L2

/-! ### enumerate(tuple) -/
theorem meets_enumT {v : Value} {ob : Obj} {P : Heap → Prop} (B : Begins v ob P) :
    Meets (Builtin.«enumerate.__new__» ⟨[.type "enumerate", v], []⟩) (fun _ R s => P s.heap ∧
      R (.ok (.ret (.ref (s.heap.push ob).objs.size))) { s with heap := (s.heap.push ob).push { cls := .type "enumerate", data := .fields #[.none, .bool false, .ref s.heap.objs.size, rawInt 0, .none, .none] } }) :=
  .of_wp fun prog w A R s hh => by
    obtain ⟨hp, gg, dd, tk, osx⟩ := s
    obtain ⟨p1, hh⟩ := hh
    have sube := sub_enumerate
    have qq : ∀ {A' : Around} {E : Value → Shared → Prop} {Q : Value → Shared → Prop}, Q (.ref hp.objs.size) ⟨hp.push ob, gg, dd, tk, osx⟩ → wpAny (model prog w) A' (pyIter v) Q E ⟨hp, gg, dd, tk, osx⟩ :=
      fun q => B.iter prog w _ _ ⟨hp, gg, dd, tk, osx⟩ _ p1 q
    wp_walk using qq
    refine wpAny_stack_any fun st => wpAny_pure ?_
    split
    · rename_i c _ _ _ _ _
      cases (c == Value.type "enumerate")
      · wp_walk using qq
        exact ⟨_, rfl, hh⟩
      · wp_walk using qq
        exact ⟨_, rfl, hh⟩
    · wp_walk using qq
      exact ⟨_, rfl, hh⟩
theorem call_enumB {prog : Program} {w : World} {A : Around} {E : Value → Shared → Prop} {s : Shared} {v : Value} {ob : Obj} {P : Heap → Prop} {Q : Value → Shared → Prop} (B : Begins v ob P) (p1 : P s.heap)
    (hq : ∀ h', IsEnum h' (s.heap.objs.size + 1) s.heap.objs.size 0 .none → h'.get? s.heap.objs.size = some ob → h'.objs.size = s.heap.objs.size + 2 →
      (∀ b u, s.heap.get? b = some u → h'.get? b = some u) → Q (.ref (s.heap.objs.size + 1)) { s with heap := h' }) :
    wpAny (model prog w) A (call (.type "enumerate") [v]) Q E s := by
  refine callType_new F.called_enumerate (by decide) (F.typeCall_enumerate_1 _) (F.newCall_enumerate_1 _) (fun obj => F.args_object_init_2 obj _) F.entry_enumerate_new (meets_enumT B) ⟨p1, ?_⟩
  have sz : (s.heap.push ob).objs.size = s.heap.objs.size + 1 := Heap.size_push ..
  show _ ∧ _
  rw [sz]
  have en : IsEnum ((s.heap.push ob).push { cls := .type "enumerate", data := .fields #[.none, .bool false, .ref s.heap.objs.size, rawInt 0, .none, .none] }) (s.heap.objs.size + 1) s.heap.objs.size 0 .none := by
    have e1 := Heap.get?_push_size (s.heap.push ob) (o := { cls := .type "enumerate", data := .fields #[.none, .bool false, .ref s.heap.objs.size, rawInt 0, .none, .none] }) rfl
    rw [sz] at e1
    exact e1
  exact ⟨⟨_, en, rfl⟩, hq _ en (Heap.get?_push_of_some _ (Heap.get?_push_size _ B.free)) (by rw [Heap.size_push, sz]) fun b u x => Heap.get?_push_of_some _ (Heap.get?_push_of_some _ x)⟩
def IteT (K : PySem.W.Frag) (a : Addr) : It :=
  ⟨fun i H => ∃ (xs : List V) (x : V), SqT K H a xs ∧ xs[i]? = some x,
   fun i H v H' => ∃ T x, v = .ref T ∧ H T = none ∧ H' = upd H T (.tup [.int (i : Nat), x]) ∧ ∀ xs, SqT K H a xs → xs[i]? = some x,
   fun i H => ∃ xs : List V, SqT K H a xs ∧ xs.length = i⟩
theorem turn_enumT {P : Program} {w : World} {K : PySem.W.Frag} {elts : List Expr} {kk : Nat} {tpos : Pos} (a e it : Addr) (hne : e ≠ it) (hai : a ≠ it) (hea : e ≠ a) :
    Turn P w K (.Tuple elts kk tpos) (IteT K a) [e, it] e (fun i h => (∃ old, IsEnum h e it ((i : Nat) : Int) old) ∧ h.IsTupleIter it a i) where
  mem := by simp
  obj := fun i h st b hb => by
    obtain ⟨⟨old, he⟩, ⟨o, ho, hc, hd⟩⟩ := st
    rcases (by simpa using hb : b = e ∨ b = it) with q | q
    · subst q
      exact ⟨_, he, fun v q => nomatch q⟩
    · subst q
      exact ⟨o, ho, fun v q => by rw [hd] at q; cases q⟩
  keep := fun i h h' st k => by
    obtain ⟨⟨old, he⟩, hi⟩ := st
    exact ⟨⟨old, k e (by simp) _ he⟩, hi.at fun o q => k it (by simp) o q⟩
  item := by
    intro X hP hw hK hc i pins s σ H E I hf st hg
    subst hP hw hK
    obtain ⟨⟨old, he⟩, hit⟩ := st
    obtain ⟨xs, x, hq, hx⟩ := hg
    obtain ⟨its, rv, p, hz⟩ := I.tuple hq
    obtain ⟨u, hu, ru⟩ := rv.get hx
    have li : i < its.toArray.size := by
      rw [List.size_toArray]
      exact (List.getElem?_eq_some_iff.mp hu).1
    have Dr := Draws.tuple (prog := X.prog) (w := X.w) (A := X.A.in1) (show X.A.in1.handled = none from I.ok.hd hc) it a hai its.toArray
    have lt1 : e < s.heap.objs.size := Heap.lt_size he
    have lt2 : it < s.heap.objs.size := by
      obtain ⟨_, q, _⟩ := hit
      exact Heap.lt_size q
    refine wpAny_pyNext_enum_itemD Dr he ⟨hit, p⟩ li hne (fun q => ?_) fun x' h' tk hp1 ho hst hT hsz hk => ?_
    · rcases (by simpa using q : e = it ∨ e = a) with q | q
      · exact hne q
      · exact hea q
    · have ex : x' = u := by
        rw [List.getElem?_toArray] at hp1
        exact Option.some.inj (hp1.symm.trans hu)
      subst ex
      refine ⟨_, rfl, wpAny_letOwnedTupleGo_enum (s := { s with heap := h', toks := tk + 1 }) ho fun h'' he' sb => ?_⟩
      have hT2 : h''.get? s.heap.objs.size = some { cls := .type "tuple", data := .seq #[.int i tk, x'] } := (sb.2 _ (Nat.ne_of_gt lt1)).trans hT
      have nw : ObjOk X.prog X.w (upd H s.heap.objs.size (.tup [.int (i : Nat), x])) h'' s.heap.objs.size (.tup [.int (i : Nat), x]) :=
        ⟨(by show 2 ≤ sizeLine; decide), [.int i tk, x'], .cons ⟨_, rfl⟩ (.cons ru .nil), ⟨_, hT2, rfl, _, rfl⟩⟩
      have I1 : Inv X pins σ (upd H s.heap.objs.size (.tup [.int (i : Nat), x])) { s with heap := h'', toks := tk + 1 } :=
        I.turnedNew (ch := [e, it]) (fun b ob hb q => (sb.2 b (fun z => hb (by simp [z]))).trans (hk b ob (fun z => hb (by simp [z])) (fun z => hb (by simp [z])) q)) hf (Nat.le_refl _) nw
      refine ⟨.ref s.heap.objs.size, _, I1, rfl, ⟨_, x, rfl, I.hok.fresh (Nat.le_refl _), rfl, fun ys hy => by rw [I.tuple_inj hy hq]; exact hx⟩, ⟨⟨x', ?_⟩, hst.1.at fun o q => (sb.2 it (Ne.symm hne)).trans q⟩, fun b hb => ?_⟩
      · have e1 : ((i + 1 : Nat) : Int) = (i : Int) + 1 := by omega
        rw [e1]
        exact he'
      · have lb : b < s.heap.objs.size := by
          rcases (by simpa using hb : b = e ∨ b = it) with q | q
          · rw [q]
            exact lt1
          · rw [q]
            exact lt2
        rw [upd_ne (Nat.ne_of_lt lb)]
        exact (hf b hb).1
  done := by
    intro X hP hw hK hc i pins s σ H E I hf st hg
    subst hP hw hK
    obtain ⟨⟨old, he⟩, hit⟩ := st
    obtain ⟨xs, hq, hx⟩ := hg
    obtain ⟨its, rv, p, hz⟩ := I.tuple hq
    obtain ⟨f0, f1, f2, f3, f4, f5⟩ := hf it (by simp)
    have hl := rv.length
    have ei : i = its.toArray.size := by
      rw [List.size_toArray]
      omega
    subst ei
    have Dr := Draws.tuple (prog := X.prog) (w := X.w) (A := X.A.in1) (show X.A.in1.handled = none from I.ok.hd hc) it a hai its.toArray
    exact wpAny_pyNext_enum_endD Dr he ⟨hit, p⟩ fun h' eb => ⟨rfl, I.turned (t' := s.toks) (fun b o hb q => eb b o hb q) f0 f1 f3 f4 f5⟩
  self := fun A i s Q E st h => let ⟨⟨_, he⟩, _⟩ := st; wpAny_pyIter_enum he h
def iEnumA (K : PySem.W.Frag) (ta : TA) : TI := fun σ H R => ta σ H fun vs H1 => ∃ a xs, vs = [.ref a] ∧ ((SqL K H1 a xs ∧ R (Ite K a) H1) ∨ (SqT K H1 a xs ∧ R (IteT K a) H1))
theorem pi_enumA {X : Cx} {e : Expr} {ta : TA} {p pos tpos : Pos} {elts : List Expr} {kk : Nat} (hg : Gl X "enumerate") (hm : X.mg "enumerate" = none) (ha : PA X [e] ta) (hs : starEach [e] X.env = [(false, eval e X.env)] := by rfl) :
    PI X (.Tuple elts kk tpos) (.Call (.Name "enumerate" p) [e] [] pos) (iEnumA X.K ta) := by
  refine ⟨fun pins s σ H R I hh => ?_⟩
  refine Call_ (ld_blt I hg hm boot_enumerate (PyProof.Rows.callWith_type1 (thn (ha.run pos pins s σ H _ I hh) fun us s1 ⟨vs, H1, I1, r1, q1⟩ => ?_) hs rfl))
  obtain ⟨a, xs, ex, q1⟩ := q1
  subst ex
  cases r1 with
  | cons r rr =>
    cases rr
    cases r
    have fr : ∀ c, c ∈ [s1.heap.objs.size + 1, s1.heap.objs.size] → FpOk X pins H1 c := fun c hc => by
      have le : s1.heap.objs.size ≤ c := by
        rcases (by simpa using hc : c = s1.heap.objs.size + 1 ∨ c = s1.heap.objs.size) with q | q
        · subst q
          exact Nat.le_add_right _ _
        · subst q
          exact Nat.le_refl _
      exact I1.fpOk le (I1.hok.fresh le)
    rcases q1 with ⟨hq, q⟩ | ⟨hq, q⟩
    · obtain ⟨its, rv, p', hz⟩ := I1.list hq
      refine call_enumerate_list p'.isList fun h' he hit hsz hk => wpAny_pyIter_enum he ?_
      have I2 : Inv X pins σ H1 { s1 with heap := h' } := I1.kept (t' := s1.toks) hk
      exact ⟨s1.heap.objs.size + 1, [s1.heap.objs.size + 1, s1.heap.objs.size], _, _, H1, rfl, I2, turn_enum a (s1.heap.objs.size + 1) s1.heap.objs.size, ⟨⟨.none, he⟩, hit, Nat.succ_ne_self _⟩, fr, q⟩
    · obtain ⟨its, rv, p', hz⟩ := I1.tuple hq
      have la : a < s1.heap.objs.size := by
        obtain ⟨o, e1, _⟩ := id p'
        exact Heap.lt_size e1
      refine call_enumB (begins_tuple a its.toArray) (show s1.heap.IsTuple a its.toArray from p') fun h' he hit hsz hk => wpAny_pyIter_enum he ?_
      have I2 : Inv X pins σ H1 { s1 with heap := h' } := I1.kept (t' := s1.toks) hk
      exact ⟨s1.heap.objs.size + 1, [s1.heap.objs.size + 1, s1.heap.objs.size], _, _, H1, rfl, I2, turn_enumT a (s1.heap.objs.size + 1) s1.heap.objs.size (Nat.succ_ne_self _) (Nat.ne_of_lt la) (Nat.ne_of_gt (Nat.lt_succ_of_lt la)), ⟨⟨.none, he⟩, ⟨_, hit, rfl, rfl⟩⟩, fr, q⟩
/-! ### a list or a tuple walked -/
def iSeq (K : PySem.W.Frag) (te : TE) : TI := fun σ H R => te σ H fun x H1 => ∃ a, x = .ref a ∧ (((∃ xs, SqL K H1 a xs) ∧ R (Itl K a) H1) ∨ ((∃ xs, SqT K H1 a xs) ∧ R (Itt K a) H1))
theorem pi_seq {X : Cx} {tg e : Expr} {te : TE} (he : PE X e te) : PI X tg e (iSeq X.K te) := by
  refine ⟨fun pins s σ H R I hh => ?_⟩
  refine thn (he.run pins s σ H _ I hh) fun v s1 ⟨x, H1, I1, r1, q1⟩ => ?_
  obtain ⟨a, e1, q1⟩ := q1
  subst e1
  cases r1
  have fr : ∀ c, c ∈ [s1.heap.objs.size] → FpOk X pins H1 c := fun c hc => by
    have q : c = s1.heap.objs.size := by simpa using hc
    subst q
    exact I1.fpOk (Nat.le_refl _) (I1.hok.fresh (Nat.le_refl _))
  rcases q1 with ⟨⟨xs, hq⟩, q⟩ | ⟨⟨xs, hq⟩, q⟩
  · obtain ⟨its, rv, p, hz⟩ := I1.list hq
    exact wpAny_pyIter_list p.isList ⟨s1.heap.objs.size, [s1.heap.objs.size], _, _, H1, rfl, I1.kept (t' := s1.toks) fun b o e => Heap.get?_push_of_some _ e, turn_list a _, ⟨_, Heap.get?_push_size _ rfl, rfl, rfl⟩, fr, q⟩
  · obtain ⟨its, rv, p, hz⟩ := I1.tuple hq
    exact wpAny_pyIter_tuple (show s1.heap.IsTuple a its.toArray from p) ⟨s1.heap.objs.size, [s1.heap.objs.size], _, _, H1, rfl, I1.kept (t' := s1.toks) fun b o e => Heap.get?_push_of_some _ e, turn_tuple a _, ⟨_, Heap.get?_push_size _ rfl, rfl, rfl⟩, fr, q⟩
end Zl
namespace Zl
open PySem L2

/-! ### what is walked: a list of data, told ahead -/
abbrev ZI := ZSt → MS → (List D → MS → Prop) → Prop
/-- J yields just ds, whatever happens meanwhile -/
def JOk (K : PySem.W.Frag) (w : W3) (J : It) (ds : List D) : Prop := ∀ u, Nx w u → Ok K u →
  (∀ i, i < ds.length → J.go i u.H ∧ ∀ x H2, J.yld i u.H x H2 → ∃ v d, v.H = H2 ∧ v.M = u.M ∧ Nx u v ∧ Ok K v ∧ ds[i]? = some d ∧ Rep K v.F d x) ∧ J.stop ds.length u.H
def LI (K : PySem.W.Frag) (w0 : W3) (t : TI) (z : ZI) : Prop := ∀ w σ δ (Qz : List D → MS → Prop) R, Nx w0 w → Ok K w → RepS K w.F δ σ →
  (∀ u J ds, Nx w u → Ok K u → JOk K u J ds → Qz ds u.M → R J u.H) → z δ w.M Qz → t σ w.H R
def zSeqI (z : ZE) : ZI := fun δ M Q => z δ M fun d M1 => match d with | .lst ds => Q ds M1 | .rd ds => Q ds M1 | .tup ds => Q ds M1 | _ => False
/-- a list that may be changed elsewhere, but is not while it is walked -/
def zRng1 (za : ZA) : ZI := fun δ M Q => za δ M fun ds M1 => match ds with | [.v (.int j)] => -(2 ^ 62) ≤ j ∧ j < 2 ^ 62 ∧ Q ((List.range j.toNat).map fun i => .v (.int (i : Nat))) M1 | _ => False
def zRng2 (za : ZA) : ZI := fun δ M Q => za δ M fun ds M1 => match ds with
  | [.v (.int i), .v (.int j)] => (-(2 ^ 62) ≤ i ∧ i < 2 ^ 62 ∧ -(2 ^ 62) ≤ j ∧ j < 2 ^ 62) ∧ Q ((List.range (j - i).toNat).map fun k => .v (.int (i + (k : Nat)))) M1
  | _ => False
def enumD (ds : List D) : List D := (List.range ds.length).map fun i => .tup [.v (.int (i : Nat)), ds.getD i (.v .non)]
def zEnum (za : ZA) : ZI := fun δ M Q => za δ M fun ds M1 => match ds with
  | [.lst es] => Q (enumD es) M1
  | [.tup es] => Q (enumD es) M1
  | _ => False
def zipD : List D → List D → List D
  | d :: ds, e :: es => .tup [d, e] :: zipD ds es
  | _, _ => []
def zZip (za : ZA) : ZI := fun δ M Q => za δ M fun ds M1 => match ds with
  | [.lst es, .lst fs] => Q (zipD es fs) M1
  | [.tup es, .tup fs] => Q (zipD es fs) M1
  | _ => False
theorem zipD_get : ∀ (es fs : List D) (i : Nat), (zipD es fs)[i]? = (match es[i]?, fs[i]? with | some d, some e => some (.tup [d, e]) | _, _ => none)
  | [], fs, i => by
    unfold zipD
    simp
  | e :: es, [], i => by
    unfold zipD
    cases h : (e :: es)[i]? <;> simp
  | e :: es, f :: fs, i => by
    unfold zipD
    cases i with
    | zero => rfl
    | succ i =>
      rw [List.getElem?_cons_succ, List.getElem?_cons_succ, List.getElem?_cons_succ]
      exact zipD_get es fs i
theorem zipD_len (es fs : List D) : (zipD es fs).length = min es.length fs.length := by
  induction es generalizing fs with
  | nil => unfold zipD; simp
  | cons e es ih =>
    cases fs with
    | nil => unfold zipD; simp
    | cons f fs =>
      unfold zipD
      rw [List.length_cons, ih, List.length_cons, List.length_cons]
      omega
section
variable {K : PySem.W.Frag} {w0 : W3} {te : TE} {ze : ZE} {aa : TA} {za : ZA}
theorem jok_list {w : W3} {a : Addr} {xs : List V} {ds : List D} (h : SqL K w.F a xs) (r : Reps K w.F ds xs) : JOk K w (Itl K a) ds := fun u l s => by
  have hu := sqL_le s.sub (sqL_le l.le h)
  have len := r.len
  refine ⟨fun i hi => ?_, ⟨xs, hu, by omega⟩⟩
  obtain ⟨d, hd⟩ : ∃ d, ds[i]? = some d := ⟨ds[i], by simp [hi]⟩
  obtain ⟨x, hx, rx⟩ := r.get hd
  refine ⟨⟨xs, x, hu, hx⟩, fun y H2 hy => ?_⟩
  obtain ⟨rfl, hy⟩ := hy
  refine ⟨u, d, rfl, rfl, Nx.rf u, s, hd, ?_⟩
  have e := hy xs hu
  rw [hx] at e
  cases e
  exact rx.le l.le
theorem jok_tup {w : W3} {a : Addr} {xs : List V} {ds : List D} (h : SqT K w.F a xs) (r : Reps K w.F ds xs) : JOk K w (Itt K a) ds := fun u l s => by
  have hu := sqT_le s.sub (sqT_le l.le h)
  have len := r.len
  refine ⟨fun i hi => ?_, ⟨xs, hu, by omega⟩⟩
  obtain ⟨d, hd⟩ : ∃ d, ds[i]? = some d := ⟨ds[i], by simp [hi]⟩
  obtain ⟨x, hx, rx⟩ := r.get hd
  refine ⟨⟨xs, x, hu, hx⟩, fun y H2 hy => ?_⟩
  obtain ⟨rfl, hy⟩ := hy
  refine ⟨u, d, rfl, rfl, Nx.rf u, s, hd, ?_⟩
  have e := hy xs hu
  rw [hx] at e
  cases e
  exact rx.le l.le
theorem li_seq (h1 : LE K w0 te ze) : LI K w0 (iSeq K te) (zSeqI ze) := fun w σ δ Qz R l s rs c h =>
  h1 w σ δ _ _ l s rs (fun w1 d x l1 s1 r1 h2 => by
    cases d with
    | lst ds =>
      obtain ⟨a, xs, rfl, q, r⟩ := r1.lst_inv
      exact ⟨a, rfl, .inl ⟨⟨xs, sqL_le s1.sub (SqL.of q)⟩, c w1 _ ds l1 s1 (jok_list (SqL.of q) r) h2⟩⟩
    | rd ds =>
      obtain ⟨a, xs, rfl, q, r⟩ := r1.rd_inv
      exact ⟨a, rfl, .inl ⟨⟨xs, sqL_le s1.sub q⟩, c w1 _ ds l1 s1 (jok_list q r) h2⟩⟩
    | tup ds =>
      obtain ⟨a, xs, rfl, q, r⟩ := r1.tup_inv
      exact ⟨a, rfl, .inr ⟨⟨xs, sqT_le s1.sub q⟩, c w1 _ ds l1 s1 (jok_tup q r) h2⟩⟩
    | _ => exact h2.elim) h
theorem li_rng1 (h1 : LA K w0 aa za) : LI K w0 (iRng1 aa) (zRng1 za) := fun w σ δ Qz R l s rs c h =>
  h1 w σ δ _ _ l s rs (fun w1 ds xs l1 s1 r1 h2 => by
    revert h2
    split
    · rename_i j
      intro h2
      cases r1 with
      | cons a r =>
        cases r
        refine ⟨j, by rw [a.v_inv], h2.1, h2.2.1, c w1 _ _ l1 s1 (fun u lu su => ⟨fun i hi => ?_, ?_⟩) h2.2.2⟩
        · rw [List.length_map, List.length_range] at hi
          refine ⟨hi, fun x H2 hy => ?_⟩
          obtain ⟨rfl, rfl⟩ := hy
          exact ⟨u, .v (.int (i : Nat)), rfl, rfl, Nx.rf u, su, by rw [List.getElem?_map, List.getElem?_range hi]; rfl, by rw [Int.zero_add]; exact .v _⟩
        · show j.toNat ≤ _
          rw [List.length_map, List.length_range]
          exact Nat.le_refl _
    · exact fun h2 => h2.elim) h
theorem li_rng2 (h1 : LA K w0 aa za) : LI K w0 (iRng2 aa) (zRng2 za) := fun w σ δ Qz R l s rs c h =>
  h1 w σ δ _ _ l s rs (fun w1 ds xs l1 s1 r1 h2 => by
    revert h2
    split
    · rename_i i j
      intro h2
      cases r1 with
      | cons a r =>
        cases r with
        | cons b r =>
          cases r
          refine ⟨i, j, by rw [a.v_inv, b.v_inv], h2.1, c w1 _ _ l1 s1 (fun u lu su => ⟨fun k hk => ?_, ?_⟩) h2.2⟩
          · rw [List.length_map, List.length_range] at hk
            refine ⟨hk, fun x H2 hy => ?_⟩
            obtain ⟨rfl, rfl⟩ := hy
            exact ⟨u, .v (.int (i + (k : Nat))), rfl, rfl, Nx.rf u, su, by rw [List.getElem?_map, List.getElem?_range hk]; rfl, .v _⟩
          · show (j - i).toNat ≤ _
            rw [List.length_map, List.length_range]
            exact Nat.le_refl _
    · exact fun h2 => h2.elim) h
/-- pairs made on the way: the number and the item -/
theorem jok_enum {w : W3} {J : It} {ds : List D} {xs : List V} (r : Reps K w.F ds xs)
    (go : ∀ u, Nx w u → Ok K u → ∀ i, i < xs.length → J.go i u.H) (stop : ∀ u, Nx w u → Ok K u → J.stop xs.length u.H)
    (yld : ∀ u, Nx w u → Ok K u → ∀ i v H', J.yld i u.H v H' → ∃ T x, v = .ref T ∧ u.H T = none ∧ H' = upd u.H T (.tup [.int (i : Nat), x]) ∧ xs[i]? = some x) : JOk K w J (enumD ds) := fun u l s => by
  have len := r.len
  have e1 : (enumD ds).length = xs.length := by
    unfold enumD
    rw [List.length_map, List.length_range, len]
  refine ⟨fun i hi => ⟨go u l s i (by omega), fun v H2 hy => ?_⟩, by rw [e1]; exact stop u l s⟩
  obtain ⟨T, x, rfl, hT, rfl, hx⟩ := yld u l s i v H2 hy
  obtain ⟨d, hd, rx⟩ := r.getR hx
  have hl : i < ds.length := (List.getElem?_eq_some_iff.mp hd).1
  refine ⟨⟨upd u.F T (.tup [.int (i : Nat), x]), u.M, upd u.H T (.tup [.int (i : Nat), x])⟩, .tup [.v (.int (i : Nat)), d], rfl, rfl, nx_new s hT, s.freeze hT, ?_, ?_⟩
  · unfold enumD
    rw [List.getElem?_map, List.getElem?_range hl]
    show some (D.tup [.v (.int (i : Nat)), ds.getD i (.v .non)]) = _
    rw [List.getD_eq_getElem?_getD, hd]
    rfl
  · exact .tup upd_same (.cons (.v _) (.cons (rx.le (l.le.tr (Le.put (s.nF hT)))) .nil))
theorem li_enum (h1 : LA K w0 aa za) : LI K w0 (iEnumA K aa) (zEnum za) := fun w σ δ Qz R l s rs c h =>
  h1 w σ δ _ _ l s rs (fun w1 ds xs l1 s1 r1 h2 => by
    revert h2
    split
    · rename_i es
      intro h2
      cases r1 with
      | cons a r =>
        cases r
        obtain ⟨p, ys, rfl, q0, r⟩ := a.lst_inv
        have q : SqL K w1.F p ys := SqL.of q0
        refine ⟨p, ys, rfl, .inl ⟨sqL_le s1.sub q, c w1 _ _ l1 s1 (jok_enum r (fun u lu su i hi => ⟨ys, ys[i], sqL_le su.sub (sqL_le lu.le q), by simp [hi]⟩) (fun u lu su => ⟨ys, sqL_le su.sub (sqL_le lu.le q), Nat.le_refl _⟩) (fun u lu su i v H' hy => ?_)) h2⟩⟩
        obtain ⟨T, x, e1, e2, e3, e4⟩ := hy
        exact ⟨T, x, e1, e2, e3, e4 ys (sqL_le su.sub (sqL_le lu.le q))⟩
    · rename_i es
      intro h2
      cases r1 with
      | cons a r =>
        cases r
        obtain ⟨p, ys, rfl, q, r⟩ := a.tup_inv
        refine ⟨p, ys, rfl, .inr ⟨sqT_le s1.sub q, c w1 _ _ l1 s1 (jok_enum r (fun u lu su i hi => ⟨ys, ys[i], sqT_le su.sub (sqT_le lu.le q), by simp [hi]⟩) (fun u lu su => ⟨ys, sqT_le su.sub (sqT_le lu.le q), rfl⟩) (fun u lu su i v H' hy => ?_)) h2⟩⟩
        obtain ⟨T, x, e1, e2, e3, e4⟩ := hy
        exact ⟨T, x, e1, e2, e3, e4 ys (sqT_le su.sub (sqT_le lu.le q))⟩
    · exact fun h2 => h2.elim) h
theorem jok_zip {w : W3} {J : It} {ds es : List D} {xs ys : List V} (r : Reps K w.F ds xs) (r' : Reps K w.F es ys)
    (go : ∀ u, Nx w u → Ok K u → ∀ i, i < xs.length → i < ys.length → J.go i u.H) (stop : ∀ u, Nx w u → Ok K u → ∀ i, xs.length ≤ i ∨ ys.length ≤ i → J.stop i u.H)
    (yld : ∀ u, Nx w u → Ok K u → ∀ i v H', J.yld i u.H v H' → ∃ T x y, v = .ref T ∧ u.H T = none ∧ H' = upd u.H T (.tup [x, y]) ∧ xs[i]? = some x ∧ ys[i]? = some y) : JOk K w J (zipD ds es) := fun u l s => by
  have len := r.len
  have len' := r'.len
  have e1 := zipD_len ds es
  refine ⟨fun i hi => ⟨go u l s i (by omega) (by omega), fun v H2 hy => ?_⟩, stop u l s _ (by omega)⟩
  obtain ⟨T, x, y, rfl, hT, rfl, hx, hy⟩ := yld u l s i v H2 hy
  obtain ⟨d, hd, rx⟩ := r.getR hx
  obtain ⟨e, he, ry⟩ := r'.getR hy
  refine ⟨⟨upd u.F T (.tup [x, y]), u.M, upd u.H T (.tup [x, y])⟩, .tup [d, e], rfl, rfl, nx_new s hT, s.freeze hT, ?_, ?_⟩
  · rw [zipD_get, hd, he]
  · exact .tup upd_same (.cons (rx.le (l.le.tr (Le.put (s.nF hT)))) (.cons (ry.le (l.le.tr (Le.put (s.nF hT)))) .nil))
theorem li_zip (h1 : LA K w0 aa za) : LI K w0 (RZ.iZipA K aa) (zZip za) := fun w σ δ Qz R l s rs c h =>
  h1 w σ δ _ _ l s rs (fun w1 ds xs l1 s1 r1 h2 => by
    revert h2
    split
    · intro h2
      cases r1 with
      | cons a r =>
        cases r with
        | cons b r =>
          cases r
          obtain ⟨p, ys, rfl, q0, r⟩ := a.lst_inv
          obtain ⟨p', ys', rfl, q0', r'⟩ := b.lst_inv
          have q : SqL K w1.F p ys := SqL.of q0
          have q' : SqL K w1.F p' ys' := SqL.of q0'
          refine ⟨p, p', ys, ys', rfl, .inl ⟨sqL_le s1.sub q, sqL_le s1.sub q', c w1 _ _ l1 s1 (jok_zip r r' (fun u lu su i hi hi' => ⟨ys, ys', ys[i], ys'[i], sqL_le su.sub (sqL_le lu.le q), sqL_le su.sub (sqL_le lu.le q'), by simp [hi], by simp [hi']⟩)
            (fun u lu su i hi => ⟨ys, ys', sqL_le su.sub (sqL_le lu.le q), sqL_le su.sub (sqL_le lu.le q'), hi⟩) (fun u lu su i v H' hy => ?_)) h2⟩⟩
          obtain ⟨T, x, y, e1, e2, e3, e4, e5⟩ := hy
          exact ⟨T, x, y, e1, e2, e3, e4 ys (sqL_le su.sub (sqL_le lu.le q)), e5 ys' (sqL_le su.sub (sqL_le lu.le q'))⟩
    · intro h2
      cases r1 with
      | cons a r =>
        cases r with
        | cons b r =>
          cases r
          obtain ⟨p, ys, rfl, q, r⟩ := a.tup_inv
          obtain ⟨p', ys', rfl, q', r'⟩ := b.tup_inv
          refine ⟨p, p', ys, ys', rfl, .inr ⟨sqT_le s1.sub q, sqT_le s1.sub q', c w1 _ _ l1 s1 (jok_zip r r' (fun u lu su i hi hi' => ⟨ys, ys', ys[i], ys'[i], sqT_le su.sub (sqT_le lu.le q), sqT_le su.sub (sqT_le lu.le q'), by simp [hi], by simp [hi']⟩)
            (fun u lu su i hi => ⟨ys, ys', sqT_le su.sub (sqT_le lu.le q), sqT_le su.sub (sqT_le lu.le q'), hi⟩) (fun u lu su i v H' hy => ?_)) h2⟩⟩
          obtain ⟨T, x, y, e1, e2, e3, e4, e5⟩ := hy
          exact ⟨T, x, y, e1, e2, e3, e4 ys (sqT_le su.sub (sqT_le lu.le q)), e5 ys' (sqT_le su.sub (sqT_le lu.le q'))⟩
    · exact fun h2 => h2.elim) h
end

/-! ### for -/
def zLoop (g : ZG) (b : ZS) (D : ZEnds) : List Zl.D → ZSt → MS → Prop
  | [], δ, M => D.nx δ M
  | d :: ds, δ, M => g d δ M fun δ1 M1 => b { D with nx := zLoop g b D ds, ct := zLoop g b D ds, bk := D.nx } δ1 M1
def zFor (zi : ZI) (g : ZG) (b : ZS) : ZS := fun D δ M => zi δ M fun ds M1 => zLoop g b D ds δ M1
theorem ls_for {K : PySem.W.Frag} {w0 : W3} {wi : TI} {zi : ZI} {g : TG} {gz : ZG} {tb : TS} {zb : ZS} (hi : LI K w0 wi zi) (hg : LG K w0 g gz) (hb : LS K w0 tb zb) : LS K w0 (tFor wi g tb) (zFor zi gz zb) := fun w σ δ Dz D l s rs c h =>
  hi w σ δ _ _ l s rs (fun w1 J ds l1 s1 hJ h1 => by
    have shift : ∀ {i : Nat} {d : Zl.D}, ds[i]? = some d → ds.drop i = d :: ds.drop (i + 1) := fun {i d} e => by
      obtain ⟨hi, e⟩ := List.getElem?_eq_some_iff.mp e
      rw [List.drop_eq_getElem_cons hi, e]
    refine ⟨fun i m σ' H' => m + i = ds.length ∧ ∃ u δ', u.H = H' ∧ Nx w1 u ∧ Ok K u ∧ RepS K u.F δ' σ' ∧ zLoop gz zb Dz (ds.drop i) δ' u.M, ⟨ds.length, rfl, w1, δ, rfl, Nx.rf w1, s1, rs.le l1.le, h1⟩, ?_⟩
    rintro i m σ' H' ⟨hm, u, δ', rfl, lu, su, ru, hu⟩
    obtain ⟨hgo, hstop⟩ := hJ u lu su
    by_cases hi : i < ds.length
    · obtain ⟨go, hy⟩ := hgo i hi
      refine .inr ⟨go, fun σ2 H2 => ∃ m', m' < m ∧ m' + (i + 1) = ds.length ∧ ∃ u δ', u.H = H2 ∧ Nx w1 u ∧ Ok K u ∧ RepS K u.F δ' σ2 ∧ zLoop gz zb Dz (ds.drop (i + 1)) δ' u.M, fun σ2 H2 ⟨m', lt, e, r⟩ => ⟨m', lt, e, r⟩, fun x H2 yy => ?_⟩
      obtain ⟨v, d, rfl, eM, lv, sv, ed, rd⟩ := hy x H2 yy
      rw [shift ed] at hu
      have hu' : gz d δ' v.M fun δ1 M1 => zb { Dz with nx := zLoop gz zb Dz (ds.drop (i + 1)), ct := zLoop gz zb Dz (ds.drop (i + 1)), bk := Dz.nx } δ1 M1 := by
        rw [eM]
        exact hu
      refine hg v σ' δ' x d _ _ ((l.tr l1).tr (lu.tr lv)) sv (ru.le lv.le) rd (fun w3 δ3 σ3 l3 s3 r3 h3 => ?_) hu'
      have cn : CtS K w3 (zLoop gz zb Dz (ds.drop (i + 1))) (fun σ2 H2 => ∃ m', m' < m ∧ m' + (i + 1) = ds.length ∧ ∃ u δ', u.H = H2 ∧ Nx w1 u ∧ Ok K u ∧ RepS K u.F δ' σ2 ∧ zLoop gz zb Dz (ds.drop (i + 1)) δ' u.M) := fun u4 δ4 σ4 l4 s4 r4 h4 =>
        ⟨m - 1, by omega, by omega, u4, δ4, rfl, ((lu.tr lv).tr l3).tr l4, s4, r4, h4⟩
      have l5 := (((l1.tr lu).tr lv).tr l3)
      exact hb w3 σ3 δ3 { Dz with nx := zLoop gz zb Dz (ds.drop (i + 1)), ct := zLoop gz zb Dz (ds.drop (i + 1)), bk := Dz.nx } _ (l.tr l5) s3 r3 ⟨cn, c.rt.le l5, c.nx.le l5, cn⟩ h3
    · have e : i = ds.length := by omega
      subst e
      rw [List.drop_length] at hu
      exact .inl ⟨hstop, c.nx u _ _ (l1.tr lu) su ru hu⟩) h

/-! ### comprehensions -/
def zLcL (g : ZG) (zt : ZT) (ze : ZE) (δ : ZSt) (Q : List Zl.D → MS → Prop) : List Zl.D → List Zl.D → MS → Prop
  | [], acc, M => Q acc M
  | d :: ds, acc, M => g d δ M fun δ1 M1 => zt δ1 M1 fun b M2 => if b = true then ze δ1 M2 fun e M3 => acc.length < sizeLine ∧ zLcL g zt ze δ Q ds (acc ++ [e]) M3 else zLcL g zt ze δ Q ds acc M2
/-- the list as data -/
def zLc (zi : ZI) (g : ZG) (zt : ZT) (ze : ZE) (vs : List Nat) : ZE := fun δ M Q => zi δ M fun ds M1 => zLcL g zt ze (zwipe δ vs) (fun es M2 => Q (.lst es) M2) ds [] M1
/-- the list, to be changed later -/
def zLcM (zi : ZI) (g : ZG) (zt : ZT) (ze : ZE) (vs : List Nat) : ZE := fun δ M Q => zi δ M fun ds M1 => zLcL g zt ze (zwipe δ vs) (fun es M2 => ∀ p, M2 p = none → Q (.v (.ref p)) (mput M2 p (.lst es))) ds [] M1
/-- a target that stores just slots of vs -/
def WipeOk (g : TG) (vs : List Nat) : Prop := ∀ x σ H N, g x σ H N → g x σ H fun σ2 H2 => L2.wipe σ2 vs = L2.wipe σ vs ∧ N σ2 H2
def WipesOk (g : TGs) (vs : List Nat) : Prop := ∀ xs σ H N, g xs σ H N → g xs σ H fun σ2 H2 => L2.wipe σ2 vs = L2.wipe σ vs ∧ N σ2 H2
theorem wipe_get (σ : St) (vs : List Nat) (j : Nat) : (L2.wipe σ vs)[j]? = if j ∈ vs then (if j < σ.length then some none else none) else σ[j]? := by
  induction vs with
  | nil => simp [L2.wipe]
  | cons v vs ih =>
    have len := L2.wipe_length σ vs
    show ((L2.wipe σ vs).set v none)[j]? = _
    rw [List.getElem?_set]
    by_cases q : v = j
    · subst q
      rw [if_pos rfl, len, if_pos (List.mem_cons_self ..)]
    · rw [if_neg q, ih]
      have e : (j ∈ v :: vs) = (j ∈ vs) := by
        simp only [List.mem_cons, eq_iff_iff]
        exact ⟨fun z => z.elim (fun z => absurd z.symm q) id, .inr⟩
      simp only [e]
theorem wipe_eq {σ τ : St} {vs : List Nat} (l : σ.length = τ.length) (h : ∀ j, j ∉ vs → σ[j]? = τ[j]?) : L2.wipe σ vs = L2.wipe τ vs := by
  apply List.ext_getElem?
  intro j
  rw [wipe_get, wipe_get, l]
  by_cases q : j ∈ vs
  · rw [if_pos q, if_pos q]
  · rw [if_neg q, if_neg q, h j q]
theorem wo_name {j : Nat} {vs : List Nat} (h : j ∈ vs) : WipeOk (gName j) vs := fun x σ H N q => ⟨wipe_eq (List.length_set ..) fun i hi => List.getElem?_set_ne (fun e => hi (by rw [← e]; exact h)), q⟩
theorem wos_nil {vs : List Nat} : WipesOk gNil vs := fun xs σ H N q => ⟨q.1, rfl, q.2⟩
theorem wos_cons {g : TG} {gs : TGs} {vs : List Nat} (mono : ∀ x σ H N N', (∀ σ2 H2, N σ2 H2 → N' σ2 H2) → g x σ H N → g x σ H N') (h1 : WipeOk g vs) (h2 : WipesOk gs vs) : WipesOk (gCons g gs) vs := fun xs σ H N q => by
  obtain ⟨v, r, e, q⟩ := q
  refine ⟨v, r, e, mono _ _ _ _ _ (fun σ2 H2 ⟨e2, q2⟩ => ?_) (h1 _ _ _ _ q)⟩
  have q3 := h2 _ _ _ _ q2
  rw [e2] at q3
  exact q3
theorem wo_tup {K : PySem.W.Frag} {n : Nat} {gs : TGs} {vs : List Nat} (h : WipesOk gs vs) : WipeOk (gTup K n gs) vs := fun x σ H N ⟨a, xs, e, q, l, r⟩ => ⟨a, xs, e, q, l, h _ _ _ _ r⟩
theorem mono_name {j : Nat} : ∀ x σ H N N', (∀ σ2 H2, N σ2 H2 → N' σ2 H2) → gName j x σ H N → gName j x σ H N' := fun _ _ _ _ _ h q => h _ _ q
theorem mono_nil : ∀ xs σ H N N', (∀ σ2 H2, N σ2 H2 → N' σ2 H2) → gNil xs σ H N → gNil xs σ H N' := fun _ _ _ _ _ h q => ⟨q.1, h _ _ q.2⟩
theorem mono_cons {g : TG} {gs : TGs} (m1 : ∀ x σ H N N', (∀ σ2 H2, N σ2 H2 → N' σ2 H2) → g x σ H N → g x σ H N') (m2 : ∀ xs σ H N N', (∀ σ2 H2, N σ2 H2 → N' σ2 H2) → gs xs σ H N → gs xs σ H N') :
    ∀ xs σ H N N', (∀ σ2 H2, N σ2 H2 → N' σ2 H2) → gCons g gs xs σ H N → gCons g gs xs σ H N' := fun _ _ _ _ _ h ⟨v, r, e, q⟩ => ⟨v, r, e, m1 _ _ _ _ _ (fun _ _ z => m2 _ _ _ _ _ h z) q⟩
theorem mono_tup {K : PySem.W.Frag} {n : Nat} {gs : TGs} (m2 : ∀ xs σ H N N', (∀ σ2 H2, N σ2 H2 → N' σ2 H2) → gs xs σ H N → gs xs σ H N') :
    ∀ x σ H N N', (∀ σ2 H2, N σ2 H2 → N' σ2 H2) → gTup K n gs x σ H N → gTup K n gs x σ H N' := fun _ _ _ _ _ h ⟨a, xs, e, q, l, r⟩ => ⟨a, xs, e, q, l, m2 _ _ _ _ _ h r⟩

section
variable {K : PySem.W.Frag} {w0 : W3} {wi : TI} {zi : ZI} {g : TG} {gz : ZG} {tt : TT} {zt : ZT} {te : TE} {ze : ZE} {vs : List Nat}
theorem lc_lift (hi : LI K w0 wi zi) (hg : LG K w0 g gz) (mono : ∀ x σ H N N', (∀ σ2 H2, N σ2 H2 → N' σ2 H2) → g x σ H N → g x σ H N') (hw : WipeOk g vs) (ht : LT K w0 tt zt) (he : LE K w0 te ze) {w : W3} {σ : St} {δ : ZSt} {Qz : List D → MS → Prop} {Q : VK}
    (l : Nx w0 w) (s : Ok K w) (rs : RepS K w.F δ σ)
    (c : ∀ (u : W3) (p : Addr) (es : List D) (xs : List V), Nx w u → Ok K u → u.F p = none → u.M p = none → u.H p = some (.lst xs) → (∀ a o, w.H a = some o → (∀ ps, o ≠ .tbl ps) → w.M a = none → a ≠ p) → Reps K u.F es xs → Qz es u.M → Q (.ref p) u.H)
    (h : zi δ w.M fun ds M1 => zLcL gz zt ze (zwipe δ vs) Qz ds [] M1) : tLc wi g tt te vs σ w.H Q :=
  hi w σ δ _ _ l s rs (fun w1 J ds l1 s1 hJ h1 => by
    have shift : ∀ {i : Nat} {d : Zl.D}, ds[i]? = some d → ds.drop i = d :: ds.drop (i + 1) := fun {i d} e => by
      obtain ⟨hi, e⟩ := List.getElem?_eq_some_iff.mp e
      rw [List.drop_eq_getElem_cons hi, e]
    intro p hp
    have lp : Le w1.H (upd w1.H p (.lst [])) := Le.put hp
    have l2 : Nx w1 ⟨w1.F, w1.M, upd w1.H p (.lst [])⟩ := nx_grow lp
    have s2 : Ok K ⟨w1.F, w1.M, upd w1.H p (.lst [])⟩ := s1.grow lp
    have hpF := s1.nF hp
    have hpM := s1.nM hp
    -- what stands between two turns
    refine ⟨fun i m H' => m + i = ds.length ∧ ∃ u es xs, u.H = H' ∧ Nx w1 u ∧ Ok K u ∧ u.F p = none ∧ u.M p = none ∧ u.H p = some (.lst xs) ∧ Reps K u.F es xs ∧ zLcL gz zt ze (zwipe δ vs) Qz (ds.drop i) es u.M, ⟨ds.length, rfl, ⟨w1.F, w1.M, upd w1.H p (.lst [])⟩, [], [], rfl, l2, s2, hpF, hpM, upd_same, .nil, h1⟩, ?_⟩
    rintro i m H' ⟨hm, u, es, xs, rfl, lu, su, uF, uM, uH, ru, hu⟩
    obtain ⟨hgo, hstop⟩ := hJ u lu su
    by_cases hi : i < ds.length
    · obtain ⟨go, hy⟩ := hgo i hi
      refine .inr ⟨go, fun H2 => ∃ m', m' < m ∧ m' + (i + 1) = ds.length ∧ ∃ u es xs, u.H = H2 ∧ Nx w1 u ∧ Ok K u ∧ u.F p = none ∧ u.M p = none ∧ u.H p = some (.lst xs) ∧ Reps K u.F es xs ∧ zLcL gz zt ze (zwipe δ vs) Qz (ds.drop (i + 1)) es u.M, fun H2 z => z, fun x H2 yy => ?_⟩
      obtain ⟨v, d, rfl, eM, lv, sv, ed, rd⟩ := hy x H2 yy
      have kv := lv.keep p _ uH (fun ps q => nomatch q) uM
      rw [shift ed] at hu
      have ww : L2.wipe (L2.wipe σ vs) vs = L2.wipe σ vs := wipe_eq (L2.wipe_length σ vs) fun j hj => by rw [wipe_get, if_neg hj]
      have hw2 : ∀ N : St → Hp → Prop, g x (L2.wipe σ vs) v.H N → g x (L2.wipe σ vs) v.H fun σ2 H2 => L2.wipe σ2 vs = L2.wipe σ vs ∧ N σ2 H2 := fun N q => by
        have := hw x _ _ N q
        rw [ww] at this
        exact this
      refine hw2 _ (hg v (L2.wipe σ vs) (zwipe δ vs) x d (fun δ1 M1 => zt δ1 M1 fun b M2 => if b = true then ze δ1 M2 fun e M3 => es.length < sizeLine ∧ zLcL gz zt ze (zwipe δ vs) Qz (ds.drop (i + 1)) (es ++ [e]) M3 else zLcL gz zt ze (zwipe δ vs) Qz (ds.drop (i + 1)) es M2) _
        ((l.tr l1).tr (lu.tr lv)) sv ((rs.wipe vs).le ((l1.tr lu).tr lv).le) rd (fun w3 δ3 σ3 l3 s3 r3 h3 => ?_) (by rw [eM]; exact hu))
      refine ht w3 σ3 δ3 _ _ (((l.tr l1).tr (lu.tr lv)).tr l3) s3 r3 (fun w4 b l4 s4 h4 => ?_) h3
      have l34 := lv.tr (l3.tr l4)
      have k4 := l34.keep p _ uH (fun ps q => nomatch q) uM
      cases b with
      | false => exact ⟨m - 1, by omega, by omega, w4, es, xs, rfl, lu.tr l34, s4, k4.2.2 uF, k4.2.1, k4.1, ru.le l34.le, h4⟩
      | true =>
        refine he w4 σ3 δ3 _ _ ((l.tr l1).tr (lu.tr l34)) s4 (r3.le l4.le) (fun w5 e y l5 s5 r5 h5 => ?_) h4
        have l35 := l34.tr l5
        have k5 := l35.keep p _ uH (fun ps q => nomatch q) uM
        have nF := k5.2.2 uF
        refine ⟨xs, k5.1, by rw [← ru.len]; exact h5.1, m - 1, by omega, by omega, ⟨w5.F, w5.M, upd w5.H p (.lst (xs ++ [y]))⟩, es ++ [e], xs ++ [y], rfl, ?_, ?_, nF, k5.2.1, upd_same, (ru.le l35.le).snoc r5, h5.2⟩
        · refine ⟨(lu.tr l35).le, fun a o ea ta na => ?_⟩
          have ka := (lu.tr l35).keep a o ea ta na
          have q : a ≠ p := fun q => by
            subst q
            rw [hp] at ea
            cases ea
          exact ⟨by show upd w5.H p _ a = _; rw [upd_ne q]; exact ka.1, ka.2⟩
        · refine ⟨fun a o ea => ?_, s5.dis, fun a mo ea => ?_⟩
          · have q : a ≠ p := fun q => by
              subst q
              have ea' : w5.F a = some o := ea
              rw [nF] at ea'
              cases ea'
            show upd w5.H p _ a = _
            rw [upd_ne q]
            exact s5.sub a o ea
          · have q : a ≠ p := fun q => by
              subst q
              have ea' : w5.M a = some mo := ea
              rw [k5.2.1] at ea'
              cases ea'
            show ∃ o, upd w5.H p _ a = some o ∧ _
            rw [upd_ne q]
            exact s5.mu a mo ea
    · have e : i = ds.length := by omega
      subst e
      rw [List.drop_length] at hu
      exact .inl ⟨hstop, c u p es xs (l1.tr lu) su uF uM uH (fun a o ea ta na q => by
        have k := (l1.keep a o ea ta na).1
        rw [q, hp] at k
        cases k) ru hu⟩) h
theorem le_lc (hi : LI K w0 wi zi) (hg : LG K w0 g gz) (mono : ∀ x σ H N N', (∀ σ2 H2, N σ2 H2 → N' σ2 H2) → g x σ H N → g x σ H N') (hw : WipeOk g vs) (ht : LT K w0 tt zt) (he : LE K w0 te ze) : LE K w0 (tLc wi g tt te vs) (zLc zi gz zt ze vs) := fun w σ δ Qz Q l s rs c h =>
  lc_lift hi hg mono hw ht he l s rs (fun u p es xs lu su uF uM uH np ru q => by
    have l3 : Le u.F (upd u.F p (.lst xs)) := Le.put uF
    refine c ⟨upd u.F p (.lst xs), u.M, u.H⟩ (.lst es) (.ref p) ⟨lu.le.tr l3, fun a o ea ta na => ⟨(lu.keep a o ea ta na).1, (lu.keep a o ea ta na).2.1, fun f => ?_⟩⟩ ⟨fun a o ea => ?_, fun a o ea => ?_, fun a mo ea => ?_⟩ (.lst upd_same (ru.le l3)) q
    · show upd u.F p _ a = none
      rw [upd_ne (np a o ea ta na)]
      exact (lu.keep a o ea ta na).2.2 f
    · by_cases z : a = p
      · subst z
        have ea' : upd u.F a (.lst xs) a = some o := ea
        rw [upd_same] at ea'
        cases ea'
        exact uH
      · have ea' : upd u.F p (.lst xs) a = some o := ea
        rw [upd_ne z] at ea'
        exact su.sub a o ea'
    · by_cases z : a = p
      · subst z
        exact uM
      · have ea' : upd u.F p (.lst xs) a = some o := ea
        rw [upd_ne z] at ea'
        exact su.dis a o ea'
    · obtain ⟨o, e1, e2⟩ := su.mu a mo ea
      exact ⟨o, e1, e2.le l3⟩) h
theorem le_lcM (hi : LI K w0 wi zi) (hg : LG K w0 g gz) (mono : ∀ x σ H N N', (∀ σ2 H2, N σ2 H2 → N' σ2 H2) → g x σ H N → g x σ H N') (hw : WipeOk g vs) (ht : LT K w0 tt zt) (he : LE K w0 te ze) : LE K w0 (tLc wi g tt te vs) (zLcM zi gz zt ze vs) := fun w σ δ Qz Q l s rs c h =>
  lc_lift hi hg mono hw ht he l s rs (fun u p es xs lu su uF uM uH np ru q => by
    refine c ⟨u.F, mput u.M p (.lst es), u.H⟩ _ _ ⟨lu.le, fun a o ea ta na => ?_⟩ ⟨su.sub, fun a o ea => ?_, fun a mo ea => ?_⟩ (.v _) (q p uM)
    · have k := lu.keep a o ea ta na
      refine ⟨k.1, ?_, k.2.2⟩
      show mput u.M p _ a = none
      rw [mput_ne (np a o ea ta na)]
      exact k.2.1
    · have z : a ≠ p := fun z => by
        subst z
        have ea' : u.F a = some o := ea
        rw [uF] at ea'
        cases ea'
      show mput u.M p _ a = none
      rw [mput_ne z]
      exact su.dis a o ea
    · by_cases z : a = p
      · subst z
        have ea' : mput u.M a (.lst es) a = some mo := ea
        rw [mput_same] at ea'
        cases ea'
        exact ⟨_, uH, .lst ru⟩
      · have ea' : mput u.M p (.lst es) a = some mo := ea
        rw [mput_ne z] at ea'
        exact su.mu a mo ea') h
end
end Zl
namespace Zl
open PySem PySem.Spec PyProof.Rows L2

/-! ### calls, what is raised being wished for at the caller's slots -/
section
variable {X : Cx} {k : Nat} {f C : Addr} {fd : FuncData} {ps : List Str} {sp : Sp} {W : WX} {x m : Str} {p pos apos : Pos} {e o : Expr} {es : List Expr} {ta : TE} {t : TA}
def tCallW (sp : Sp) (W : WX) (t : TA) : TE := fun σ H Q => t σ H fun vs H1 => sp vs H1 Q fun c d H2 => W c d σ H2
theorem pc_call (F : FnOk X.prog X.w X.K X.mg X.base (L2N.CX X.prog X.w) k f fd ps sp) (hr : Room k X.A) (hg : Gl X x) (hm : X.mg x = some (.ref f)) (hk : PySem.W.keepIn X.K (.ref f) = true) (hb : Binds X.K fd ps []) (tk : L2N.Takes X W)
    (ha : PA X (e :: es) t) (hdb : (x == ("__debug__" : Str)) = false := by decide) (he : starEach (e :: es) X.env = (false, eval e X.env) :: starEach es X.env := by rfl) (hpl : (backTo pos (starEach es X.env)).any (·.1) = false := by rfl) :
    PE X (.Call (.Name x p) (e :: es) [] pos) (tCallW sp W t) := pe_callS F hr hg hm hk hb (fun σ => L2N.passAt tk σ) ha hdb he hpl
theorem pc_call0 (F : FnOk X.prog X.w X.K X.mg X.base (L2N.CX X.prog X.w) k f fd ps sp) (hr : Room k X.A) (hg : Gl X x) (hm : X.mg x = some (.ref f)) (hk : PySem.W.keepIn X.K (.ref f) = true) (hb : Binds X.K fd ps []) (tk : L2N.Takes X W)
    (hdb : (x == ("__debug__" : Str)) = false := by decide) : PE X (.Call (.Name x p) [] [] pos) (tCallW sp W tNil) :=
  ⟨fun pins s σ H Q I hh => wpAny_Call_Name_kw (ld_glob I hg hm (PySem.W.callWith_K0 I.kIn hk (run_fnS (us := []) (vs := []) (E := WE W) F hr hb (L2N.passAt tk σ) I .nil hh)) hdb)⟩
def tMethW (C : Addr) (m : Str) (sp : Sp) (W : WX) (ta : TE) (t : TA) : TE := fun σ H Q => ta σ H fun x H1 => ∃ a dx fs, x = .ref a ∧ H1 a = some (.ins C dx fs) ∧ fs.lookup m = none ∧
  t σ H1 fun vs H2 => sp (x :: vs) H2 Q fun c d H3 => W c d σ H3
theorem pc_meth {pl : Sem Bool} (he : PE X o ta) (c : Cls X.K C) (hm : Meth X.K C m f) (F : FnOk X.prog X.w X.K X.mg X.base (L2N.CX X.prog X.w) k f fd ps sp) (hr : Room k X.A) (hb : Binds X.K fd ps []) (tk : L2N.Takes X W) (ha : PA X (e :: es) t)
    (hst : starEach (e :: es) X.env = (false, eval e X.env) :: starEach es X.env := by rfl) (hpl : (backTo pos (starEach es X.env)).any (·.1) = false := by rfl)
    (ht : eval (.Call (.Attribute o m apos) (e :: es) [] pos) X.env = (do
      let ov ← eval o X.env
      standAt apos.atName
      let (g, first) ← holding [ov] (getMethod ov m pl)
      callWith pos g first (backTo pos (starEach (e :: es) X.env)) (backToKw pos (keywordEach [] X.env))) := by rfl) :
    PE X (.Call (.Attribute o m apos) (e :: es) [] pos) (tMethW C m sp W ta t) := by
  refine ⟨fun pins s σ H Q I hh => ?_⟩
  refine PySem.W.methodCall_KW (pl := pl) (thn (he.run pins s σ H _ I hh) fun u s1 ⟨y, H1, I1, ry, a, dx, fs, ey, ea, l, q⟩ => ?_) ht
  subst ey
  obtain rfl : u = Value.ref a := ry
  refine getmeth_ok I1 ea c hm l ?_
  refine PySem.W.callWith_K (first := [.ref a]) (h₀ := X.base) I.ok.mod.kin hm.kp (thn (ha.run pos pins s1 σ H1 _ I1 q) fun us s2 ⟨vs, H2, I2, r, q2⟩ => ⟨I2.kIn, ?_⟩) hst hpl
  exact run_fnS (us := .ref a :: us) (vs := .ref a :: vs) (E := WE W) F hr hb (L2N.passAt tk σ) I2 (.cons rfl r) q2
theorem pc_meth0 {pl : Sem Bool} (he : PE X o ta) (c : Cls X.K C) (hm : Meth X.K C m f) (F : FnOk X.prog X.w X.K X.mg X.base (L2N.CX X.prog X.w) k f fd ps sp) (hr : Room k X.A) (hb : Binds X.K fd ps []) (tk : L2N.Takes X W)
    (ht : eval (.Call (.Attribute o m apos) [] [] pos) X.env = (do
      let ov ← eval o X.env
      standAt apos.atName
      let (g, first) ← holding [ov] (getMethod ov m pl)
      callWith pos g first (backTo pos (starEach [] X.env)) (backToKw pos (keywordEach [] X.env))) := by rfl) :
    PE X (.Call (.Attribute o m apos) [] [] pos) (tMethW C m sp W ta tNil) := by
  refine ⟨fun pins s σ H Q I hh => ?_⟩
  refine PySem.W.methodCall_KW (pl := pl) (thn (he.run pins s σ H _ I hh) fun u s1 ⟨y, H1, I1, ry, a, dx, fs, ey, ea, l, q⟩ => ?_) ht
  subst ey
  obtain rfl : u = Value.ref a := ry
  exact getmeth_ok I1 ea c hm l (PySem.W.callWith_K0 (first := [.ref a]) I1.kIn hm.kp (run_fnS (us := [.ref a]) (vs := [.ref a]) (E := WE W) F hr hb (L2N.passAt tk σ) I1 (.cons rfl .nil) q))
def tMakeW (C : Addr) (sp : Sp) (W : WX) (t : TA) : TE := fun σ H Q => t σ H fun vs H1 => ∀ x dx, H1 x = none → H1 dx = none → dx ≠ x →
  sp (.ref x :: vs) (upd (upd H1 dx (.own x)) x (.ins C dx [])) (fun v H2 => v = .non ∧ Q (.ref x) H2) fun c d H3 => W c d σ H3
theorem run_makeW {pins : List (Addr × Obj)} {σ : L2.St} {H : Hp} {s : Shared} {Q : VK} {us : List Value} {vs : List V} (M : Mk X.K C f) (F : FnOk X.prog X.w X.K X.mg X.base (L2N.CX X.prog X.w) k f fd ps sp) (hr : Room (k + 1) X.A) (hb : Binds X.K fd ps [])
    (tk : L2N.Takes X W) (I : Inv X pins σ H s) (r : Vals vs us)
    (hh : ∀ x dx, H x = none → H dx = none → dx ≠ x → sp (.ref x :: vs) (upd (upd H dx (.own x)) x (.ins C dx [])) (fun v H2 => v = .non ∧ Q (.ref x) H2) (fun c d H3 => W c d σ H3)) :
    wpAny (model X.prog X.w) X.A (call (.ref C) us) (EP X pins σ Q) X.xe s := by
  have hq := hh (s.heap.objs.size + 1) s.heap.objs.size (I.hok.fresh (Nat.le_succ _)) (I.hok.fresh (Nat.le_refl _)) (Nat.ne_of_lt (Nat.lt_succ_self _))
  have I2 := Inv.made (C := C) I
  have r2 : Vals (V.ref (s.heap.objs.size + 1) :: vs) (Value.ref (s.heap.objs.size + 1) :: us) := .cons rfl r
  have hl : ((Value.ref (s.heap.objs.size + 1) :: us) ++ ([] : List Value)).length = ps.length := by
    rw [List.append_nil, ← r2.length]
    exact F.len _ _ _ _ hq
  have bb := hb { s with heap := (s.heap.push PySem.W.emptyDict).push (PySem.W.instObj C s.heap.objs.size) } (Value.ref (s.heap.objs.size + 1) :: us) I2.kIn hl
  rw [List.append_nil] at bb
  refine wpAny_call (make_map (f := f) I.kIn M.makes M.init (beq_iff_eq.mp M.fn) (codeAny_mono (F.run _ X.stack _ _ ⟨Value.ref (s.heap.objs.size + 1) :: us, []⟩ (Value.ref (s.heap.objs.size + 1) :: us) _ _ (fun c d H3 => W c d σ H3) (hr.make C us [])
    (I2.env0.make C us []) bb r2 hq) fun r s' hq' => ?_))
  cases r with
  | error er => exact L2N.passAt tk σ pins _ _ er s' I2 hq'
  | ok fl =>
    cases fl with
    | ret u =>
      obtain ⟨v, H', I3, rv, ev, q3⟩ := I2.after hq'
      subst ev
      exact ⟨rv, ⟨V.ref (s.heap.objs.size + 1), H', I3, rfl, q3⟩⟩
    | next => exact False.elim hq'
    | brk => exact False.elim hq'
    | cont => exact False.elim hq'
theorem pc_make (M : Mk X.K C f) (F : FnOk X.prog X.w X.K X.mg X.base (L2N.CX X.prog X.w) k f fd ps sp) (hr : Room (k + 1) X.A) (hg : Gl X x) (hm : X.mg x = some (.ref C)) (hb : Binds X.K fd ps []) (tk : L2N.Takes X W)
    (ha : PA X (e :: es) t) (hdb : (x == ("__debug__" : Str)) = false := by decide) (he : starEach (e :: es) X.env = (false, eval e X.env) :: starEach es X.env := by rfl) (hpl : (backTo pos (starEach es X.env)).any (·.1) = false := by rfl) :
    PE X (.Call (.Name x p) (e :: es) [] pos) (tMakeW C sp W t) :=
  ⟨fun pins s σ H Q I hh => wpAny_Call_Name_kw (ld_glob I hg hm (PySem.W.callWith_K (h₀ := X.base) I.ok.mod.kin M.kp (thn (ha.run pos pins s σ H _ I hh) fun us s1 ⟨vs, H1, I1, r, q⟩ => ⟨I1.kIn, run_makeW M F hr hb tk I1 r q⟩) he hpl) hdb)⟩

/-- raise, its wish told -/
def tRz (W : WX) (t : L2.St → Hp → XK → Prop) : TS := fun _ σ H => t σ H fun c d H' => W c d σ H'
theorem pc_raise {t : L2.St → Hp → XK → Prop} (hc : X.calm = true) (tk : L2N.Takes X W) (he : L2N.PMk X e t) : PS X (.Raise (some e) none pos) (tRz W t) := L2N.ps_raise hc tk he
end

/-! ### wishes about exceptions -/
abbrev ZX := Addr → List (Str × D) → MS → Prop
abbrev ZW := Addr → List (Str × D) → ZSt → MS → Prop
inductive XRep (K : PySem.W.Frag) (F : Hp) : Option Addr → List (Str × D) → Prop
  | none : XRep K F none []
  | some {d : Addr} {xs : List (Str × V)} {fs : List (Str × D)} (h : F d = some (.xd xs)) (r : RepF K F fs xs) : XRep K F (some d) fs
section
variable (K : PySem.W.Frag) (w0 : W3)
def CtX (Qz : ZX) (Q : XK) : Prop := ∀ u C d fs, Nx w0 u → Ok K u → XRep K u.F d fs → Qz C fs u.M → Q (.ref C) d u.H
def CtW (Wz : ZW) (W : WX) : Prop := ∀ u C d fs δ σ, Nx w0 u → Ok K u → RepS K u.F δ σ → XRep K u.F d fs → Wz C fs δ u.M → W (.ref C) d σ u.H
def LX (t : L2.St → Hp → XK → Prop) (z : ZSt → MS → ZX → Prop) : Prop := ∀ w σ δ Qz Q, Nx w0 w → Ok K w → RepS K w.F δ σ → CtX K w Qz Q → z δ w.M Qz → t σ w.H Q
end
theorem CtX.le {K : PySem.W.Frag} {w u : W3} {Qz : ZX} {Q : XK} (l : Nx w u) (h : CtX K w Qz Q) : CtX K u Qz Q := fun v C d fs l' => h v C d fs (l.tr l')
theorem CtW.le {K : PySem.W.Frag} {w u : W3} {Wz : ZW} {W : WX} (l : Nx w u) (h : CtW K w Wz W) : CtW K u Wz W := fun v C d fs δ σ l' => h v C d fs δ σ (l.tr l')
def zRz (Wz : ZW) (z : ZSt → MS → ZX → Prop) : ZS := fun _ δ M => z δ M fun C fs M' => Wz C fs δ M'
theorem ls_rz {K : PySem.W.Frag} {w0 : W3} {W : WX} {Wz : ZW} {t : L2.St → Hp → XK → Prop} {z : ZSt → MS → ZX → Prop} (hW : CtW K w0 Wz W) (h : LX K w0 t z) : LS K w0 (tRz W t) (zRz Wz z) := fun w σ δ Dz D l s rs c hh =>
  h w σ δ _ _ l s rs (fun u C d fs lu su r q => hW u C d fs δ σ (l.tr lu) su (rs.le lu.le) r q) hh
/-- within a comprehension, an except suite: nothing is raised -/
theorem ctW0 {K : PySem.W.Frag} {w0 : W3} : CtW K w0 (fun _ _ _ _ => False) (fun _ _ _ _ => False) := fun _ _ _ _ _ _ _ _ _ _ h => h

/-! ### promises on deep data -/
abbrev ZSp := List D → MS → ZQ → ZX → Prop
def spOf (K : PySem.W.Frag) (zp : ZSp) : Sp := fun vs H Q E => ∃ (w : W3) (ds : List D) (Qz : ZQ) (Ez : ZX), w.H = H ∧ Ok K w ∧ Reps K w.F ds vs ∧ CtE K w Qz Q ∧ CtX K w Ez E ∧ zp ds w.M Qz Ez
def zCall (zp : ZSp) (Wz : ZW) (za : ZA) : ZE := fun δ M Q => za δ M fun ds M1 => zp ds M1 Q fun C fs M2 => Wz C fs δ M2
theorem le_call {K : PySem.W.Frag} {w0 : W3} {zp : ZSp} {W : WX} {Wz : ZW} {t : TA} {za : ZA} (hW : CtW K w0 Wz W) (ha : LA K w0 t za) : LE K w0 (tCallW (spOf K zp) W t) (zCall zp Wz za) := fun w σ δ Qz Q l s rs c h =>
  ha w σ δ _ _ l s rs (fun u ds xs lu su r q => ⟨u, ds, Qz, _, rfl, su, r, c.le lu, fun v C d fs lv sv rx qx => hW v C d fs δ σ (l.tr (lu.tr lv)) sv (rs.le (lu.tr lv).le) rx qx, q⟩) h
/-- a method of an instance that may change -/
def zMeth (C : Addr) (m : Str) (zp : ZSp) (Wz : ZW) (ze : ZE) (za : ZA) : ZE := fun δ M Q => ze δ M fun d M1 => match d with
  | .v (.ref a) => ∃ dx fs, M1 a = some (.ins C dx fs) ∧ fs.lookup m = none ∧ za δ M1 fun ds M2 => zp (d :: ds) M2 Q fun C' gs M3 => Wz C' gs δ M3
  | .ins C' fs => C' = C ∧ fs.lookup m = none ∧ za δ M1 fun ds M2 => zp (d :: ds) M2 Q fun C' gs M3 => Wz C' gs δ M3
  | _ => False
theorem le_meth {K : PySem.W.Frag} {w0 : W3} {C : Addr} {m : Str} {zp : ZSp} {W : WX} {Wz : ZW} {te : TE} {ze : ZE} {t : TA} {za : ZA} (hW : CtW K w0 Wz W) (he : LE K w0 te ze) (ha : LA K w0 t za) : LE K w0 (tMethW C m (spOf K zp) W te t) (zMeth C m zp Wz ze za) := fun w σ δ Qz Q l s rs c h =>
  he w σ δ _ _ l s rs (fun u d x lu su rx h1 => by
    have go : (za δ u.M fun ds M2 => zp (d :: ds) M2 Qz fun C' gs M3 => Wz C' gs δ M3) → t σ u.H fun vs H2 => spOf K zp (x :: vs) H2 Q fun c d H3 => W c d σ H3 := fun h2 =>
      ha u σ δ _ _ (l.tr lu) su (rs.le lu.le) (fun v ds xs lv sv r q => ⟨v, d :: ds, Qz, _, rfl, sv, .cons (rx.le lv.le) r, c.le (lu.tr lv), fun v' C d fs lv' sv' rx qx => hW v' C d fs δ σ (l.tr ((lu.tr lv).tr lv')) sv' (rs.le ((lu.tr lv).tr lv').le) rx qx, q⟩) h2
    revert h1
    split
    · rename_i a
      rintro ⟨dx, fs, e1, e2, e3⟩
      obtain ⟨o, e4, e5⟩ := su.mu _ _ e1
      cases e5 with
      | ins r =>
        have ex := rx.v_inv
        exact ⟨a, dx, _, ex, e4, r.look.1 e2, go e3⟩
    · rintro ⟨rfl, e2, e3⟩
      obtain ⟨a, dx, ys, ex, e4, r⟩ := rx.ins_inv
      exact ⟨a, dx, ys, ex, su.sub _ _ e4, r.look.1 e2, go e3⟩
    · exact fun h => h.elim) h
/-- C(..): the instance may change -/
def zMakeM (C : Addr) (zp : ZSp) (Wz : ZW) (za : ZA) : ZE := fun δ M Q => za δ M fun ds M1 => ∀ x dx, M1 x = none →
  zp (.v (.ref x) :: ds) (mput M1 x (.ins C dx [])) (fun d M2 => d = .v .non ∧ Q (.v (.ref x)) M2) fun C' fs M2 => Wz C' fs δ M2
/-- C(..): an instance that is data behind its __init__: zm tells of the arguments alone -/
def zMake (zm : ZSp) (Wz : ZW) (za : ZA) : ZE := fun δ M Q => za δ M fun ds M1 => zm ds M1 Q fun C' fs M2 => Wz C' fs δ M2
/-- what the promise of an __init__ gives for the class whose instances are data -/
def MakesAs (C : Addr) (zp zm : ZSp) : Prop := ∀ ds M Q E, zm ds M Q E → ∀ x dx, M x = none →
  zp (.v (.ref x) :: ds) (mput M x (.ins C dx [])) (fun d M2 => d = .v .non ∧ ∃ fs, M2 x = some (.ins C dx fs) ∧ Q (.ins C fs) (mdel M2 x)) fun C' fs M2 => E C' fs (mdel M2 x)
theorem made_nx {K : PySem.W.Frag} {u : W3} {x dx C : Addr} (su : Ok K u) (hx : u.H x = none) (hd : u.H dx = none) (ne : dx ≠ x) :
    Nx u ⟨u.F, mput u.M x (.ins C dx []), upd (upd u.H dx (.own x)) x (.ins C dx [])⟩ ∧ Ok K ⟨u.F, mput u.M x (.ins C dx []), upd (upd u.H dx (.own x)) x (.ins C dx [])⟩ := by
  have l1 : Nx u ⟨u.F, u.M, upd u.H dx (.own x)⟩ := nx_grow (Le.put hd)
  have s1 : Ok K ⟨u.F, u.M, upd u.H dx (.own x)⟩ := su.grow (Le.put hd)
  have hx' : upd u.H dx (.own x) x = none := by rw [upd_ne (Ne.symm ne)]; exact hx
  exact ⟨l1.tr (nx_alloc s1 hx'), Sim.alloc s1 hx' (.ins .nil)⟩
theorem le_makeM {K : PySem.W.Frag} {w0 : W3} {C : Addr} {zp : ZSp} {W : WX} {Wz : ZW} {t : TA} {za : ZA} (hW : CtW K w0 Wz W) (ha : LA K w0 t za) : LE K w0 (tMakeW C (spOf K zp) W t) (zMakeM C zp Wz za) := fun w σ δ Qz Q l s rs c h =>
  ha w σ δ _ _ l s rs (fun u ds xs lu su r q => fun x dx hx hd ne => by
    obtain ⟨l2, s2⟩ := made_nx (C := C) su hx hd ne
    refine ⟨⟨u.F, mput u.M x (.ins C dx []), upd (upd u.H dx (.own x)) x (.ins C dx [])⟩, .v (.ref x) :: ds, _, _, rfl, s2, .cons (.v _) r, fun v d y lv sv ry qv => ?_, fun v C d fs lv sv rx qx => hW v C d fs δ σ (l.tr ((lu.tr l2).tr lv)) sv (rs.le ((lu.tr l2).tr lv).le) rx qx, q x dx (su.nM hx)⟩
    obtain ⟨rfl, qv⟩ := qv
    exact ⟨ry.v_inv, c v _ _ ((lu.tr l2).tr lv) sv (.v _) qv⟩) h
theorem drop_nx {w : W3} {a : Addr} : Nx w ⟨w.F, mdel w.M a, w.H⟩ := ⟨Le.rfl' _, fun p o e _ n => ⟨e, by
  show (if p = a then none else w.M p) = none
  rw [n]
  split <;> rfl, id⟩⟩
theorem drop_ok {K : PySem.W.Frag} {w : W3} {a : Addr} (s : Ok K w) : Ok K ⟨w.F, mdel w.M a, w.H⟩ := ⟨s.sub, fun p o e => by
  show (if p = a then none else w.M p) = none
  rw [s.dis p o e]
  split <;> rfl, fun p m e => by
    have e' : (if p = a then none else w.M p) = some m := e
    split at e'
    · cases e'
    · exact s.mu p m e'⟩
/-- what was to be changed is data from now on -/
theorem settle_nx {K : PySem.W.Frag} {w : W3} {a C dx : Addr} {fs : List (Str × D)} (s : Ok K w) (h : w.M a = some (.ins C dx fs)) : ∃ u : W3, Nx w u ∧ Ok K u ∧ u.M = mdel w.M a ∧ u.H = w.H ∧ Rep K u.F (.ins C fs) (.ref a) := by
  obtain ⟨o, e1, e2, e3, e4⟩ := Sim.settle s h
  cases e2 with
  | ins r =>
    refine ⟨⟨upd w.F a (.ins C dx _), mdel w.M a, w.H⟩, ⟨Le.put e3, fun p u ep _ n => ?_⟩, e4, rfl, rfl, .ins upd_same (r.le (Le.put e3))⟩
    have q : p ≠ a := fun q => by
      rw [q, h] at n
      cases n
    refine ⟨ep, ?_, fun f => ?_⟩
    · show (if p = a then none else w.M p) = none
      rw [if_neg q]
      exact n
    · show upd w.F a _ p = none
      rw [upd_ne q]
      exact f
theorem le_make {K : PySem.W.Frag} {w0 : W3} {C : Addr} {zp zm : ZSp} {W : WX} {Wz : ZW} {t : TA} {za : ZA} (hm : MakesAs C zp zm) (hW : CtW K w0 Wz W) (ha : LA K w0 t za) : LE K w0 (tMakeW C (spOf K zp) W t) (zMake zm Wz za) := fun w σ δ Qz Q l s rs c h =>
  ha w σ δ _ _ l s rs (fun u ds xs lu su r q => fun x dx hx hd ne => by
    obtain ⟨l2, s2⟩ := made_nx (C := C) su hx hd ne
    refine ⟨⟨u.F, mput u.M x (.ins C dx []), upd (upd u.H dx (.own x)) x (.ins C dx [])⟩, .v (.ref x) :: ds, _, _, rfl, s2, .cons (.v _) r, fun v d y lv sv ry qv => ?_, fun v C d fs lv sv rx qx => ?_, hm ds u.M _ _ q x dx (su.nM hx)⟩
    · obtain ⟨rfl, fs, e1, qv⟩ := qv
      obtain ⟨v', l3, s3, eM, eH, r3⟩ := settle_nx sv e1
      refine ⟨ry.v_inv, ?_⟩
      rw [← eH]
      exact c v' _ _ (((lu.tr l2).tr lv).tr l3) s3 r3 (by rw [eM]; exact qv)
    · exact hW ⟨v.F, mdel v.M x, v.H⟩ C d fs δ σ (l.tr (((lu.tr l2).tr lv).tr drop_nx)) (drop_ok sv) (rs.le ((lu.tr l2).tr lv).le) rx qx) h
end Zl
namespace Zl
open PySem PySem.Spec PyProof.Rows L2

/-! ### whole numbers -/
def zI0 (g : Int → Int → V) : ZR2 := fun d e M Q => match d, e with | .v (.int i), .v (.int j) => Q (.v (g i j)) M | _, _ => False
def zI (C : Int → Int → Prop) (g : Int → Int → V) : ZR2 := fun d e M Q => match d, e with | .v (.int i), .v (.int j) => C i j ∧ Q (.v (g i j)) M | _, _ => False
def zU (g : Int → V) : ZR1 := fun d M Q => match d with | .v (.int i) => Q (.v (g i)) M | _ => False
section
variable {K : PySem.W.Frag}
theorem lr_I0 {g : Int → Int → V} : LR2 K (rI0 g) (zI0 g) := fun w x y d e Qz Q s rx ry c h => by
  unfold zI0 at h
  split at h
  · exact ⟨_, _, rx.v_inv, ry.v_inv, c.go s (.v _) h⟩
  · exact h.elim
theorem lr_I {C : Int → Int → Prop} {g : Int → Int → V} : LR2 K (rI C g) (zI C g) := fun w x y d e Qz Q s rx ry c h => by
  unfold zI at h
  split at h
  · exact ⟨_, _, rx.v_inv, ry.v_inv, h.1, c.go s (.v _) h.2⟩
  · exact h.elim
theorem lr_U {g : Int → V} : LR1 K (rU g) (zU g) := fun w x d Qz Q s rx c h => by
  unfold zU at h
  split at h
  · exact ⟨_, rx.v_inv, c.go s (.v _) h⟩
  · exact h.elim
theorem lr_ipI {g : Int → Int → Int} : LR2 K (ipI g) (zI0 fun i j => .int (g i j)) := fun w x y d e Qz Q s rx ry c h => by
  unfold zI0 at h
  split at h
  · exact ⟨_, _, rx.v_inv, ry.v_inv, c.go s (.v _) h⟩
  · exact h.elim
end

/-! ### + of numbers, texts, tuples, lists -/
def rAddA (K : PySem.W.Frag) : R2 := fun x y H Q => rI0 (fun i j => .int (i + j)) x y H Q ∨ (∃ i j, x = .str i ∧ y = .str j ∧ i.length + j.length ≤ sizeLine ∧ Q (.str (i ++ j)) H) ∨ rCatA K x y H Q ∨ rCat x y H Q
theorem op_addA {X : Cx} : OpR X (binaryOp .Add) (rAddA X.K) := op_add.or (op_add_str.or (op_catA.or op_cat))
def zAdd : ZR2 := fun d e M Q => match d, e with
  | .v (.int i), .v (.int j) => Q (.v (.int (i + j))) M
  | .v (.str x), .v (.str y) => x.length + y.length ≤ sizeLine ∧ Q (.v (.str (x ++ y))) M
  | .tup xs, .tup ys => xs.length + ys.length ≤ sizeLine ∧ Q (.tup (xs ++ ys)) M
  | .lst xs, .lst ys => xs.length + ys.length ≤ sizeLine ∧ Q (.lst (xs ++ ys)) M
  | _, _ => False
theorem nil_of {K : PySem.W.Frag} {F : Hp} {ds : List D} {xs : List V} (r : Reps K F ds xs) (h : xs = []) : ds = [] := by
  subst h
  cases r
  rfl
theorem lr_add {K : PySem.W.Frag} : LR2 K (rAddA K) zAdd := fun w x y d e Qz Q s rx ry c h => by
  unfold zAdd at h
  split at h
  · exact .inl ⟨_, _, rx.v_inv, ry.v_inv, c.go s (.v _) h⟩
  · exact .inr (.inl ⟨_, _, rx.v_inv, ry.v_inv, h.1, c.go s (.v _) h.2⟩)
  · obtain ⟨a, xs, rfl, q1, r1⟩ := rx.tup_inv
    obtain ⟨b, ys, rfl, q2, r2⟩ := ry.tup_inv
    refine .inr (.inr (.inl ⟨a, b, xs, ys, rfl, rfl, sqT_le s.sub q1, sqT_le s.sub q2, by rw [← r1.len, ← r2.len]; exact h.1, fun e => ?_, fun _ e => ?_, fun _ _ p hp => ?_⟩))
    · have h2 := h.2
      rw [nil_of r1 e, List.nil_append] at h2
      exact c.go s ry h2
    · have h2 := h.2
      rw [nil_of r2 e, List.append_nil] at h2
      exact c.go s rx h2
    · exact c.new s hp (.tup upd_same ((r1.app r2).le (Le.put (s.nF hp)))) h.2
  · obtain ⟨a, xs, rfl, q1, r1⟩ := rx.lst_inv
    obtain ⟨b, ys, rfl, q2, r2⟩ := ry.lst_inv
    exact .inr (.inr (.inr ⟨a, b, xs, ys, rfl, rfl, s.sub _ _ q1, s.sub _ _ q2, by rw [← r1.len, ← r2.len]; exact h.1, fun p hp =>
      c.new s hp (.lst upd_same ((r1.app r2).le (Le.put (s.nF hp)))) h.2⟩))
  · exact h.elim

/-! ### == and != of data, at any depth -/
mutual
def toPy : D → PyData
  | .v .non => .none
  | .v (.bl b) => .bool b
  | .v (.int i) => .int i
  | .v (.str x) => .str x
  | .v _ => .none
  | .tup ds => .tuple (toPys ds)
  | .lst ds => .list (toPys ds)
  | .rd ds => .list (toPys ds)
  | .dct _ => .none
  | .ins _ _ => .none
def toPys : List D → List PyData
  | [] => []
  | d :: ds => toPy d :: toPys ds
end
mutual
/-- data of None, flags, numbers, texts, tuples, lists -/
def plD : D → Bool
  | .v .non => true
  | .v (.bl _) => true
  | .v (.int _) => true
  | .v (.str x) => PyData.strOk x
  | .v _ => false
  | .tup ds => plDs ds
  | .lst ds => plDs ds
  | .rd ds => plDs ds
  | .dct _ => false
  | .ins _ _ => false
def plDs : List D → Bool
  | [] => true
  | d :: ds => plD d && plDs ds
end
mutual
theorem dp_of {K : PySem.W.Frag} {F : Hp} : ∀ {d : D} {x : V}, Rep K F d x → plD d = true → Dp K F x (toPy d)
  | .v .non, _, .v _, _ => .non
  | .v (.bl b), _, .v _, _ => .bl b
  | .v (.int b), _, .v _, _ => .int b
  | .v (.str b), _, .v _, _ => .str b
  | .tup ds, _, .tup a r, h => .tup (SqT.of a) (dps_of r h)
  | .lst ds, _, .lst a r, h => .lst (SqL.of a) (dps_of r h)
  | .rd ds, _, .rd a r, h => .lst a (dps_of r h)
theorem dps_of {K : PySem.W.Frag} {F : Hp} : ∀ {ds : List D} {xs : List V}, Reps K F ds xs → plDs ds = true → DpAll K F xs (toPys ds)
  | [], _, .nil, _ => .nil
  | d :: ds, _, .cons a r, h => .cons (dp_of a (Bool.and_eq_true_iff.mp h).1) (dps_of r (Bool.and_eq_true_iff.mp h).2)
end
mutual
theorem dp_le {K : PySem.W.Frag} {F G : Hp} (l : Le F G) : ∀ {x : V} {d : PyData}, Dp K F x d → Dp K G x d
  | _, _, .non => .non
  | _, _, .bl b => .bl b
  | _, _, .int b => .int b
  | _, _, .str b => .str b
  | _, _, .lst a r => .lst (sqL_le l a) (dps_le l r)
  | _, _, .tup a r => .tup (sqT_le l a) (dps_le l r)
theorem dps_le {K : PySem.W.Frag} {F G : Hp} (l : Le F G) : ∀ {xs : List V} {ds : List PyData}, DpAll K F xs ds → DpAll K G xs ds
  | _, _, .nil => .nil
  | _, _, .cons a r => .cons (dp_le l a) (dps_le l r)
end
def okD (d : D) : Prop := plD d = true ∧ SeqAt.shaped (toPy d) = true
def eqD (d e : D) : Bool := PyData.eqv (toPy d) (toPy e)
def zEq : ZR2 := fun d e M Q => okD d ∧ okD e ∧ Q (.v (.bl (eqD d e))) M
def zNe : ZR2 := fun d e M Q => okD d ∧ okD e ∧ Q (.v (.bl (!eqD d e))) M
section
variable {K : PySem.W.Frag}
theorem lr_eq : LR2 K (rEqD K) zEq := fun w x y d e Qz Q s rx ry c h => ⟨toPy d, toPy e, dp_le s.sub (dp_of rx h.1.1), dp_le s.sub (dp_of ry h.2.1.1), h.1.2, h.2.1.2, c.go s (.v _) h.2.2⟩
theorem lr_ne : LR2 K (rNeD K) zNe := fun w x y d e Qz Q s rx ry c h => ⟨toPy d, toPy e, dp_le s.sub (dp_of rx h.1.1), dp_le s.sub (dp_of ry h.2.1.1), h.1.2, h.2.1.2, c.go s (.v _) h.2.2⟩
end

/-! ### is None -/
def isNon : D → Bool
  | .v .non => true
  | _ => false
theorem isNon_rep {K : PySem.W.Frag} {F : Hp} {d : D} {x : V} (r : Rep K F d x) : decide (x = .non) = isNon d := by
  cases r with
  | v => cases x <;> rfl
  | _ => rfl
def zIsN : ZR2 := fun d e M Q => match e with | .v .non => Q (.v (.bl (isNon d))) M | _ => False
def zIsNotN : ZR2 := fun d e M Q => match e with | .v .non => Q (.v (.bl (!isNon d))) M | _ => False
section
variable {K : PySem.W.Frag}
theorem lr_isN : LR2 K (fun x y H Q => y = .non ∧ Q (.bl (decide (x = .non))) H) zIsN := fun w x y d e Qz Q s rx ry c h => by
  unfold zIsN at h
  split at h
  · exact ⟨ry.v_inv, by rw [isNon_rep rx]; exact c.go s (.v _) h⟩
  · exact h.elim
theorem lr_isNotN : LR2 K (fun x y H Q => y = .non ∧ Q (.bl (!decide (x = .non))) H) zIsNotN := fun w x y d e Qz Q s rx ry c h => by
  unfold zIsNotN at h
  split at h
  · exact ⟨ry.v_inv, by rw [isNon_rep rx]; exact c.go s (.v _) h⟩
  · exact h.elim
end

/-! ### in, not in, of flat things -/
def vOf : D → V
  | .v x => x
  | _ => .non
def isV : D → Bool
  | .v _ => true
  | _ => false
theorem vOf_rep {K : PySem.W.Frag} {F : Hp} {d : D} {x : V} (r : Rep K F d x) (h : isV d = true) : x = vOf d := by
  cases r with
  | v => rfl
  | _ => cases h
theorem vOf_reps {K : PySem.W.Frag} {F : Hp} : ∀ {ds : List D} {xs : List V}, Reps K F ds xs → ds.all isV = true → xs = ds.map vOf
  | _, _, .nil, _ => rfl
  | _, _, .cons a r, h => by
    rw [List.all_cons, Bool.and_eq_true_iff] at h
    rw [vOf_rep a h.1, vOf_reps r h.2]
    rfl
def flD (d : D) : Bool := isV d && flatV (vOf d)
def inD (d : D) (ds : List D) : Bool := inV (vOf d) (ds.map vOf)
def seqOf (M : MS) : D → Option (List D)
  | .tup ds => some ds
  | .lst ds => some ds
  | .rd ds => some ds
  | .v (.ref a) => match M a with | some (.lst ds) => some ds | _ => none
  | _ => none
theorem seqOf_rep {K : PySem.W.Frag} {w : W3} {d : D} {x : V} {ds : List D} (s : Ok K w) (r : Rep K w.F d x) (h : seqOf w.M d = some ds) : ∃ a xs, x = .ref a ∧ (SqL K w.H a xs ∨ SqT K w.H a xs) ∧ Reps K w.F ds xs := by
  unfold seqOf at h
  split at h
  · cases h
    obtain ⟨a, xs, rfl, q, r⟩ := r.tup_inv
    exact ⟨a, xs, rfl, .inr (sqT_le s.sub q), r⟩
  · cases h
    obtain ⟨a, xs, rfl, q, r⟩ := r.lst_inv
    exact ⟨a, xs, rfl, .inl (SqL.of (s.sub _ _ q)), r⟩
  · cases h
    obtain ⟨a, xs, rfl, q, r⟩ := r.rd_inv
    exact ⟨a, xs, rfl, .inl (sqL_le s.sub q), r⟩
  · split at h
    · rename_i a _ es e
      cases h
      obtain ⟨o, e1, e2⟩ := s.mu _ _ e
      cases e2 with
      | lst r' => exact ⟨a, _, r.v_inv, .inl (SqL.of e1), r'⟩
    · cases h
  · cases h
def zIn (neg : Bool) : ZR2 := fun d e M Q => ∃ ds, seqOf M e = some ds ∧ flD d = true ∧ ds.all flD = true ∧ Q (.v (.bl (if neg then !inD d ds else inD d ds))) M
theorem lr_in {K : PySem.W.Frag} {neg : Bool} : LR2 K (rIn K neg) (zIn neg) := fun w x y d e Qz Q s rx ry c h => by
  obtain ⟨ds, e1, h1, h2, q⟩ := h
  obtain ⟨a, xs, rfl, hs, r⟩ := seqOf_rep s ry e1
  have h1' := Bool.and_eq_true_iff.mp h1
  have ex := vOf_rep rx h1'.1
  have exs := vOf_reps r (List.all_eq_true.mpr fun z hz => (Bool.and_eq_true_iff.mp (List.all_eq_true.mp h2 z hz)).1)
  refine ⟨a, xs, rfl, hs, by rw [ex]; exact h1'.2, ?_, ?_⟩
  · rw [exs, List.all_map]
    exact List.all_eq_true.mpr fun z hz => (Bool.and_eq_true_iff.mp (List.all_eq_true.mp h2 z hz)).2
  · have q' := c.go s (.v _) q
    rw [ex, exs]
    cases neg <;> exact q'

/-! ### items -/
def zIx : ZR2 := fun d e M Q => match e with
  | .v (.int i) => (match d with
    | .v (.str z) => z.length ≤ sizeLine ∧ ∃ c, atI z.cps.toList i = some c ∧ Q (.v (.str ⟨#[c]⟩)) M
    | d => ∃ ds f, seqOf M d = some ds ∧ atI ds i = some f ∧ Q f M)
  | _ => False
theorem atI_reps {K : PySem.W.Frag} {F : Hp} {ds : List D} {xs : List V} {i : Int} {d : D} (r : Reps K F ds xs) (h : atI ds i = some d) : ∃ x, atI xs i = some x ∧ Rep K F d x := by
  unfold atI at h ⊢
  rw [← r.len]
  cases e : ixN ds.length i with
  | none => rw [e] at h; cases h
  | some j =>
    rw [e] at h
    exact r.get h
theorem lr_ix {K : PySem.W.Frag} : LR2 K (rIx K) zIx := fun w x y d e Qz Q s rx ry c h => by
  unfold zIx at h
  split at h
  · rename_i i
    have ey := ry.v_inv
    split at h
    · obtain ⟨hz, cc, hc, q⟩ := h
      exact .inr (.inr ⟨_, i, cc, rx.v_inv, ey, hz, hc, c.go s (.v _) q⟩)
    · obtain ⟨ds, f, e1, e2, q⟩ := h
      obtain ⟨a, xs, rfl, hs, r⟩ := seqOf_rep s rx e1
      obtain ⟨z, hz, rz⟩ := atI_reps r e2
      rcases hs with hs | hs
      · exact .inl ⟨a, xs, i, z, rfl, ey, hs, hz, c.go s rz q⟩
      · exact .inr (.inl ⟨a, xs, i, z, rfl, ey, hs, hz, c.go s rz q⟩)
  · exact h.elim
/-- o[i] = v, a list that may change -/
abbrev ZSet := D → D → D → MS → (MS → Prop) → Prop
def zSetL : ZSet := fun o i d M Q => match o, i with
  | .v (.ref a), .v (.int k) => ∃ ds j, M a = some (.lst ds) ∧ ixN ds.length k = some j ∧ Q (mput M a (.lst (ds.set j d)))
  | _, _ => False
def zgSub (zo zi : ZE) (t : ZSet) : ZG := fun d δ M Q => zo δ M fun o M1 => zi δ M1 fun i M2 => t o i d M2 fun M3 => Q δ M3
def LSet (K : PySem.W.Frag) (t : TSet) (z : ZSet) : Prop := ∀ w o i x do_ di d Nz N, Ok K w → Rep K w.F do_ o → Rep K w.F di i → Rep K w.F d x → CtN K w Nz N → z do_ di d w.M Nz → t o i x w.H N
theorem lg_sub {K : PySem.W.Frag} {w0 : W3} {to ti : TE} {zo zi : ZE} {t : TSet} {z : ZSet} (ho : LE K w0 to zo) (hi : LE K w0 ti zi) (hs : LSet K t z) : LG K w0 (gSub to ti t) (zgSub zo zi z) := fun w σ δ x d Nz N l s rs r c h =>
  ho w σ δ _ _ l s rs (fun u o ox lu su ro h1 => hi u σ δ _ _ (l.tr lu) su (rs.le lu.le) (fun v i ix lv sv ri h2 =>
    hs v ox ix x o i d _ _ sv (ro.le lv.le) ri (r.le (lu.tr lv).le) (fun u' lu' su' q => c u' δ σ ((lu.tr lv).tr lu') su' (rs.le ((lu.tr lv).tr lu').le) q) h2) h1) h
theorem lset_list {K : PySem.W.Frag} : LSet K rSetL zSetL := fun w o i x do_ di d Nz N s ro ri r c h => by
  unfold zSetL at h
  split at h
  · rename_i a k
    obtain ⟨ds, j, e1, e2, q⟩ := h
    obtain ⟨ob, e3, e4⟩ := s.mu _ _ e1
    cases e4 with
    | lst r' =>
      rename_i xs
      exact ⟨a, xs, k, j, ro.v_inv, ri.v_inv, e3, by rw [← r'.len]; exact e2, c ⟨w.F, mput w.M a (.lst (ds.set j d)), upd w.H a (.lst (xs.set j x))⟩ (nx_write e1) (Sim.write s e1 (.lst (r'.set r j))) q⟩
  · exact h.elim

/-! ### slices -/
abbrev ZO := ZSt → MS → (Option Int → MS → Prop) → Prop
def LO (K : PySem.W.Frag) (w0 : W3) (t : TO) (z : ZO) : Prop := ∀ w σ δ (Qz : Option Int → MS → Prop) (Q : Option Int → Hp → Prop), Nx w0 w → Ok K w → RepS K w.F δ σ → (∀ u o, Nx w u → Ok K u → Qz o u.M → Q o u.H) → z δ w.M Qz → t σ w.H Q
def zNoPart : ZO := fun _ M Q => Q none M
def zPart (z : ZE) : ZO := fun δ M Q => z δ M fun d M1 => match d with | .v (.int i) => Q (some i) M1 | _ => False
def cutD {α : Type} (xs : List α) (lo hi : Option Int) : List α := (xs.drop (HT.sIx xs.length 0 lo)).take (HT.sIx xs.length xs.length hi - HT.sIx xs.length 0 lo)
def zSl (r : D → Option Int → Option Int → MS → ZQ → Prop) (ze : ZE) (zl zh : ZO) : ZE := fun δ M Q => ze δ M fun d M1 => zl δ M1 fun l M2 => zh δ M2 fun u M3 => r d l u M3 Q
def rSlS (K : PySem.W.Frag) : V → Option Int → Option Int → Hp → VK → Prop := fun x lo hi H Q => rSlL K x lo hi H Q ∨ rSlA K x lo hi H Q
theorem sl_seqA {X : Cx} : SlR X (rSlS X.K) := sl_list.or sl_tupA
def zCut : D → Option Int → Option Int → MS → ZQ → Prop := fun d lo hi M Q => match d with
  | .tup ds => Q (.tup (cutD ds lo hi)) M
  | d => ∃ ds, seqOf M d = some ds ∧ Q (.lst (cutD ds lo hi)) M
section
variable {K : PySem.W.Frag} {w0 : W3} {te : TE} {ze : ZE} {tl th : TO} {zl zh : ZO}
theorem lo_none : LO K w0 tNoPart zNoPart := fun w σ δ Qz Q l s rs c h => c w none (Nx.rf w) s h
theorem lo_some (h1 : LE K w0 te ze) : LO K w0 (tPart te) (zPart ze) := fun w σ δ Qz Q l s rs c h =>
  h1 w σ δ _ _ l s rs (fun u d x lu su r h2 => by
    revert h2
    split
    · exact fun h2 => ⟨_, r.v_inv, c u _ lu su h2⟩
    · exact fun h2 => h2.elim) h
theorem cut_whole {α : Type} {xs : List α} {lo hi : Option Int} (h : HT.sIx xs.length 0 lo = 0 ∧ HT.sIx xs.length xs.length hi = xs.length) : cutD xs lo hi = xs := by
  unfold cutD
  rw [h.1, h.2, List.drop_zero, Nat.sub_zero, List.take_length]
theorem le_cut (h1 : LE K w0 te ze) (h2 : LO K w0 tl zl) (h3 : LO K w0 th zh) : LE K w0 (tSl (rSlS K) te tl th) (zSl zCut ze zl zh) := fun w σ δ Qz Q l s rs c h =>
  h1 w σ δ _ _ l s rs (fun u d x lu su r q1 => h2 u σ δ _ _ (l.tr lu) su (rs.le lu.le) (fun v lo lv sv q2 => h3 v σ δ _ _ (l.tr (lu.tr lv)) sv (rs.le (lu.tr lv).le) (fun u2 hi l3 s3 q3 => by
    have r3 := r.le (lv.tr l3).le
    have cc := c.le ((lu.tr lv).tr l3)
    unfold zCut at q3
    split at q3
    · rename_i ds
      obtain ⟨a, xs, rfl, q, r4⟩ := r3.tup_inv
      refine .inr ⟨a, xs, rfl, sqT_le s3.sub q, fun e => ?_, fun e p hp => ?_⟩
      · rw [← r4.len] at e
        rw [cut_whole e] at q3
        exact cc.go s3 r3 q3
      · refine cc.new s3 hp (.tup upd_same ?_) q3
        have rr := ((r4.drop (HT.sIx xs.length 0 lo)).take (HT.sIx xs.length xs.length hi - HT.sIx xs.length 0 lo)).le (Le.put (o := .tup (cutV xs lo hi)) (s3.nF hp))
        unfold cutD
        rw [r4.len]
        exact rr
    · obtain ⟨ds, e1, q3⟩ := q3
      rename_i nt
      have key : ∃ a xs, x = .ref a ∧ SqL K u2.H a xs ∧ Reps K u2.F ds xs := by
        obtain ⟨a, xs, rfl, hs, r4⟩ := seqOf_rep s3 r3 e1
        rcases hs with hs | hs
        · exact ⟨a, xs, rfl, hs, r4⟩
        · unfold seqOf at e1
          split at e1
          · exact absurd rfl (nt _)
          · cases e1
            obtain ⟨a, xs, e, q, r⟩ := r3.lst_inv
            exact ⟨a, xs, e, SqL.of (s3.sub _ _ q), r⟩
          · cases e1
            obtain ⟨a, xs, e, q, r⟩ := r3.rd_inv
            exact ⟨a, xs, e, sqL_le s3.sub q, r⟩
          · split at e1
            · rename_i b _ es e
              cases e1
              obtain ⟨o, e3, e4⟩ := s3.mu _ _ e
              cases e4 with
              | lst r' => exact ⟨b, _, r3.v_inv, SqL.of e3, r'⟩
            · cases e1
          · cases e1
      obtain ⟨a, xs, rfl, hs, r4⟩ := key
      refine .inl ⟨a, xs, rfl, hs, fun p hp => cc.new s3 hp (.lst upd_same ?_) q3⟩
      have rr := ((r4.drop (HT.sIx xs.length 0 lo)).take (HT.sIx xs.length xs.length hi - HT.sIx xs.length 0 lo)).le (Le.put (o := .lst (cutV xs lo hi)) (s3.nF hp))
      unfold cutD
      rw [r4.len]
      exact rr) q2) q1) h
end

/-! ### built-ins -/
/-- len -/
def lenD (M : MS) : D → Option Nat
  | .v (.str x) => if x.length ≤ sizeLine then some x.length else none
  | .dct ks => some ks.length
  | .v (.ref a) => match M a with | some (.lst ds) => some ds.length | some (.dct ks) => some ks.length | _ => none
  | d => (seqOf M d).map List.length
def rLenA (K : PySem.W.Frag) : List V → Hp → VK → Prop := fun xs H Q => (∃ x n, xs = [x] ∧ LenV K x H n ∧ Q (.int n) H) ∨ (∃ d kvs, xs = [.ref d] ∧ Rd H d (.dK kvs) ∧ Q (.int (kvs.length : Nat)) H)
def zLen : ZRA := fun ds M Q => match ds with | [d] => ∃ n, lenD M d = some n ∧ Q (.v (.int (n : Nat))) M | _ => False
theorem lra_len {K : PySem.W.Frag} : LRA K (rLenA K) zLen := fun w xs ds Qz Q s r c h => by
  unfold zLen at h
  split at h
  · rename_i d
    obtain ⟨n, e, q⟩ := h
    cases r with
    | cons a r =>
      cases r
      have q' := c.go s (.v _) q
      unfold lenD at e
      split at e
      · split at e
        · cases e
          exact .inl ⟨_, _, rfl, by rw [a.v_inv]; exact ⟨by assumption, rfl⟩, q'⟩
        · cases e
      · cases e
        obtain ⟨b, o, ys, rfl, e1, r2⟩ := a.dct_inv
        exact .inr ⟨b, ys, rfl, .inr ⟨o, s.sub _ _ e1⟩, by rw [← r2.len]; exact q'⟩
      · split at e
        · rename_i b _ es em
          cases e
          obtain ⟨o, e1, e2⟩ := s.mu _ _ em
          cases e2 with
          | lst r' => exact .inl ⟨_, _, rfl, by rw [a.v_inv]; exact .inl ⟨_, SqL.of e1, r'.len⟩, q'⟩
        · rename_i b _ es em
          cases e
          obtain ⟨o, e1, e2⟩ := s.mu _ _ em
          cases e2 with
          | dct r' => exact .inr ⟨b, _, by rw [a.v_inv], .inl e1, by rw [← r'.len]; exact q'⟩
        · cases e
      · cases e2 : seqOf w.M d with
        | none => rw [e2] at e; cases e
        | some ds =>
          rw [e2] at e
          cases e
          obtain ⟨b, ys, rfl, hs, r2⟩ := seqOf_rep s a e2
          refine .inl ⟨_, _, rfl, ?_, q'⟩
          rcases hs with hs | hs
          · exact .inl ⟨ys, hs, r2.len⟩
          · exact .inr ⟨ys, hs, r2.len⟩
  · exact h.elim
/-- abs, int -/
def zAbs : ZRA := fun ds M Q => match ds with | [.v (.int i)] => Q (.v (.int (if i < 0 then -i else i))) M | _ => False
def zInt : ZRA := fun ds M Q => match ds with | [.v (.int i)] => Q (.v (.int i)) M | [.v (.bl k)] => Q (.v (.int (if k then 1 else 0))) M | _ => False
def zMax2 : ZRA := fun ds M Q => match ds with | [.v (.int i), .v (.int j)] => Q (.v (.int (if j > i then j else i))) M | _ => False
def zMin2 : ZRA := fun ds M Q => match ds with | [.v (.int i), .v (.int j)] => Q (.v (.int (if j < i then j else i))) M | _ => False
/-- tuple(..), list(..) -/
def zTuple : ZRA := fun ds M Q => match ds with | [d] => ∃ es, seqOf M d = some es ∧ Q (.tup es) M | _ => False
def zList : ZRA := fun ds M Q => match ds with | [d] => ∃ es, seqOf M d = some es ∧ Q (.lst es) M | _ => False
def zListM : ZRA := fun ds M Q => match ds with | [d] => ∃ es, seqOf M d = some es ∧ ∀ p, M p = none → Q (.v (.ref p)) (mput M p (.lst es)) | _ => False
def blsOf : List D → Option (List Bool)
  | [] => some []
  | .v (.bl b) :: r => (blsOf r).map (b :: ·)
  | _ => none
def intsOf : List D → Option (List Int)
  | [] => some []
  | .v (.int b) :: r => (intsOf r).map (b :: ·)
  | _ => none
theorem blsOf_reps {K : PySem.W.Frag} {F : Hp} : ∀ {ds : List D} {xs : List V} {bs : List Bool}, Reps K F ds xs → blsOf ds = some bs → xs = bs.map V.bl := by
  intro ds
  induction ds with
  | nil =>
    intro xs bs r h
    cases h
    cases r
    rfl
  | cons d ds ih =>
    intro xs bs r h
    unfold blsOf at h
    split at h
    · rename_i e; cases e
    · rename_i b r' e
      cases e
      cases r with
      | cons a r =>
        cases h2 : blsOf ds with
        | none => rw [h2] at h; cases h
        | some cs =>
          rw [h2] at h
          cases h
          rw [a.v_inv, ih r h2]
          rfl
    · cases h
theorem intsOf_reps {K : PySem.W.Frag} {F : Hp} : ∀ {ds : List D} {xs : List V} {bs : List Int}, Reps K F ds xs → intsOf ds = some bs → xs = bs.map V.int := by
  intro ds
  induction ds with
  | nil =>
    intro xs bs r h
    cases h
    cases r
    rfl
  | cons d ds ih =>
    intro xs bs r h
    unfold intsOf at h
    split at h
    · rename_i e; cases e
    · rename_i b r' e
      cases e
      cases r with
      | cons a r =>
        cases h2 : intsOf ds with
        | none => rw [h2] at h; cases h
        | some cs =>
          rw [h2] at h
          cases h
          rw [a.v_inv, ih r h2]
          rfl
    · cases h
def lsOf (M : MS) : D → Option (List D)
  | .lst ds => some ds
  | .rd ds => some ds
  | .v (.ref a) => match M a with | some (.lst ds) => some ds | _ => none
  | _ => none
theorem lsOf_rep {K : PySem.W.Frag} {w : W3} {d : D} {x : V} {ds : List D} (s : Ok K w) (r : Rep K w.F d x) (h : lsOf w.M d = some ds) : ∃ a xs, x = .ref a ∧ SqL K w.H a xs ∧ Reps K w.F ds xs := by
  unfold lsOf at h
  split at h
  · cases h
    obtain ⟨a, xs, rfl, q, r⟩ := r.lst_inv
    exact ⟨a, xs, rfl, SqL.of (s.sub _ _ q), r⟩
  · cases h
    obtain ⟨a, xs, rfl, q, r⟩ := r.rd_inv
    exact ⟨a, xs, rfl, sqL_le s.sub q, r⟩
  · split at h
    · rename_i a _ es e
      cases h
      obtain ⟨o, e1, e2⟩ := s.mu _ _ e
      cases e2 with
      | lst r' => exact ⟨a, _, r.v_inv, SqL.of e1, r'⟩
    · cases h
  · cases h
def zAll : ZRA := fun ds M Q => match ds with | [d] => ∃ es bs, lsOf M d = some es ∧ blsOf es = some bs ∧ Q (.v (.bl (bs.all id))) M | _ => False
def zAny : ZRA := fun ds M Q => match ds with | [d] => ∃ es bs, lsOf M d = some es ∧ blsOf es = some bs ∧ Q (.v (.bl (bs.any id))) M | _ => False
def zSum : ZRA := fun ds M Q => match ds with | [d] => ∃ es bs, lsOf M d = some es ∧ intsOf es = some bs ∧ Q (.v (.int bs.sum)) M | _ => False
section
variable {K : PySem.W.Frag}
theorem lra_abs : LRA K (fun xs H Q => ∃ i, xs = [.int i] ∧ Q (.int (if i < 0 then -i else i)) H) zAbs := fun w xs ds Qz Q s r c h => by
  unfold zAbs at h
  split at h
  · cases r with
    | cons a r => cases r; exact ⟨_, by rw [a.v_inv], c.go s (.v _) h⟩
  · exact h.elim
theorem lra_int : LRA K (fun xs H Q => (∃ i, xs = [.int i] ∧ Q (.int i) H) ∨ ∃ k, xs = [.bl k] ∧ Q (.int (if k then 1 else 0)) H) zInt := fun w xs ds Qz Q s r c h => by
  unfold zInt at h
  split at h
  · cases r with
    | cons a r => cases r; exact .inl ⟨_, by rw [a.v_inv], c.go s (.v _) h⟩
  · cases r with
    | cons a r => cases r; exact .inr ⟨_, by rw [a.v_inv], c.go s (.v _) h⟩
  · exact h.elim
theorem lra_max2 : LRA K (fun xs H Q => ∃ i j, xs = [.int i, .int j] ∧ Q (.int (if j > i then j else i)) H) zMax2 := fun w xs ds Qz Q s r c h => by
  unfold zMax2 at h
  split at h
  · cases r with
    | cons a r => cases r with
      | cons b r => cases r; exact ⟨_, _, by rw [a.v_inv, b.v_inv], c.go s (.v _) h⟩
  · exact h.elim
theorem lra_min2 : LRA K (fun xs H Q => ∃ i j, xs = [.int i, .int j] ∧ Q (.int (if j < i then j else i)) H) zMin2 := fun w xs ds Qz Q s r c h => by
  unfold zMin2 at h
  split at h
  · cases r with
    | cons a r => cases r with
      | cons b r => cases r; exact ⟨_, _, by rw [a.v_inv, b.v_inv], c.go s (.v _) h⟩
  · exact h.elim
theorem lra_tuple : LRA K (fun xs H Q => ∃ p ys, xs = [.ref p] ∧ ((SqL K H p ys ∧ ∀ l, H l = none → Q (.ref l) (upd H l (.tup ys))) ∨ (SqT K H p ys ∧ Q (.ref p) H))) zTuple := fun w xs ds Qz Q s r c h => by
  unfold zTuple at h
  split at h
  · rename_i d
    obtain ⟨es, e1, q⟩ := h
    cases r with
    | cons a r =>
      cases r
      by_cases hl : ∃ es', lsOf w.M d = some es'
      · obtain ⟨es', e2⟩ := hl
        obtain ⟨b, ys, rfl, hs, r2⟩ := lsOf_rep s a e2
        have ee : es' = es := by
          unfold lsOf at e2
          unfold seqOf at e1
          cases d with
          | lst z => cases e1; cases e2; rfl
          | rd z => cases e1; cases e2; rfl
          | v y =>
            cases y with
            | ref z => exact Option.some.inj (e2.symm.trans e1)
            | _ => cases e1
          | _ => cases e2
        subst ee
        exact ⟨b, ys, rfl, .inl ⟨hs, fun l hl => c.new s hl (.tup upd_same (r2.le (Le.put (s.nF hl)))) q⟩⟩
      · unfold seqOf at e1
        unfold lsOf at hl
        cases d with
        | tup z =>
          cases e1
          obtain ⟨b, ys, rfl, hs, r2⟩ := a.tup_inv
          exact ⟨b, ys, rfl, .inr ⟨sqT_le s.sub hs, c.go s a q⟩⟩
        | lst z => exact absurd ⟨z, rfl⟩ hl
        | rd z => exact absurd ⟨z, rfl⟩ hl
        | v y =>
          cases y with
          | ref z => exact absurd ⟨_, e1⟩ hl
          | _ => cases e1
        | _ => cases e1
  · exact h.elim
theorem lra_list : LRA K (fun xs H Q => ∃ p ys, xs = [.ref p] ∧ (SqL K H p ys ∨ SqT K H p ys) ∧ ∀ l, H l = none → Q (.ref l) (upd H l (.lst ys))) zList := fun w xs ds Qz Q s r c h => by
  unfold zList at h
  split at h
  · obtain ⟨es, e1, q⟩ := h
    cases r with
    | cons a r =>
      cases r
      obtain ⟨b, ys, rfl, hs, r2⟩ := seqOf_rep s a e1
      exact ⟨b, ys, rfl, hs, fun l hl => c.new s hl (.lst upd_same (r2.le (Le.put (s.nF hl)))) q⟩
  · exact h.elim
theorem lra_listM : LRA K (fun xs H Q => ∃ p ys, xs = [.ref p] ∧ (SqL K H p ys ∨ SqT K H p ys) ∧ ∀ l, H l = none → Q (.ref l) (upd H l (.lst ys))) zListM := fun w xs ds Qz Q s r c h => by
  unfold zListM at h
  split at h
  · obtain ⟨es, e1, q⟩ := h
    cases r with
    | cons a r =>
      cases r
      obtain ⟨b, ys, rfl, hs, r2⟩ := seqOf_rep s a e1
      exact ⟨b, ys, rfl, hs, fun l hl => c.alloc s hl (.lst r2) (q l (s.nM hl))⟩
  · exact h.elim
theorem lra_all : LRA K (rAll K) zAll := fun w xs ds Qz Q s r c h => by
  unfold zAll at h
  split at h
  · obtain ⟨es, bs, e1, e2, q⟩ := h
    cases r with
    | cons a r =>
      cases r
      obtain ⟨b, ys, rfl, hs, r2⟩ := lsOf_rep s a e1
      exact ⟨b, bs, rfl, by rw [← blsOf_reps r2 e2]; exact hs, c.go s (.v _) q⟩
  · exact h.elim
theorem lra_any : LRA K (rAny K) zAny := fun w xs ds Qz Q s r c h => by
  unfold zAny at h
  split at h
  · obtain ⟨es, bs, e1, e2, q⟩ := h
    cases r with
    | cons a r =>
      cases r
      obtain ⟨b, ys, rfl, hs, r2⟩ := lsOf_rep s a e1
      exact ⟨b, bs, rfl, by rw [← blsOf_reps r2 e2]; exact hs, c.go s (.v _) q⟩
  · exact h.elim
theorem lra_sum : LRA K (rSum K) zSum := fun w xs ds Qz Q s r c h => by
  unfold zSum at h
  split at h
  · obtain ⟨es, bs, e1, e2, q⟩ := h
    cases r with
    | cons a r =>
      cases r
      obtain ⟨b, ys, rfl, hs, r2⟩ := lsOf_rep s a e1
      exact ⟨b, bs, rfl, by rw [← intsOf_reps r2 e2]; exact hs, c.go s (.v _) q⟩
  · exact h.elim
end
end Zl
namespace Zl
open PySem PySem.Spec PyProof.Rows L2

/-! ### a def of the text, what it promises -/
structure FunAt (K : PySem.W.Frag) (mg : Str → Option Value) (x qual : Str) (st : Stmt) (ps : List Str) : Prop where
  ex : ∃ (f : Addr) (fd : FuncData), FunD K x qual (defArgs st) (defBody st) (defScope st) [] [] f fd ∧ mg x = some (.ref f) ∧ L2.Binds K fd ps []
structure MethIn (K : PySem.W.Frag) (C : Addr) (m qual : Str) (st : Stmt) (ps : List Str) : Prop where
  ex : ∃ (f : Addr) (fd : FuncData), FunD K m qual (defArgs st) (defBody st) (defScope st) [] [] f fd ∧ Meth K C m f ∧ L2.Binds K fd ps []
structure DefAt (P : Program) (w : World) (K : PySem.W.Frag) (mg : Str → Option Value) (base : Heap) (k : Nat) (x : Str) (ps : List Str) (zp : ZSp) : Prop where
  ex : ∃ (f : Addr) (fd : FuncData), FnOk P w K mg base (L2N.CX P w) k f fd ps (spOf K zp) ∧ mg x = some (.ref f) ∧ PySem.W.keepIn K (.ref f) = true ∧ L2.Binds K fd ps []
structure MethAt (P : Program) (w : World) (K : PySem.W.Frag) (mg : Str → Option Value) (base : Heap) (k : Nat) (C : Addr) (m : Str) (ps : List Str) (zp : ZSp) : Prop where
  ex : ∃ (f : Addr) (fd : FuncData), FnOk P w K mg base (L2N.CX P w) k f fd ps (spOf K zp) ∧ Meth K C m f ∧ L2.Binds K fd ps []
  cl : Cls K C
structure MakeAt (P : Program) (w : World) (K : PySem.W.Frag) (mg : Str → Option Value) (base : Heap) (k : Nat) (x : Str) (C : Addr) (ps : List Str) (zp : ZSp) : Prop where
  ex : ∃ (f : Addr) (fd : FuncData), FnOk P w K mg base (L2N.CX P w) k f fd ps (spOf K zp) ∧ Mk K C f ∧ mg x = some (.ref C) ∧ L2.Binds K fd ps []
section
variable {P : Program} {w : World} {K : PySem.W.Frag} {mg : Str → Option Value} {base : Heap}
theorem DefAt.mono {j k : Nat} {x : Str} {ps : List Str} {zp : ZSp} (d : DefAt P w K mg base j x ps zp) (h : j ≤ k) : DefAt P w K mg base k x ps zp :=
  let ⟨f, fd, F, a, b, c⟩ := d.ex; ⟨f, fd, F.mono h, a, b, c⟩
theorem MethAt.mono {j k : Nat} {C : Addr} {x : Str} {ps : List Str} {zp : ZSp} (d : MethAt P w K mg base j C x ps zp) (h : j ≤ k) : MethAt P w K mg base k C x ps zp :=
  ⟨let ⟨f, fd, F, a, b⟩ := d.ex; ⟨f, fd, F.mono h, a, b⟩, d.cl⟩
theorem MakeAt.mono {j k : Nat} {C : Addr} {x : Str} {ps : List Str} {zp : ZSp} (d : MakeAt P w K mg base j x C ps zp) (h : j ≤ k) : MakeAt P w K mg base k x C ps zp :=
  let ⟨f, fd, F, a, b, c⟩ := d.ex; ⟨f, fd, F.mono h, a, b, c⟩
abbrev zstart (n : Nat) (ds : List D) : ZSt := ds.map some ++ List.replicate (n - ds.length) none
/-- the wish of a def's own body -/
abbrev WB (E : XK) : WX := fun c d _ H => E c d H
abbrev WBz (Ez : ZX) : ZW := fun C fs _ M => Ez C fs M
theorem ctW_of {w0 : W3} {E : XK} {Ez : ZX} (h : CtX K w0 Ez E) : CtW K w0 (WBz Ez) (WB E) := fun u C d fs _ _ l s _ x q => h u C d fs l s x q
theorem zok_core {x qual : Str} {st : Stmt} {N ps : List Str} {k : Nat} {zp : ZSp} {f : Addr} {fd : FuncData} (F : FunD K x qual (defArgs st) (defBody st) (defScope st) [] [] f fd) (S : FnScope N ps (defScope st)) (hl : ∀ ds M Q E, zp ds M Q E → ds.length = ps.length)
    (hb : ∀ (cdv : Value) (A : Around) (outer : List Env) (s : Shared) (H : Hp) (E : XK) (w0 : W3) (Ez : ZX), Room k (A.deeper (envOfC qual (defScope st) s.heap.objs.size f cdv)) → CtW K w0 (WBz Ez) (WB E) →
      ∃ (t : TS) (z : ZS), PSs (cxOf (L2N.CX P w) P w K mg base N qual (defScope st) f cdv A outer s H E) (defBody st) t ∧ LS K w0 t z ∧
        ∀ ds Qz, zp ds w0.M Qz Ez → z { nx := fun _ M' => Qz (.v .non) M', rt := Qz } (zstart N.length ds) w0.M) : FnOk P w K mg base (L2N.CX P w) (k + 1) f fd ps (spOf K zp) := by
  refine FunD.ok F S (fun vs H Q E h => ?_) (fun cdv A outer s H vs Q E hr h => ?_)
  · obtain ⟨w, ds, Qz, Ez, rfl, ok, r, _, _, h⟩ := h
    rw [← r.len]
    exact hl _ _ _ _ h
  · obtain ⟨w0, ds, Qz, Ez, rfl, ok, r, cq, cx, h⟩ := h
    obtain ⟨t, z, hp, hz, hh⟩ := hb cdv A outer s w0.H E w0 Ez hr (ctW_of cx)
    refine ⟨t, hp, hz w0 _ _ { nx := fun _ M' => Qz (.v .non) M', rt := Qz } _ (Nx.rf w0) ok (RepS.start r N.length) ⟨fun u δ σ lu su ru q => cq u _ _ lu su (.v _) q, cq, fun _ _ _ _ _ _ q => q, fun _ _ _ _ _ _ q => q⟩ (hh ds Qz h)⟩
theorem zok {x qual : Str} {st : Stmt} {N ps : List Str} {k : Nat} {zp : ZSp} (T : FunAt K mg x qual st ps) (S : FnScope N ps (defScope st)) (hl : ∀ ds M Q E, zp ds M Q E → ds.length = ps.length)
    (hb : ∀ (f : Addr) (cdv : Value) (A : Around) (outer : List Env) (s : Shared) (H : Hp) (E : XK) (w0 : W3) (Ez : ZX), Room k (A.deeper (envOfC qual (defScope st) s.heap.objs.size f cdv)) → CtW K w0 (WBz Ez) (WB E) →
      ∃ (t : TS) (z : ZS), PSs (cxOf (L2N.CX P w) P w K mg base N qual (defScope st) f cdv A outer s H E) (defBody st) t ∧ LS K w0 t z ∧
        ∀ ds Qz, zp ds w0.M Qz Ez → z { nx := fun _ M' => Qz (.v .non) M', rt := Qz } (zstart N.length ds) w0.M) : DefAt P w K mg base (k + 1) x ps zp := by
  obtain ⟨f, fd, F, e, b⟩ := T.ex
  exact ⟨f, fd, zok_core F S hl (hb f), e, F.kp, b⟩
theorem zokM {C : Addr} {x qual : Str} {st : Stmt} {N ps : List Str} {k : Nat} {zp : ZSp} (T : MethIn K C x qual st ps) (c : Cls K C) (S : FnScope N ps (defScope st)) (hl : ∀ ds M Q E, zp ds M Q E → ds.length = ps.length)
    (hb : ∀ (f : Addr) (cdv : Value) (A : Around) (outer : List Env) (s : Shared) (H : Hp) (E : XK) (w0 : W3) (Ez : ZX), Room k (A.deeper (envOfC qual (defScope st) s.heap.objs.size f cdv)) → CtW K w0 (WBz Ez) (WB E) →
      ∃ (t : TS) (z : ZS), PSs (cxOf (L2N.CX P w) P w K mg base N qual (defScope st) f cdv A outer s H E) (defBody st) t ∧ LS K w0 t z ∧
        ∀ ds Qz, zp ds w0.M Qz Ez → z { nx := fun _ M' => Qz (.v .non) M', rt := Qz } (zstart N.length ds) w0.M) : MethAt P w K mg base (k + 1) C x ps zp := by
  obtain ⟨f, fd, F, e, b⟩ := T.ex
  exact ⟨⟨f, fd, zok_core F S hl (hb f), e, b⟩, c⟩
theorem DefAt.imp {k : Nat} {x : Str} {ps : List Str} {zp zq : ZSp} (d : DefAt P w K mg base k x ps zp) (h : ∀ ds M Q E, zq ds M Q E → zp ds M Q E) : DefAt P w K mg base k x ps zq :=
  let ⟨f, fd, F, a, b, c⟩ := d.ex
  ⟨f, fd, F.imp fun vs H Q E ⟨w, ds, Qz, Ez, e, ok, r, cq, cx, hh⟩ => ⟨w, ds, Qz, Ez, e, ok, r, cq, cx, h _ _ _ _ hh⟩, a, b, c⟩
end
section
variable {X : Cx} {k : Nat} {C : Addr} {ps : List Str} {zp : ZSp} {W : WX} {x m : Str} {p pos apos : Pos} {e o : Expr} {es : List Expr} {ta : TE} {t : TA}
theorem zc_call (d : DefAt X.prog X.w X.K X.mg X.base k x ps zp) (hr : Room k X.A) (hg : Gl X x) (tk : L2N.Takes X W)
    (ha : PA X (e :: es) t) (hdb : (x == ("__debug__" : Str)) = false := by decide) (he : starEach (e :: es) X.env = (false, eval e X.env) :: starEach es X.env := by rfl) (hpl : (backTo pos (starEach es X.env)).any (·.1) = false := by rfl) :
    PE X (.Call (.Name x p) (e :: es) [] pos) (tCallW (spOf X.K zp) W t) :=
  let ⟨_, _, F, a, b, c⟩ := d.ex; pc_call F hr hg a b c tk ha hdb he hpl
theorem zc_call0 (d : DefAt X.prog X.w X.K X.mg X.base k x ps zp) (hr : Room k X.A) (hg : Gl X x) (tk : L2N.Takes X W) (hdb : (x == ("__debug__" : Str)) = false := by decide) :
    PE X (.Call (.Name x p) [] [] pos) (tCallW (spOf X.K zp) W tNil) :=
  let ⟨_, _, F, a, b, c⟩ := d.ex; pc_call0 F hr hg a b c tk hdb
theorem zc_meth {pl : Sem Bool} (d : MethAt X.prog X.w X.K X.mg X.base k C m ps zp) (hr : Room k X.A) (tk : L2N.Takes X W) (he : PE X o ta) (ha : PA X (e :: es) t)
    (hst : starEach (e :: es) X.env = (false, eval e X.env) :: starEach es X.env := by rfl) (hpl : (backTo pos (starEach es X.env)).any (·.1) = false := by rfl)
    (ht : eval (.Call (.Attribute o m apos) (e :: es) [] pos) X.env = (do
      let ov ← eval o X.env
      standAt apos.atName
      let (g, first) ← holding [ov] (getMethod ov m pl)
      callWith pos g first (backTo pos (starEach (e :: es) X.env)) (backToKw pos (keywordEach [] X.env))) := by rfl) :
    PE X (.Call (.Attribute o m apos) (e :: es) [] pos) (tMethW C m (spOf X.K zp) W ta t) :=
  let ⟨_, _, F, a, b⟩ := d.ex; pc_meth he d.cl a F hr b tk ha hst hpl ht
theorem zc_meth0 {pl : Sem Bool} (d : MethAt X.prog X.w X.K X.mg X.base k C m ps zp) (hr : Room k X.A) (tk : L2N.Takes X W) (he : PE X o ta)
    (ht : eval (.Call (.Attribute o m apos) [] [] pos) X.env = (do
      let ov ← eval o X.env
      standAt apos.atName
      let (g, first) ← holding [ov] (getMethod ov m pl)
      callWith pos g first (backTo pos (starEach [] X.env)) (backToKw pos (keywordEach [] X.env))) := by rfl) :
    PE X (.Call (.Attribute o m apos) [] [] pos) (tMethW C m (spOf X.K zp) W ta tNil) :=
  let ⟨_, _, F, a, b⟩ := d.ex; pc_meth0 he d.cl a F hr b tk ht
theorem zc_make (d : MakeAt X.prog X.w X.K X.mg X.base k x C ps zp) (hr : Room (k + 1) X.A) (hg : Gl X x) (tk : L2N.Takes X W)
    (ha : PA X (e :: es) t) (hdb : (x == ("__debug__" : Str)) = false := by decide) (he : starEach (e :: es) X.env = (false, eval e X.env) :: starEach es X.env := by rfl) (hpl : (backTo pos (starEach es X.env)).any (·.1) = false := by rfl) :
    PE X (.Call (.Name x p) (e :: es) [] pos) (tMakeW C (spOf X.K zp) W t) :=
  let ⟨_, _, F, M, a, c⟩ := d.ex; pc_make M F hr hg a c tk ha hdb he hpl
end

/-! ### attributes -/
structure FldOk (K : PySem.W.Frag) (C : Addr) (f : Str) : Prop where
  c : Cls K C
  n : NoAttr K C f
def zFld (K : PySem.W.Frag) (z : ZE) (f : Str) : ZE := fun δ M Q => z δ M fun d M1 => match d with
  | .ins C fs => FldOk K C f ∧ ∃ e, fs.lookup f = some e ∧ Q e M1
  | .v (.ref a) => ∃ C dx fs e, M1 a = some (.ins C dx fs) ∧ FldOk K C f ∧ fs.lookup f = some e ∧ Q e M1
  | _ => False
def zsFld (K : PySem.W.Frag) (zo zv : ZE) (f : Str) : ZS := fun D δ M => zv δ M fun e M1 => zo δ M1 fun o M2 => match o with
  | .v (.ref a) => ∃ C dx fs, M2 a = some (.ins C dx fs) ∧ FldOk K C f ∧ fs.length < 1000 ∧ D.nx δ (mput M2 a (.ins C dx (putD f e fs)))
  | _ => False
section
variable {K : PySem.W.Frag} {w0 : W3} {te tv : TE} {ze zv : ZE} {f : Str}
theorem le_fld (h1 : LE K w0 te ze) : LE K w0 (tFld K te f) (zFld K ze f) := fun w σ δ Qz Q l s rs c h =>
  h1 w σ δ _ _ l s rs (fun u d x lu su r h2 => by
    revert h2
    split
    · rintro ⟨k, e, e1, q⟩
      obtain ⟨a, dx, ys, rfl, e2, r2⟩ := r.ins_inv
      obtain ⟨y, e3, r3⟩ := r2.look.2 e e1
      exact ⟨a, _, dx, ys, y, rfl, su.sub _ _ e2, k.c, k.n, e3, (c.le lu).go su r3 q⟩
    · rintro ⟨C, dx, fs, e, e0, k, e1, q⟩
      obtain ⟨o, e2, e3⟩ := su.mu _ _ e0
      cases e3 with
      | ins r2 =>
        obtain ⟨y, e3, r3⟩ := r2.look.2 e e1
        exact ⟨_, C, dx, _, y, r.v_inv, e2, k.c, k.n, e3, (c.le lu).go su r3 q⟩
    · exact fun h => h.elim) h
theorem ls_fld (h1 : LE K w0 te ze) (h2 : LE K w0 tv zv) : LS K w0 (sFld K te tv f) (zsFld K ze zv f) := fun w σ δ Dz D l s rs c h =>
  h2 w σ δ _ _ l s rs (fun u e y lu su ry h3 => h1 u σ δ _ _ (l.tr lu) su (rs.le lu.le) (fun v o x lv sv rx h4 => by
    revert h4
    split
    · rename_i a
      rintro ⟨C, dx, fs, e0, k, hl, q⟩
      obtain ⟨ob, e2, e3⟩ := sv.mu _ _ e0
      cases e3 with
      | ins r2 =>
        rename_i ys
        refine ⟨a, C, dx, ys, rx.v_inv, e2, k.c, k.n, by rw [← r2.len]; exact hl, ?_⟩
        exact c.nx ⟨v.F, mput v.M a (.ins C dx (putD f e fs)), upd v.H a (.ins C dx (putF f y ys))⟩ _ _ ((lu.tr lv).tr (nx_write e0)) (Sim.write sv e0 (.ins (r2.put (ry.le lv.le)))) (rs.le (lu.tr lv).le) q
    · exact fun h => h.elim) h3) h
end

/-! ### isinstance -/
def tnm (M : MS) : D → Option String
  | .v .non => some "NoneType"
  | .v (.bl _) => some "bool"
  | .v (.int _) => some "int"
  | .v (.str _) => some "str"
  | .tup _ => some "tuple"
  | .lst _ => some "list"
  | .rd _ => some "list"
  | .dct _ => some "dict"
  | .v (.ref a) => match M a with | some (.lst _) => some "list" | some (.dct _) => some "dict" | _ => none
  | _ => none
/-- what of the class at C must be known for isinstance of its instances -/
structure InsC (K : PySem.W.Frag) (C : Addr) : Prop where
  c : Cls K C
  a : PySem.W.findIn K (.ref C) "__class__" = some (some (.builtin "object.__class__"))
  n : PySem.W.specialIn K (.builtin "object.__class__") "__get__" = some (some (.builtin "getset_descriptor.__get__"))
  t : PySem.W.takesIn K (.builtin "object.__class__") = some true
  m : PySem.W.mroIn K C (.type "object") = some true
def tyD (K : PySem.W.Frag) (M : MS) (d : D) (t : Value) : Prop := (∃ n, tnm M d = some n ∧ t = .type n) ∨
  ∃ C, t = .ref C ∧ InsC K C ∧ ((∃ fs, d = .ins C fs) ∨ ∃ a dx fs, d = .v (.ref a) ∧ M a = some (.ins C dx fs))
theorem tyD_rep {K : PySem.W.Frag} {w : W3} {d : D} {x : V} {t : Value} (s : Ok K w) (r : Rep K w.F d x) (h : tyD K w.M d t) : TyX K w.H x t := by
  rcases h with ⟨n, e, rfl⟩ | ⟨C, rfl, ic, ⟨fs, rfl⟩ | ⟨a, dx, fs, rfl, e⟩⟩
  · unfold tnm at e
    split at e
    · cases e; rw [r.v_inv]; exact .base .non
    · cases e; rw [r.v_inv]; exact .base (.bl _)
    · cases e; rw [r.v_inv]; exact .base (.int _)
    · cases e; rw [r.v_inv]; exact .base (.str _)
    · cases e
      obtain ⟨a, xs, rfl, q, _⟩ := r.tup_inv
      rcases sqT_le s.sub q with (q | ⟨o, q⟩) | ⟨o, its, n, q1, q2, _⟩
      · exact .base (.tup q)
      · exact .fTuple q
      · exact .kTuple q1 q2
    · cases e
      obtain ⟨a, xs, rfl, q, _⟩ := r.lst_inv
      exact .base (.lst (s.sub _ _ q))
    · cases e
      obtain ⟨a, xs, rfl, q, _⟩ := r.rd_inv
      rcases sqL_le s.sub q with (q | ⟨o, q⟩) | ⟨o, its, n, q1, q2, _⟩
      · exact .base (.lst q)
      · exact .base (.frz q)
      · exact .kList q1 q2
    · cases e
      obtain ⟨a, o, xs, rfl, q, _⟩ := r.dct_inv
      exact .fDict (s.sub _ _ q)
    · split at e
      · rename_i a _ ds em
        cases e
        obtain ⟨o, e1, e2⟩ := s.mu _ _ em
        cases e2 with
        | lst r' => rw [r.v_inv]; exact .base (.lst e1)
      · rename_i a _ ds em
        cases e
        obtain ⟨o, e1, e2⟩ := s.mu _ _ em
        cases e2 with
        | dct r' => rw [r.v_inv]; exact .base (.dK e1)
      · cases e
    · cases e
  · obtain ⟨a, dx, ys, rfl, e2, _⟩ := r.ins_inv
    exact .base (.ins (s.sub _ _ e2) ic.c ic.a ic.n ic.t ic.m)
  · obtain ⟨o, e1, e2⟩ := s.mu _ _ e
    cases e2 with
    | ins r' => rw [r.v_inv]; exact .base (.ins e1 ic.c ic.a ic.n ic.t ic.m)
def clD : D → Option Value
  | .v (.ty n) => some (.type n)
  | .v (.ref C) => some (.ref C)
  | _ => none
def clDs : List D → Option (List Value)
  | [] => some []
  | d :: ds => (clD d).bind fun v => (clDs ds).map (v :: ·)
theorem clD_rep {K : PySem.W.Frag} {F : Hp} {d : D} {x : V} {u : Value} (r : Rep K F d x) (h : clD d = some u) : ClsV x u := by
  unfold clD at h
  split at h
  · cases h; rw [r.v_inv]; exact .ty _
  · cases h; rw [r.v_inv]; exact .own _
  · cases h
theorem clDs_rep {K : PySem.W.Frag} {F : Hp} : ∀ {ds : List D} {xs : List V} {us : List Value}, Reps K F ds xs → clDs ds = some us → Paired ClsV xs us
  | [], _, us, .nil, h => by
    cases h
    exact .nil
  | d :: ds, _, us, .cons a r, h => by
    unfold clDs at h
    cases e1 : clD d with
    | none => rw [e1] at h; cases h
    | some v =>
      cases e2 : clDs ds with
      | none => rw [e1, e2] at h; cases h
      | some vs =>
        rw [e1, e2] at h
        cases h
        exact .cons (clD_rep a e1) (clDs_rep r e2)
/-- isinstance(x, (A, B)), the tuple wherever it stands -/
def rIsiS (K : PySem.W.Frag) : List V → Hp → VK → Prop := fun xs H Q => ∃ (x : V) (tp : Addr) (cs : List V) (t : Value) (us : List Value) (b : Bool), xs = [x, .ref tp] ∧ SqT K H tp cs ∧ Paired ClsV cs us ∧ TyX K H x t ∧ PySem.W.kitAny K t us = some b ∧ Q (.bl b) H
theorem call_isiS {X : Cx} : CallR X (.builtin "isinstance") (rIsiS X.K) := by
  intro pins s σ H xs us Q I r hh
  obtain ⟨x, tp, cs, t, ws, b, rfl, hT, kk, ty, e, q⟩ := hh
  obtain ⟨u1, u2, rfl, r1, r2⟩ := vals2 r
  cases (show u2 = Value.ref tp from r2)
  obtain ⟨PP, Z, pz, hx⟩ := kit_of I r1 ty
  obtain ⟨its, rv, ⟨o, h1, h2, n, h3⟩, _⟩ := I.tuple hT
  have e3 := ClsV.all kk rv
  subst e3
  obtain ⟨oc, od, dt, sl⟩ := o
  simp only at h2 h3
  subst h2 h3
  exact PySem.W.kia_tup Z I.kIn pz h1 e hx fun tk => ⟨.bl b, H, I.tok tk, rfl, q⟩
def rIsiA (K : PySem.W.Frag) : List V → Hp → VK → Prop := fun xs H Q => rIsi K xs H Q ∨ rIsiS K xs H Q
theorem call_isiA {X : Cx} : CallR X (.builtin "isinstance") (rIsiA X.K) := call_isi.or call_isiS
def zIsi (K : PySem.W.Frag) : ZRA := fun ds M Q => match ds with
  | [d, .tup cs] => ∃ t us b, tyD K M d t ∧ clDs cs = some us ∧ PySem.W.kitAny K t us = some b ∧ Q (.v (.bl b)) M
  | [d, c] => ∃ t u b, tyD K M d t ∧ clD c = some u ∧ PySem.W.kitOne K t u = some b ∧ Q (.v (.bl b)) M
  | _ => False
theorem lra_isi {K : PySem.W.Frag} : LRA K (rIsiA K) (zIsi K) := fun w xs ds Qz Q s r c h => by
  unfold zIsi at h
  split at h
  · obtain ⟨t, us, b, h1, h2, h3, q⟩ := h
    cases r with
    | cons a r => cases r with
      | cons a2 r =>
        cases r
        obtain ⟨tp, ys, rfl, hs, r3⟩ := a2.tup_inv
        exact .inr ⟨_, tp, ys, t, us, b, rfl, sqT_le s.sub hs, clDs_rep r3 h2, tyD_rep s a h1, h3, c.go s (.v _) q⟩
  · obtain ⟨t, u, b, h1, h2, h3, q⟩ := h
    cases r with
    | cons a r => cases r with
      | cons a2 r =>
        cases r
        exact .inl ⟨_, _, t, u, b, rfl, clD_rep a2 h2, tyD_rep s a h1, h3, c.go s (.v _) q⟩
  · exact h.elim

/-! ### methods of lists that may change -/
def zBM (r : D → ZRA) (zo : ZE) (za : ZA) : ZE := fun δ M Q => zo δ M fun d M1 => (∃ a ds, d = .v (.ref a) ∧ M1 a = some (.lst ds)) ∧ za δ M1 fun es M2 => r d es M2 Q
def zBM0 (r : D → ZRA) (zo : ZE) : ZE := fun δ M Q => zo δ M fun d M1 => (∃ a ds, d = .v (.ref a) ∧ M1 a = some (.lst ds)) ∧ r d [] M1 Q
def zAppend : D → ZRA := fun d es M Q => match d, es with
  | .v (.ref a), [e] => ∃ ds, M a = some (.lst ds) ∧ ds.length < sizeLine ∧ Q (.v .non) (mput M a (.lst (ds ++ [e])))
  | _, _ => False
def zExtend : D → ZRA := fun d es M Q => match d, es with
  | .v (.ref a), [.lst fs] => ∃ ds, M a = some (.lst ds) ∧ ds.length + fs.length ≤ sizeLine ∧ Q (.v .non) (mput M a (.lst (ds ++ fs)))
  | _, _ => False
def zPop : D → ZRA := fun d es M Q => match d, es with
  | .v (.ref a), [] => ∃ ds e, M a = some (.lst (ds ++ [e])) ∧ Q e (mput M a (.lst ds))
  | _, _ => False
section
variable {K : PySem.W.Frag} {w0 : W3} {te : TE} {ze : ZE} {aa : TA} {za : ZA}
theorem le_bmL {r : V → List V → Hp → VK → Prop} {rz : D → ZRA} (hr : LRM K r rz) (h1 : LE K w0 te ze) (h2 : LA K w0 aa za) : LE K w0 (tBM K "list" r te aa) (zBM rz ze za) := fun w σ δ Qz Q l s rs c h =>
  h1 w σ δ _ _ l s rs (fun u d x lu su rx ⟨⟨a, ds, e1, e2⟩, h3⟩ => by
    subst e1
    obtain ⟨o, e3, e4⟩ := su.mu _ _ e2
    cases e4 with
    | lst r' =>
      refine ⟨by rw [rx.v_inv]; exact .inl ⟨rfl, _, SqL.of e3⟩, h2 u σ δ _ _ (l.tr lu) su (rs.le lu.le) (fun v es ys lv sv rv h4 => hr v x ys _ es Qz Q sv (rx.le lv.le) rv (c.le (lu.tr lv)) h4) h3⟩) h
theorem le_bmL0 {r : V → List V → Hp → VK → Prop} {rz : D → ZRA} (hr : LRM K r rz) (h1 : LE K w0 te ze) : LE K w0 (tBM0 K "list" r te) (zBM0 rz ze) := fun w σ δ Qz Q l s rs c h =>
  h1 w σ δ _ _ l s rs (fun u d x lu su rx ⟨⟨a, ds, e1, e2⟩, h3⟩ => by
    subst e1
    obtain ⟨o, e3, e4⟩ := su.mu _ _ e2
    cases e4 with
    | lst r' => exact ⟨by rw [rx.v_inv]; exact .inl ⟨rfl, _, SqL.of e3⟩, hr u x [] _ [] Qz Q su rx .nil (c.le lu) h3⟩) h
theorem lrm_append : LRM K rAppend zAppend := fun w x xs d ds Qz Q s rx r c h => by
  unfold zAppend at h
  split at h
  · rename_i a e
    obtain ⟨fs, e1, hl, q⟩ := h
    obtain ⟨o, e2, e3⟩ := s.mu _ _ e1
    cases e3 with
    | lst r' =>
      rename_i ys
      cases r with
      | cons b r =>
        cases r
        rename_i y
        exact ⟨a, ys, y, rx.v_inv, rfl, e2, by rw [← r'.len]; exact hl, c ⟨w.F, mput w.M a (.lst (fs ++ [e])), upd w.H a (.lst (ys ++ [y]))⟩ _ _ (nx_write e1) (Sim.write s e1 (.lst (r'.snoc b))) (.v _) q⟩
  · exact h.elim
theorem lrm_extend : LRM K rExtend zExtend := fun w x xs d ds Qz Q s rx r c h => by
  unfold zExtend at h
  split at h
  · rename_i a es
    obtain ⟨fs, e1, hl, q⟩ := h
    obtain ⟨o, e2, e3⟩ := s.mu _ _ e1
    cases e3 with
    | lst r' =>
      rename_i ys
      cases r with
      | cons b r =>
        cases r
        obtain ⟨p, zs, rfl, q2, r2⟩ := b.lst_inv
        exact ⟨a, p, ys, zs, rx.v_inv, rfl, e2, s.sub _ _ q2, by rw [← r'.len, ← r2.len]; exact hl, c ⟨w.F, mput w.M a (.lst (fs ++ es)), upd w.H a (.lst (ys ++ zs))⟩ _ _ (nx_write e1) (Sim.write s e1 (.lst (r'.app r2))) (.v _) q⟩
  · exact h.elim
theorem lrm_pop : LRM K rPop zPop := fun w x xs d ds Qz Q s rx r c h => by
  unfold zPop at h
  split at h
  · rename_i a
    obtain ⟨fs, e, e1, q⟩ := h
    obtain ⟨o, e2, e3⟩ := s.mu _ _ e1
    cases e3 with
    | lst r' =>
      rename_i ys
      cases r
      have len := r'.len
      rw [List.length_append, List.length_singleton] at len
      obtain ⟨y, hy, ry⟩ := r'.get (i := fs.length) (d := e) (by simp)
      have rd := r'.dropLast
      rw [List.dropLast_concat] at rd
      exact ⟨a, ys, y, rx.v_inv, rfl, e2, by rw [← hy]; congr 1; omega, c ⟨w.F, mput w.M a (.lst fs), upd w.H a (.lst ys.dropLast)⟩ _ _ (nx_write e1) (Sim.write s e1 (.lst rd)) ry q⟩
  · exact h.elim
end

/-! ### a list, a tuple times an int; % and // by op's side -/
def rMulA (K : PySem.W.Frag) : R2 := fun x y H Q => (rI CMul (fun i j => .int (i * j)) x y H Q ∨ rI CMulW (fun i j => .int (i * j)) x y H Q) ∨ rRep x y H Q ∨ rRepT K x y H Q
theorem op_mulA {X : Cx} : OpR X (binaryOp .Mult) (rMulA X.K) := (op_mul.or op_mulW).or (op_rep.or op_repT)
def zMul : ZR2 := fun d e M Q => match d, e with
  | .v (.int i), .v (.int j) => (CMul i j ∨ CMulW i j) ∧ Q (.v (.int (i * j))) M
  | .lst ds, .v (.int k) => 0 ≤ k ∧ k < 2 ^ 63 ∧ ds.length * k.toNat ≤ sizeLine ∧ Q (.lst (List.replicate k.toNat ds).flatten) M
  | .tup ds, .v (.int k) => ds ≠ [] ∧ 2 ≤ k ∧ k ≤ 1000 ∧ ds.length ≤ 1000 ∧ Q (.tup (List.replicate k.toNat ds).flatten) M
  | _, _ => False
theorem lr_mul {K : PySem.W.Frag} : LR2 K (rMulA K) zMul := fun w x y d e Qz Q s rx ry c h => by
  unfold zMul at h
  split at h
  · rcases h.1 with h1 | h1
    · exact .inl (.inl ⟨_, _, rx.v_inv, ry.v_inv, h1, c.go s (.v _) h.2⟩)
    · exact .inl (.inr ⟨_, _, rx.v_inv, ry.v_inv, h1, c.go s (.v _) h.2⟩)
  · obtain ⟨h1, h2, h3, q⟩ := h
    obtain ⟨a, xs, rfl, q1, r1⟩ := rx.lst_inv
    exact .inr (.inl ⟨a, _, xs, rfl, ry.v_inv, s.sub _ _ q1, by omega, h2, by rw [← r1.len]; exact h3, fun p hp => c.new s hp (.lst upd_same ((r1.flatRep _).le (Le.put (s.nF hp)))) q⟩)
  · obtain ⟨h0, h1, h2, h3, q⟩ := h
    obtain ⟨a, xs, rfl, q1, r1⟩ := rx.tup_inv
    exact .inr (.inr ⟨a, _, xs, rfl, ry.v_inv, sqT_le s.sub q1, fun e => h0 (nil_of r1 e), h1, h2, by rw [← r1.len]; exact h3, fun p hp => c.new s hp (.tup upd_same ((r1.flatRep _).le (Le.put (s.nF hp)))) q⟩)
  · exact h.elim
end Zl
namespace Zl
open PySem PySem.Spec PyProof.Rows L2

/-! ### exceptions with fields, made and raised -/
/-- the promise of the __init__ of an exception class that stores its arguments by these names -/
def spXI (C : Addr) (names : List Str) : Sp := fun vs H Q _ => ∃ (a : Addr) (ys : List V), vs = .ref a :: ys ∧ ys.length = names.length ∧ H a = some (exo a C none) ∧
  ∀ dx H', H dx = none → dx ≠ a → H' a = some (exo a C (some dx)) → H' dx = some (exd dx (names.zip ys).reverse) → (∀ b, b ≠ a → b ≠ dx → H' b = H b) → Q .non H'
def zXo (C : Addr) (names : List Str) (za : ZA) : ZSt → MS → ZX → Prop := fun δ M Q => za δ M fun ds M1 => ds.length = names.length ∧ ds.length ≤ 900 ∧ Q C (names.zip ds).reverse M1
theorem repF_zip {K : PySem.W.Frag} {F : Hp} : ∀ {ns : List Str} {ds : List D} {xs : List V}, Reps K F ds xs → RepF K F (ns.zip ds) (ns.zip xs)
  | [], _, _, _ => by
    rw [List.zip_nil_left, List.zip_nil_left]
    exact .nil
  | n :: ns, _, _, .nil => by
    rw [List.zip_nil_right, List.zip_nil_right]
    exact .nil
  | n :: ns, _, _, .cons a r => .cons a (repF_zip r)
theorem repF_app {K : PySem.W.Frag} {F : Hp} {fs gs : List (Str × D)} {xs ys : List (Str × V)} (h : RepF K F fs xs) (g : RepF K F gs ys) : RepF K F (fs ++ gs) (xs ++ ys) := by
  induction fs generalizing xs with
  | nil => cases h; exact g
  | cons d ds ih =>
    cases h with
    | cons a r => exact .cons a (ih r)
theorem repF_rev {K : PySem.W.Frag} {F : Hp} {fs : List (Str × D)} {xs : List (Str × V)} (h : RepF K F fs xs) : RepF K F fs.reverse xs.reverse := by
  induction fs generalizing xs with
  | nil => cases h; exact .nil
  | cons d ds ih =>
    cases h with
    | cons a r =>
      rw [List.reverse_cons, List.reverse_cons]
      exact repF_app (ih r) (.cons a .nil)
theorem lx_mk {K : PySem.W.Frag} {w0 : W3} {C : Addr} {names : List Str} {t : TA} {za : ZA} (ha : LA K w0 t za) : LX K w0 (tMkO C (spXI C names) [] t) (zXo C names za) := fun w σ δ Qz Q l s rs c h =>
  ha w σ δ _ _ l s rs (fun u ds vs lu su r ⟨h1, h2, q⟩ => by
    have len := r.len
    refine ⟨by omega, fun a ha => ⟨a, vs, by rw [List.append_nil], by omega, upd_same, fun dx H' n1 ne e1 e2 e3 => ?_⟩⟩
    have n0 : u.H dx = none := by
      rw [upd_ne ne] at n1
      exact n1
    refine ⟨rfl, dx, _, e1, e2, n0, ?_⟩
    have eH : upd (del H' a) dx (.xd (names.zip vs).reverse) = upd u.H dx (.xd (names.zip vs).reverse) := by
      funext b
      by_cases q1 : b = dx
      · subst q1
        rw [upd_same, upd_same]
      · rw [upd_ne q1, upd_ne q1]
        by_cases q2 : b = a
        · subst q2
          rw [del_same, ha]
        · rw [del_ne q2, e3 b q2 q1, upd_ne q2]
    rw [eH]
    exact c ⟨upd u.F dx (.xd (names.zip vs).reverse), u.M, upd u.H dx (.xd (names.zip vs).reverse)⟩ C (some dx) _ (lu.tr (nx_new su n0)) (su.freeze n0) (.some upd_same (repF_rev ((repF_zip r).le (Le.put (su.nF n0))))) q) h
/-- X(), an own exception class without an __init__ of its own -/
def tX0 (C : Addr) : L2.St → Hp → XK → Prop := fun _ H Q => Q (.ref C) none H
def zX0 (C : Addr) : ZSt → MS → ZX → Prop := fun _ M Q => Q C [] M
theorem pmk_own0 {X : Cx} {C : Addr} {bmB : List Value} {B newId initId : String} {x : Str} {p pos : Pos} (F : ExcBaseFacts B newId initId bmB) (q : PySem.W.excIn X.K C bmB newId = true) (gC : X.mg x = some (.ref C))
    (kC : PySem.W.keepIn X.K (.ref C) = true) (r : Raises X (.ref C)) (hg : Gl X x) (hdb : (x == ("__debug__" : Str)) = false := by decide) : L2N.PMk X (.Call (.Name x p) [] [] pos) (tX0 C) := by
  intro pins s σ H Q I hh
  refine wpAny_Call_Name_kw (ld_glob I hg gC ?_ hdb)
  refine PySem.W.callWith_K0 I.kIn kC ?_
  obtain ⟨bm, N, nm, qn, bs, hdct, sn, sub, ab, col, dd, k0, k1, k2, k3, k5, mN, hC, hN, hni, T⟩ := exc_obj I.kIn q
  exact wpAny_call_exc_subT F T hC hN hni (fun h' e hm => L2N.mk_of I hm r hh (I.hok.gone hm.new)) (Nat.zero_le _)
theorem lx_0 {K : PySem.W.Frag} {w0 : W3} {C : Addr} : LX K w0 (tX0 C) (zX0 C) := fun w σ δ Qz Q l s rs c h => c w C none [] (Nx.rf w) s .none h

/-! ### try .. except X as n -/
def tTryAs (K : PySem.W.Frag) (c : Value) (i : Nat) (ts : Addr → Value → Option Addr → TS) (Wout : WX) (tb : WX → TS) : TS := fun D σ H => tb (wAs K c i ts Wout D) D σ H
def zTryAs (K : PySem.W.Frag) (c : Value) (i : Nat) (zs : Addr → Addr → List (Str × D) → ZS) (Wz : ZW) (zb : ZW → ZS) : ZS := fun D δ M =>
  zb (fun C fs δ' M' => ∃ b, PySem.W.exmOne K (.ref C) c = some b ∧
    (b = true → ∀ a, M' a = none → zs a C fs { nx := fun δ2 M2 => D.nx (δ2.set i none) M2, rt := D.rt, bk := fun δ2 M2 => D.bk (δ2.set i none) M2, ct := fun δ2 M2 => D.ct (δ2.set i none) M2 } (δ'.set i (some (.v (.ref a)))) M') ∧
    (b = false → Wz C fs δ' M')) D δ M
theorem ls_tryAs {K : PySem.W.Frag} {w0 : W3} {c : Value} {i : Nat} {ts : Addr → Value → Option Addr → TS} {zs : Addr → Addr → List (Str × D) → ZS} {Wout : WX} {Wz : ZW} {tb : WX → TS} {zb : ZW → ZS}
    (hW : CtW K w0 Wz Wout) (hs : ∀ w a C d fs, Nx w0 w → XRep K w.F d fs → LS K w (ts a (.ref C) d) (zs a C fs)) (hb : ∀ w W Wz, Nx w0 w → CtW K w Wz W → LS K w (tb W) (zb Wz)) : LS K w0 (tTryAs K c i ts Wout tb) (zTryAs K c i zs Wz zb) := fun w σ δ Dz D l s rs cD h =>
  hb w _ _ l (fun u C d fs δ' σ' lu su ru rx ⟨b, e1, e2, e3⟩ => ⟨b, e1, fun eb a ha =>
    hs u a C d fs (l.tr lu) rx u _ _ { nx := fun δ2 M2 => Dz.nx (δ2.set i none) M2, rt := Dz.rt, bk := fun δ2 M2 => Dz.bk (δ2.set i none) M2, ct := fun δ2 M2 => Dz.ct (δ2.set i none) M2 } { nx := fun σ2 H2 => D.nx (σ2.set i none) H2, rt := D.rt, bk := fun σ2 H2 => D.bk (σ2.set i none) H2, ct := fun σ2 H2 => D.ct (σ2.set i none) H2 } (Nx.rf u) su (ru.set (.v (.ref a)) i)
      ⟨fun v δ2 σ2 lv sv rv q => cD.nx v _ _ (lu.tr lv) sv (rv.unset i) q, cD.rt.le lu, fun v δ2 σ2 lv sv rv q => cD.bk v _ _ (lu.tr lv) sv (rv.unset i) q, fun v δ2 σ2 lv sv rv q => cD.ct v _ _ (lu.tr lv) sv (rv.unset i) q⟩ (e2 eb a (su.nM ha)),
    fun eb => hW u C d fs δ' σ' (l.tr lu) su ru rx (e3 eb)⟩) w σ δ Dz D (Nx.rf w) s rs cD h
/-- err.f -/
def zXf (a : Addr) (C C' : Addr) (fs : List (Str × D)) (f : Str) (z : ZE) : ZE := fun δ M Q => z δ M fun d M1 => d = .v (.ref a) ∧ C = C' ∧ ∃ e, fs.lookup f = some e ∧ Q e M1
theorem le_xf {K : PySem.W.Frag} {w0 : W3} {a C C' : Addr} {d : Option Addr} {fs : List (Str × D)} {f : Str} {te : TE} {ze : ZE} (rx : XRep K w0.F d fs) (h1 : LE K w0 te ze) : LE K w0 (tXf a (.ref C) d C' f te) (zXf a C C' fs f ze) := fun w σ δ Qz Q l s rs c h =>
  h1 w σ δ _ _ l s rs (fun u e x lu su r ⟨e1, e2, y, e3, q⟩ => by
    subst e1 e2
    cases rx with
    | none => cases e3
    | some hF rF =>
      obtain ⟨z, e4, r4⟩ := (rF.le (l.tr lu).le).look.2 y e3
      exact ⟨r.v_inv, rfl, _, _, z, rfl, su.sub _ _ ((l.tr lu).le _ _ hF), e4, (c.le lu).go su r4 q⟩) h
/-- isinstance(err, T) -/
def XHas (d : Option Addr) (H : Hp) : Prop := d = none ∨ ∃ dd xs, d = some dd ∧ H dd = some (.xd xs)
def rIsX (K : PySem.W.Frag) (D a : Addr) (d : Option Addr) : List V → Hp → VK → Prop := fun xs H Q => ∃ (c : V) (u : Value) (b : Bool), xs = [.ref a, c] ∧ ClsV c u ∧ PySem.W.kitOne K (.ref D) u = some b ∧ XHas d H ∧ Q (.bl b) H
structure XcC (K : PySem.W.Frag) (D : Addr) : Prop where
  e : ExcC K D
  i : (PySem.W.clsIn K D).isSome = true
theorem call_isX {X : Cx} {a D : Addr} {oe : Obj} {d : Option Addr} {pn : List (Addr × Obj)} (C : XcC X.K D) (hz : Zc (.ref D) d oe) (hf : ∃ vs, oe.data = .fields vs) : CallR (X.suite a ((a, oe) :: pn)) (.builtin "isinstance") (rIsX X.K D a d) := by
  intro pins s σ H xs us Q I r hh
  obtain ⟨c, u, b, rfl, hc, e, hd, q⟩ := hh
  obtain ⟨u1, u2, rfl, r1, r2⟩ := vals2 r
  cases (show u1 = Value.ref a from r1)
  have e2 := hc.eq r2
  subst e2
  obtain ⟨hget, _⟩ := I.pin (a, oe) (List.mem_append.mpr (.inl List.mem_cons_self))
  obtain ⟨vs, hv⟩ := hf
  have go : ∀ od, PySem.W.InstAt s.heap a oe D od → wpAny (model X.prog X.w) (X.suite a ((a, oe) :: pn)).A (call (.builtin "isinstance") [.ref a, u2]) (EP (X.suite a ((a, oe) :: pn)) pins σ Q) (X.suite a ((a, oe) :: pn)).xe s := fun od J =>
    PySem.W.kia_one (PySem.W.kitx_exc C.i C.e.hg C.e.hk C.e.hs C.e.ha C.e.hn C.e.ht C.e.hm) I.kIn J e (fun z => nomatch z) fun tk => ⟨.bl b, H, I.kept (t' := tk) fun _ _ z => z, rfl, q⟩
  have nc : PySem.W.notCls oe = true := by
    unfold PySem.W.notCls
    rw [hv] <;> rfl
  rcases hd with rfl | ⟨dd, ys, rfl, hH⟩
  · exact go none ⟨hget, hz.1, nc, by rw [hz.2]; trivial⟩
  · obtain ⟨mA, hns, hr⟩ := (show ObjOk X.prog X.w H s.heap dd (.xd ys) from I.hok dd _ hH)
    obtain ⟨od, ho, hl⟩ := lookIn_ns hns
    exact go (some od) ⟨hget, hz.1, nc, by rw [hz.2]; exact ho⟩
def zIsX (K : PySem.W.Frag) (D a : Addr) : ZRA := fun ds M Q => match ds with
  | [.v (.ref b), c] => b = a ∧ ∃ u k, clD c = some u ∧ PySem.W.kitOne K (.ref D) u = some k ∧ Q (.v (.bl k)) M
  | _ => False
theorem le_isX {K : PySem.W.Frag} {w0 : W3} {D a : Addr} {d : Option Addr} {fs : List (Str × Zl.D)} {aa : TA} {za : ZA} (rx : XRep K w0.F d fs) (h1 : LA K w0 aa za) : LE K w0 (tCB (rIsX K D a d) aa) (zCB (zIsX K D a) za) := fun w σ δ Qz Q l s rs c h =>
  h1 w σ δ _ _ l s rs (fun u ds xs lu su r h2 => by
    unfold zIsX at h2
    split at h2
    · obtain ⟨rfl, v, k, e1, e2, q⟩ := h2
      cases r with
      | cons r1 r => cases r with
        | cons r2 r =>
          cases r
          refine ⟨_, v, k, by rw [r1.v_inv], clD_rep r2 e1, e2, ?_, (c.le lu).go su (.v _) q⟩
          cases rx with
          | none => exact .inl rfl
          | some hF rF => exact .inr ⟨_, _, rfl, su.sub _ _ ((l.tr lu).le _ _ hF)⟩
    · exact h2.elim) h

/-! ### several words for the derivations -/
/-- at a def's own body -/
theorem tkB {X : Cx} {E : XK} (hs : X.stack = X.env :: X.outer := by rfl) (hf : X.env.frame = some X.env.locals := by rfl) (hex : X.ex = [] := by rfl)
    (hx : X.xe = fun e s' => wpAny (model X.prog X.w) X.A (leaving X.env e) (fun _ s'' => L2N.CX X.prog X.w X.outer X.H_0 X.s_0 E e s'') (fun e s'' => L2N.CX X.prog X.w X.outer X.H_0 X.s_0 E e s'') s' := by rfl) : L2N.Takes X (WB E) := L2N.takes_of hs hf hex hx
abbrev W0 : WX := fun _ _ _ _ => False
abbrev W0z : ZW := fun _ _ _ _ => False
theorem tk0 {X : Cx} : L2N.Takes X W0 := fun _ _ ⟨_, _, _, _, _, _, _, _, _, _, _, _, _, _, _, _, w⟩ => w.elim
theorem ctW0' {K : PySem.W.Frag} {w0 : W3} : CtW K w0 W0z W0 := ctW0
end Zl
namespace Zl
open PySem PySem.Spec PyProof.Rows L2

/-! ### exception classes of the text -/
structure XcAt (P : Program) (w : World) (K : PySem.W.Frag) (mg : Str → Option Value) (base : Heap) (x : Str) (C : Addr) (names : List Str) : Prop where
  ex : ∃ (f : Addr) (fd : FuncData), PySem.W.findIn K (.ref C) "__init__" = some (some (.ref f)) ∧ PySem.W.typeIn K (.ref f) = some (.type "function") ∧
    FnOk P w K mg base (L2N.CX P w) 1 f fd (("self" : Str) :: names) (spXI C names) ∧ L2.Binds K fd (("self" : Str) :: names) []
  o : OexC K C
  g : mg x = some (.ref C)
structure Xc0At (K : PySem.W.Frag) (mg : Str → Option Value) (x : Str) (C : Addr) : Prop where
  e : PySem.W.excIn K C He.veBase "ValueError.__new__" = true
  k : PySem.W.keepIn K (.ref C) = true
  b : PySem.W.subIn K (.ref C) (.type "BaseException") = some true
  t : PySem.W.typeIn K (.ref C) = some (.type "type")
  g : mg x = some (.ref C)
theorem passN {X : Cx} : Passes (L2N.CX X.prog X.w) X (fun _ _ _ => False) := fun _ _ _ _ _ _ _ ⟨_, _, _, _, _, _, _, _, _, _, _, _, z⟩ => z.elim
section
variable {X : Cx} {e : Expr} {es : List Expr} {ta : TA} {pos : Pos}
/-- C(e, ..), an own exception whose __init__ is walked: its context is None -/
theorem pmk_oexN {CX : CXT} {x : Str} {p : Pos} {C fI : Addr} {k : Nat} {fd : FuncData} {ps : List Str} {sp : Sp} (T : OexC X.K C) (iC : PySem.W.findIn X.K (.ref C) "__init__" = some (some (.ref fI)))
    (tI : PySem.W.typeIn X.K (.ref fI) = some (.type "function")) (F1 : FnOk X.prog X.w X.K X.mg X.base CX k fI fd ps sp) (hr : Room (k + 1) X.A) (hb : L2.Binds X.K fd ps [])
    (hx : Passes CX X (fun _ _ _ => False)) (hg : Gl X x) (hm : X.mg x = some (.ref C)) (ha : PA X (e :: es) ta)
    (hdb : (x == ("__debug__" : Str)) = false := by decide) (hst : starEach (e :: es) X.env = (false, eval e X.env) :: starEach es X.env := by rfl)
    (hpl : (backTo pos (starEach es X.env)).any (·.1) = false := by rfl) : L2N.PMk X (.Call (.Name x p) (e :: es) [] pos) (tMkO C sp [] ta) := by
  rintro pins s σ H Q I h
  obtain ⟨nm, q, N, bs, bm, sn, sub, ab, col, dd, k0, k1, k2, k3, k5, hC, hbm⟩ := T.cls
  apply wpAny_Call_Name_kw
  refine ld_glob I hg hm (PySem.W.callWith_K (h₀ := X.base) I.ok.mod.kin T.kC (thn (ha.run pos pins s σ H _ I h) ?_) hst hpl) hdb
  rintro us ⟨hp, g, dr, tk, os⟩ ⟨vs, H1, I1, r1, hz, q1⟩
  refine ⟨I1.kIn, ?_⟩
  show wpAny _ _ (call (.ref C) us) _ _ _
  have le1 : hp.objs.size ≤ hp.objs.size + 1 := Nat.le_succ _
  have q2 := q1 (hp.objs.size + 1) (I1.hok.fresh le1)
  have stay : ∀ b o, hp.get? b = some o → ((hp.push (PySem.W.kdv_tup us)).push (PySem.HandSPX.excO C hp.objs.size)).get? b = some o :=
    fun b o z => Heap.get?_push_of_some _ (Heap.get?_push_of_some _ z)
  have there : ((hp.push (PySem.W.kdv_tup us)).push (PySem.HandSPX.excO C hp.objs.size)).get? (hp.objs.size + 1) = some (PySem.HandSPX.excO C hp.objs.size) := by
    heap_get
  have J := I1.laid (t' := tk) (a := hp.objs.size + 1) (o := exo (hp.objs.size + 1) C none) stay le1 (exo_ok there)
  have rr : Vals (V.ref (hp.objs.size + 1) :: (vs ++ [])) (Value.ref (hp.objs.size + 1) :: (us ++ [])) := .cons rfl (r1.append .nil)
  have ll : (Value.ref (hp.objs.size + 1) :: us ++ []).length = ps.length := ((F1.len _ _ _ _ q2).symm.trans rr.length).symm
  have lu : us.length ≤ sizeLine := by
    rw [sizeLine_eq, ← Paired.length r1]
    omega
  have bb := hb _ (Value.ref (hp.objs.size + 1) :: us) J.kIn ll
  rw [List.cons_append] at bb
  have cb := codeAny_mono (F1.run _ X.stack _ _ ⟨Value.ref (hp.objs.size + 1) :: us, []⟩ (Value.ref (hp.objs.size + 1) :: (us ++ [])) _ _ (fun _ _ _ => False) (hr.make C us []) (J.env0.make C us [])
    bb rr q2) (R' := fun r s' => match r with
      | .ok (.ret u) => u = .none ∧ L2N.MkP X pins σ Q (.ref (hp.objs.size + 1)) s'
      | .ok _ => False
      | .error er => X.xe er s') fun r s' z => ?_
  · refine wpAny_call (PySem.HandSPX.call_own F.excBase_ValueError (fun Y => PySem.HandSPX.refsVE_contains Y bm hbm) (I1.kIn _ _ hC) (PySem.W.looks_findIn I1.kIn iC) (fun self => PySem.W.bind_fn I1.kIn self tI) lu (codeAny_mono cb fun r s' z => ?_))
    match r, z with
    | .error er, z => exact z
    | .ok (.ret u), z => exact z
  · match r, z with
    | .error er, z => exact hx pins σ _ _ er s' J z
    | .ok (.ret u), z =>
      obtain ⟨v, H2, o2, b2, u2, k2, rv, ev, d, fs, ea, ed, d1, z2⟩ := z
      subst ev
      obtain ⟨h2, g2, d2, t2, o'⟩ := s'
      obtain ⟨t0, G, J2, kG, ge, hoe, na⟩ := mk_end0 (d2 := d2) (t2 := t2) I1 le1 stay u2 k2 o2 b2 ea ed d1
      exact ⟨rv, _, _, _, ⟨G, g2, d2, t2, o'⟩, _, .ref C, some d, rfl, J2, kG, ge, hoe, ⟨rfl, rfl, fun vs z => by cases z; rfl⟩, rfl, rfl, na, rfl, b2, raises_own T.exC T.tyC, z2⟩
    | .ok .next, z => exact False.elim z
    | .ok .brk, z => exact False.elim z
    | .ok .cont, z => exact False.elim z
end
section
variable {X : Cx} {C : Addr} {names : List Str} {W : WX} {x : Str} {p pos pos' : Pos} {e : Expr} {es : List Expr} {t : TA} {k : Nat}
theorem zc_raise (d : XcAt X.prog X.w X.K X.mg X.base x C names) (hr : Room (k + 2) X.A) (hc : X.calm = true) (hg : Gl X x) (tk : L2N.Takes X W) (ha : PA X (e :: es) t)
    (hdb : (x == ("__debug__" : Str)) = false := by decide) (he : starEach (e :: es) X.env = (false, eval e X.env) :: starEach es X.env := by rfl) (hpl : (backTo pos (starEach es X.env)).any (·.1) = false := by rfl) :
    PS X (.Raise (some (.Call (.Name x p) (e :: es) [] pos)) none pos') (tRz W (tMkO C (spXI C names) [] t)) :=
  let ⟨_, _, i, ty, F, b⟩ := d.ex; pc_raise hc tk (pmk_oexN d.o i ty F (hr.mono (by omega)) b passN hg d.g ha hdb he hpl)
theorem zc_raise0 (d : Xc0At X.K X.mg x C) (hc : X.calm = true) (hg : Gl X x) (tk : L2N.Takes X W) (hdb : (x == ("__debug__" : Str)) = false := by decide) :
    PS X (.Raise (some (.Call (.Name x p) [] [] pos)) none pos') (tRz W (tX0 C)) :=
  pc_raise hc tk (pmk_own0 PySem.F.excBase_ValueError d.e d.g d.k (raises_own d.b d.t) hg hdb)
end
/-- the __init__ of such a class -/
theorem zx_init {P : Program} {w : World} {K : PySem.W.Frag} {mg : Str → Option Value} {base : Heap} {st : Stmt} {qual : Str} {N ps : List Str} {f C : Addr} {fd : FuncData} {names : List Str} {T : TS}
    (F : FunD K "__init__" qual (defArgs st) (defBody st) (defScope st) [] [] f fd) (S : FnScope N ps (defScope st)) (hps : ps.length = names.length + 1)
    (hb : ∀ (cdv : Value) (A : Around) (outer : List Env) (s : Shared) (H : Hp) (E : XK), PSs (cxOf (L2N.CX P w) P w K mg base N qual (defScope st) f cdv A outer s H E) (defBody st) T)
    (hT : ∀ vs H Q, spXI C names vs H Q (fun _ _ _ => False) → T { nx := fun _ H' => Q .non H', rt := Q } (L2.start N vs) H) : FnOk P w K mg base (L2N.CX P w) 1 f fd ps (spXI C names) := by
  refine FunD.ok F S (fun vs H Q E h => ?_) (fun cdv A outer s H vs Q E hr h => ⟨T, hb cdv A outer s H E, hT vs H Q h⟩)
  obtain ⟨a, ys, rfl, l, _⟩ := h
  rw [List.length_cons, l, hps]
theorem xinit1 {K : PySem.W.Frag} {C : Addr} {n : Str} {N : List Str} (T : OexC K C) (h1 : NoAttr K C n) (hN : N.length = 2) (vs : List V) (H : Hp) (Q : VK) (h : spXI C [n] vs H Q (fun _ _ _ => False)) :
    tOst K n (tVar 0) (tVar 1) { nx := fun _ H' => Q .non H', rt := Q } (L2.start N vs) H := by
  obtain ⟨a, ys, rfl, l, e, k⟩ := h
  match ys, l with
  | [y], _ =>
    have es : L2.start N [V.ref a, y] = [some (.ref a), some y] := by
      unfold L2.start
      rw [hN]
      rfl
    rw [es]
    refine ⟨y, rfl, _, rfl, a, C, rfl, T, h1, .inl ⟨e, fun dx hd ne => ?_⟩⟩
    refine k dx _ hd ne upd_same (by rw [upd_ne ne, upd_same]; rfl) fun b n1 n2 => by rw [upd_ne n1, upd_ne n2]
theorem xinit2 {K : PySem.W.Frag} {C : Addr} {n m : Str} {N : List Str} (T : OexC K C) (h1 : NoAttr K C n) (h2 : NoAttr K C m) (hN : N.length = 3) (vs : List V) (H : Hp) (Q : VK) (h : spXI C [n, m] vs H Q (fun _ _ _ => False)) :
    tSeq (tOst K n (tVar 0) (tVar 1)) (tOst K m (tVar 0) (tVar 2)) { nx := fun _ H' => Q .non H', rt := Q } (L2.start N vs) H := by
  obtain ⟨a, ys, rfl, l, e, k⟩ := h
  match ys, l with
  | [y, z], _ =>
    have es : L2.start N [V.ref a, y, z] = [some (.ref a), some y, some z] := by
      unfold L2.start
      rw [hN]
      rfl
    rw [es]
    refine ⟨y, rfl, _, rfl, a, C, rfl, T, h1, .inl ⟨e, fun dx hd ne => ?_⟩⟩
    refine ⟨z, rfl, _, rfl, a, C, rfl, T, h2, .inr ⟨dx, [(n, y)], upd_same, by rw [upd_ne ne, upd_same], (by show 1 ≤ 900; decide), ?_⟩⟩
    refine k dx _ hd ne (by rw [upd_ne (Ne.symm ne), upd_same]) upd_same fun b n1 n2 => by rw [upd_ne n2, upd_ne n1, upd_ne n2]
def oexB (K : PySem.W.Frag) (C : Addr) : Bool := (match K.lookup C with
  | some ⟨.type "type", _, .cls cd, sl⟩ => (match cd.mro, sl.toList with
    | .ref C' :: bm, [_, _, _, _, some (.builtin n), _] => C' == C && (n == "ValueError.__new__" && (!cd.hasDel && (cd.hasDict && PySem.HandSPX.refsVE bm)))
    | _, _ => false)
  | _ => false) && (decide (PySem.W.findIn K (.ref C) "__setattr__" = some (some (.builtin "object.__setattr__"))) && (decide (PySem.W.subIn K (.ref C) (.type "BaseException") = some true) && (decide (PySem.W.typeIn K (.ref C) = some (.type "type")) && PySem.W.keepIn K (.ref C))))
theorem oexB_ok {K : PySem.W.Frag} {C : Addr} (h : oexB K C = true) : OexC K C := by
  unfold oexB at h
  simp only [Bool.and_eq_true, decide_eq_true_eq] at h
  obtain ⟨q, h1, h2, h3, h4⟩ := h
  refine ⟨?_, h1, h2, h3, h4⟩
  split at q
  · rename_i dd cd sl ho
    split at q
    · rename_i C' bm k0 k1 k2 k3 n k5 hm hs
      simp only [Bool.and_eq_true, beq_iff_eq, Bool.not_eq_true'] at q
      obtain ⟨rfl, rfl, hdel, hdi, ht⟩ := q
      obtain ⟨nm, bs, mro, ns, qn, hd, sn, sub, ab, col, del⟩ := cd
      dsimp only at hm hdel hdi
      subst hm hdel hdi
      have hsl : sl = #[k0, k1, k2, k3, some (.builtin "ValueError.__new__"), k5] := by
        obtain ⟨l⟩ := sl
        simp only at hs
        rw [hs]
      subst hsl
      exact ⟨nm, qn, ns, bs, bm, sn, sub, ab, col, dd, k0, k1, k2, k3, k5, ho, ht⟩
    · cases q
  · cases q
def insB (K : PySem.W.Frag) (C : Addr) : Bool := decide (PySem.W.findIn K (.ref C) "__class__" = some (some (.builtin "object.__class__"))) && (decide (PySem.W.specialIn K (.builtin "object.__class__") "__get__" = some (some (.builtin "getset_descriptor.__get__"))) &&
  (decide (PySem.W.takesIn K (.builtin "object.__class__") = some true) && decide (PySem.W.mroIn K C (.type "object") = some true)))
theorem insB_ok {K : PySem.W.Frag} {C : Addr} (c : Cls K C) (h : insB K C = true) : InsC K C := by
  unfold insB at h
  simp only [Bool.and_eq_true, decide_eq_true_eq] at h
  exact ⟨c, h.1, h.2.1, h.2.2.1, h.2.2.2⟩
def xccB (K : PySem.W.Frag) (D : Addr) : Bool := decide (PySem.W.findIn K (.ref D) "__getattribute__" = some (some (.builtin "BaseException.__getattribute__"))) && (decide (PySem.W.findIn K (.ref D) "__getattr__" = some none) &&
  (decide (PySem.W.subIn K (.ref D) (.type "BaseException") = some true) && (PySem.W.hasDictIn K D && (insB K D && (PySem.W.clsIn K D).isSome))))
theorem xccB_ok {K : PySem.W.Frag} {D : Addr} (h : xccB K D = true) : XcC K D ∧ XfC K D := by
  unfold xccB insB at h
  simp only [Bool.and_eq_true, decide_eq_true_eq] at h
  obtain ⟨h1, h2, h3, h4, ⟨h5, h6, h7, h8⟩, h9⟩ := h
  exact ⟨⟨⟨h1, h2, h3, h4, h5, h6, h7, h8⟩, h9⟩, ⟨h1, h2, h3, h4⟩⟩
/-- isinstance's answer, class by class -/
def kitE (K : PySem.W.Frag) (t c : Value) (b : Bool) : Bool := decide (PySem.W.kitOne K t c = some b)
theorem kitE_ok {K : PySem.W.Frag} {t c : Value} {b : Bool} (h : kitE K t c b = true) : PySem.W.kitOne K t c = some b := of_decide_eq_true h
def initB (K : PySem.W.Frag) (C f : Addr) : Bool := decide (PySem.W.findIn K (.ref C) "__init__" = some (some (.ref f))) && decide (PySem.W.typeIn K (.ref f) = some (.type "function"))

/-! ### names of the module -/
section
variable {X : Cx} {x : Str} {p : Pos}
theorem zp_int {i : Int} (h : ∃ t, X.mg x = some (.int i t)) (hg : Gl X x) (hd : (x == ("__debug__" : Str)) = false := by decide) : PE X (.Name x p) (tC (.int i)) :=
  let ⟨t, h⟩ := h; pe_glob hg h ⟨t, rfl⟩ hd
theorem zp_str {i : Str} (h : ∃ t, X.mg x = some (.str i t)) (hg : Gl X x) (hd : (x == ("__debug__" : Str)) = false := by decide) : PE X (.Name x p) (tC (.str i)) :=
  let ⟨t, h⟩ := h; pe_glob hg h ⟨t, rfl⟩ hd
theorem zp_ref {a : Addr} (h : X.mg x = some (.ref a)) (hg : Gl X x) (hd : (x == ("__debug__" : Str)) = false := by decide) : PE X (.Name x p) (tC (.ref a)) := pe_glob hg h rfl hd
theorem zp_ty {n : String} (h : X.mg x = none) (hv : bootBuiltins x = some (.type n)) (hg : Gl X x) (hn : x ≠ "__name__" := by decide) (hd : (x == ("__debug__" : Str)) = false := by decide) : PE X (.Name x p) (tC (.ty n)) := pe_bltn hg h hv rfl hn hd
theorem call_lenDR : CallR X (.builtin "len") (fun xs H Q => ∃ a kvs, xs = [V.ref a] ∧ Rd H a (.dK kvs) ∧ Q (.int kvs.length) H) := by
  intro pins s σ H xs us Q I r h
  obtain ⟨a, kvs, rfl, ha, q⟩ := h
  obtain ⟨u, rfl, ru⟩ := vals1 r
  cases ru
  exact d_len I ha fun t s' I' => ⟨.int kvs.length, H, I', ⟨t, rfl⟩, q⟩
theorem call_lenA : CallR X (.builtin "len") (rLenA X.K) := call_len.or call_lenDR
end

/-! ### three names at once -/
def zPar3 (i j k : Nat) (za : ZA) : ZS := fun D δ M => za δ M fun ds M1 => match ds with | [d, e, f] => D.nx (((δ.set i (some d)).set j (some e)).set k (some f)) M1 | _ => False
theorem ls_par3 {K : PySem.W.Frag} {w0 : W3} {aa : TA} {za' : ZA} {i j k : Nat} (h1 : LA K w0 aa za') : LS K w0 (tPar3 i j k aa) (zPar3 i j k za') := fun w σ δ Dz D l s rs c h =>
  h1 w σ δ _ _ l s rs (fun w1 ds xs l1 s1 r1 h3 => by
    match ds, r1, h3 with
    | [d, e, f], .cons a (.cons b (.cons b' .nil)), h3 => exact ⟨_, _, _, rfl, c.nx w1 _ _ l1 s1 ((((rs.le l1.le).set a i).set b j).set b' k) h3⟩) h

/-! ### the end of a law -/
def spLaw : ZSp := fun ds M Q _ => ∃ ns : List Int, ds = [.rd (ns.map fun n => .v (.int n))] ∧ ns.length ≤ 63 ∧ (∀ z ∈ ns, Builtin.Int.intBits z ≤ 1048576) ∧ M = (fun _ => none) ∧ ∀ M', Q (.v (.bl true)) M'
theorem reps_ints {K : PySem.W.Frag} {F : Hp} : ∀ ns : List Int, Reps K F (ns.map fun n => .v (.int n)) (ns.map V.int)
  | [] => .nil
  | n :: ns => .cons (.v _) (reps_ints ns)
theorem walk_law {l : PySem.W.OpenLaw} {k : Nat} {q : Program} {loose : List Str} {XP : (Str → Option Value) → Heap → Prop} {YP : World → Heap → Prop} {d : DefRec}
    (hn : l.most = some 63) (hdf : d.params.defaults = []) (hr : Room k callerA)
    (F : ∀ (w : World) (mg : Str → Option Value) (fa : Addr) (h : Heap), YP w h → h.Ns mainGlobals mg → mg d.name = some (.ref fa) →
      ∃ (K : PySem.W.Frag) (fd : FuncData), K.In h ∧ (∀ (s : Shared) (u : Value), BindsTo s fd ⟨[u], []⟩ [("script", u)]) ∧
        ∀ base : Heap, K.In base → base.Ns mainGlobals mg → FnOk l.prog w K mg base (L2N.CX l.prog w) k fa fd ["script"] (spOf K spLaw)) :
    PySem.W.WalkO q loose XP YP l.row.toRowW d [] (fun f vs => PySem.call f vs) := by
  refine Att.attach_callB hn hdf fun w s₀ s₁ mg mb fa o pm cd doc a vs ns G Y ho hd hcd hmg hobj hints hlen hbits hg => ?_
  obtain ⟨K, fd, KX, hb, hF⟩ := F w mg fa _ Y G.T.g hmg
  refine law_call KX G.T.g G.T.b G.T.builtins G.T.nolimit hg hobj hints (Nat.le_trans hlen (by decide)) hr hF hb (fun H hO hS => ?_) fun H e s' z => ?_
  · refine ⟨⟨H, fun _ => none, H⟩, [.rd (ns.map fun n => .v (.int n))], fun d _ => d = .v (.bl true), fun _ _ _ => False, rfl, ⟨Le.rfl' H, fun _ _ _ => rfl, fun _ _ z => nomatch z⟩, .cons (.rd hS (reps_ints ns)) .nil, fun u d x _ _ r e => ?_, fun _ _ _ _ _ _ _ z => z, ns, rfl, hlen, hbits, rfl, fun _ => rfl⟩
    subst e
    exact r.v_inv
  · obtain ⟨_, _, _, _, _, _, _, _, _, _, _, _, z⟩ := z
    exact z.elim
end Zl
namespace Zl
open PySem PySem.Spec PyProof.Rows L2 HT
/-! ### t[::-1], t a tuple -/
section
variable {prog : Program} {w : World} {A : Around} {E : Value → Shared → Prop} {s : Shared}
theorem rev_adjust (n : Nat) : Builtin.Slice.sliceAdjust none none (-1) (n : Int) = ((n : Int) - 1, -1) := by
  unfold Builtin.Slice.sliceAdjust
  simp
theorem rev_places (n : Nat) : Builtin.Slice.slicePlaces ((n : Int) - 1) (-1) (-1) = n := by
  unfold Builtin.Slice.slicePlaces
  simp
  split <;> omega
theorem fm_map {α β : Type} {f : α → Option β} {g : α → β} : ∀ {l : List α}, (∀ m ∈ l, f m = some (g m)) → l.filterMap f = l.map g
  | [], _ => rfl
  | a :: l, h => by
    rw [List.filterMap_cons_some (h a List.mem_cons_self), fm_map fun m hm => h m (List.mem_cons_of_mem _ hm)]
    rfl
theorem rev_pick (xs : Array Value) : ((List.range xs.size).filterMap fun (m : Nat) => xs[((xs.size : Int) - 1 + (m : Int) * -1).toNat]?).toArray = xs.toList.reverse.toArray := by
  congr 1
  apply List.ext_getElem?
  intro i
  have e : ((List.range xs.size).filterMap fun (m : Nat) => xs[((xs.size : Int) - 1 + (m : Int) * -1).toNat]?) = (List.range xs.size).map fun m => xs.toList.getD (xs.size - 1 - m) .none := by
    refine fm_map fun m hm => ?_
    have hm := List.mem_range.mp hm
    have e1 : ((xs.size : Int) - 1 + (m : Int) * -1).toNat = xs.size - 1 - m := by omega
    rw [e1]
    simp [List.getD, Array.getElem?_eq_getElem (show xs.size - 1 - m < xs.size by omega)]
  rw [e]
  by_cases h : i < xs.size
  · rw [List.getElem?_map, List.getElem?_range h, List.getElem?_reverse (by simpa using h)]
    simp [List.getD, Array.getElem?_eq_getElem (show xs.size - 1 - i < xs.size by omega)]
  · rw [List.getElem?_eq_none (by simpa using h), List.getElem?_eq_none (by simpa using h)]
theorem rev_applied {sl : Addr} {t : Tok} {n : Nat} {Q : Int × Int × Nat → Shared → Prop} (hs : s.heap.IsSliceOf sl .none .none (.int (-1) t)) (h : Q ((n : Int) - 1, -1, n) s) :
    wpAny (model prog w) A (Builtin.Slice.sliceApplied (.ref sl) (pure (n : Int))) Q E s := by
  obtain ⟨os, hos, hcs, hds⟩ := id hs
  unfold Builtin.Slice.sliceApplied Builtin.Slice.sliceFields
  refine wpAny_bind (wpAny_bind (wpAny_field hos hds (x := .none) rfl (wpAny_bind (wpAny_field hos hds (x := .none) rfl (wpAny_bind (wpAny_field hos hds (x := .int (-1) t) rfl (wpAny_pure ?_)))))))
  refine wpAny_bind (slicePart_int ?_)
  show wpAny _ _ (if ((-1 : Int) == 0) = true then _ else _) _ _ s
  rw [if_neg (by decide)]
  refine wpAny_bind (slicePart_none (wpAny_bind (slicePart_none (wpAny_bind (wpAny_pure ?_)))))
  show wpAny _ _ (match Builtin.Slice.sliceAdjust none none (-1) (n : Int) with | (lo, hi) => pure (lo, (-1 : Int), Builtin.Slice.slicePlaces lo hi (-1))) _ _ s
  rw [rev_adjust n]
  show wpAny _ _ (pure ((n : Int) - 1, (-1 : Int), Builtin.Slice.slicePlaces ((n : Int) - 1) (-1) (-1))) _ _ s
  rw [rev_places]
  exact wpAny_pure h
theorem rev_item {t sl : Addr} {items : Array Value} {u : Tok} {Q : Value → Shared → Prop} (ht : IsTup s.heap t items) (hs : s.heap.IsSliceOf sl .none .none (.int (-1) u))
    (h : Q (.ref s.heap.objs.size) { s with heap := s.heap.push { cls := .type "tuple", data := .seq items.toList.reverse.toArray } }) (hsz : items.size ≤ sizeLine) : wpAny (model prog w) A (getItem (.ref t) (.ref sl)) Q E s := by
  have hok : sizeOk (.seq items.toList.reverse.toArray) := by
    show items.toList.reverse.toArray.size ≤ sizeLine
    rw [List.size_toArray, List.length_reverse, Array.length_toList]
    exact hsz
  have hT : s.TypeIs (.ref sl) "slice" := let ⟨os, h1, h2, _⟩ := hs; ⟨os, h1, h2⟩
  unfold getItem
  try with_reducible refine wpAny_holding ?_
  first | refine wpAny_bind (wpAny_pure ?_) | skip
  refine wpAny_bind (wpAny_sequenceKey ht.typeIs (by decide) (wpAny_bind (wpAny_callSpecial?_slot (name := Str.ofString "__getitem__") ht.typeIs PyProof.Rows.slot_tuple_getitem (wpAny_call_entry PyProof.Rows.slot_tuple_getitem ht.typeIs entry_tuple_getitem ?_ (args_tuple_getitem _ _)))))
  show wpAny _ _ (Builtin.Tuple.tupleItemsOf (.ref t) >>= _) _ _ s
  refine wpAny_bind (tupleItemsOf_ ht (wpAny_bind (wpAny_typeOf hT ?_)))
  rw [if_pos (by decide)]
  refine wpAny_bind (rev_applied hs ?_)
  have hno : ¬ ((((items.size : Int) - 1) == 0 && (-1 : Int) == 1 && items.size == items.size) = true) := by
    rw [Bool.and_eq_true, Bool.and_eq_true]
    rintro ⟨⟨_, q⟩, _⟩
    exact absurd q (by decide)
  show wpAny _ _ (if (((items.size : Int) - 1) == 0 && (-1 : Int) == 1 && items.size == items.size) = true then _ else _) _ _ s
  rw [if_neg hno, rev_pick]
  first
    | exact wpAny_bind (wpAny_bind (m := Builtin.Tuple.tupleExact _) (wpAny_newObj_type (wpAny_pure ⟨_, rfl, wpAny_pure h⟩) hok))
    | exact wpAny_bind (m := Builtin.Tuple.tupleExact _) (wpAny_newObj_type (wpAny_pure ⟨_, rfl, wpAny_pure h⟩) hok)
    | exact wpAny_bind (m := Builtin.Tuple.tupleExact _) (wpAny_newObj_type (wpAny_bind (wpAny_pure (wpAny_pure ⟨_, rfl, wpAny_pure h⟩))) hok)
    | exact wpAny_bind (wpAny_bind (m := Builtin.Tuple.tupleExact _) (wpAny_newObj_type (wpAny_pure (wpAny_pure ⟨_, rfl, wpAny_pure h⟩)) hok))
end
def tRevT (K : PySem.W.Frag) (te : TE) : TE := fun σ H Q => te σ H fun x H1 => ∃ a xs, x = .ref a ∧ SqT K H1 a xs ∧ ∀ p, H1 p = none → Q (.ref p) (upd H1 p (.tup xs.reverse))
theorem pe_revT {X : Cx} {e : Expr} {te : TE} {k : Nat} {p1 p2 p3 pos : Pos} (he : PE X e te) : PE X (.Subscript e (.Slice none none (some (.UnaryOp .USub (.Constant (.int 1) k p1) p2)) p3) pos) (tRevT X.K te) := by
  refine ⟨fun pins s σ H Q I h => Subscript_ (thn (he.run pins s σ H _ I h) fun v s1 ⟨x, H1, I1, r1, a, xs, ex, hx, q⟩ => ?_)⟩
  subst ex
  cases r1
  have hst : PO X (some (.UnaryOp .USub (.Constant (.int 1) k p1) p2)) (tPart (tUn (rU fun i => .int (-i)) (tC (.int 1)))) := po_some (pe_un un_neg pe_int)
  refine wpAny_Slice (thn (po_none.run pins s1 σ H1 (fun o H2 => o = none ∧ H2 = H1) I1 ⟨rfl, rfl⟩) fun vl s2 ⟨l, H2, I2, pl, el, e2⟩ => thn (po_none.run pins s2 σ H2 (fun o H3 => o = none ∧ H3 = H2) I2 ⟨rfl, rfl⟩) fun vu s3 ⟨u, H3, I3, pu, eu, e3⟩ => ?_)
  subst el e2 eu e3
  refine thn (hst.run pins s3 σ H3 (fun o H4 => o = some (-1) ∧ H4 = H3) I3 ⟨1, rfl, -1, rfl, rfl, rfl⟩) fun vs s4 ⟨o, H4, I4, ps, eo, e4⟩ => ?_
  subst eo e4
  cases pl
  cases pu
  cases ps with
  | int _ tk =>
  have I5 : Inv X pins σ H4 { s4 with heap := s4.heap.push { cls := .type "slice", data := .fields #[.none, .none, .int (-1) tk] } } := I4.kept (t' := s4.toks) fun b ob q => Heap.get?_push_of_some _ q
  obtain ⟨its, r, ht, hz⟩ := I5.tuple hx
  show wpAny (model X.prog X.w) X.A (subscriptTail e (.Slice none none (some (.UnaryOp .USub (.Constant (.int 1) k p1) p2)) p3) (.ref a) (.ref s4.heap.objs.size)) (EP X pins σ Q) X.xe { s4 with heap := s4.heap.push { cls := .type "slice", data := .fields #[.none, .none, .int (-1) tk] } }
  refine tail_any (ops := [.ref a, .ref s4.heap.objs.size]) ht.typeIs (PyProof.Rows.slot_tuple_getitem.lookup) ?_ (by with_unfolding_all rfl)
  refine rev_item ht (Heap.IsSliceOf.new _ .none .none (.int (-1) tk)) ?_ (by rw [List.size_toArray, ← r.length]; exact hz)
  refine ⟨.ref _, _, I5.laid (t' := s4.toks) (o := .tup xs.reverse) (fun b ob q => Heap.get?_push_of_some _ q) (Nat.le_refl _) ?_, rfl, q _ (I5.hok.fresh (Nat.le_refl _))⟩
  exact ⟨by rw [List.length_reverse]; exact hz, _, r.reverse, IsTup.new _ _⟩
end Zl
namespace Zl
open PySem PySem.Spec PyProof.Rows L2
/-! ### == and != by an own __eq__ -/
section
variable {prog : Program} {w : World} {A : Around} {E : Value → Shared → Prop} {s : Shared} {K : PySem.W.Frag} {x C L f : Addr} {h₀ : Heap} {m : Str → Option Value} {ox : Obj} {od : Option Obj} {b tb : Value}
theorem neCheck {M : Model} {Q : Unit → Shared → Prop} (hi : PySem.W.Looks M s.heap (isInstance (.ref x) (.type "object")) true) (hq : Q () s) : wpAny M A (checkBuiltinCall "object.__ne__" ⟨[.ref x, b], []⟩) Q E s := by
  have ha := PySem.F.cmpArgs_ne (.ref x) b
  simp only [checkBuiltinCall, PySem.F.cmpKind_ne, PySem.F.cmpSplit_ne]
  refine wpAny_bind (hi.here ?_)
  rw [if_neg (by decide)]
  cases hsig : Manifest.signature? "object.__ne__" with
  | none => exact wpAny_pure hq
  | some sig =>
    simp only [argsOk, hsig] at ha
    have h2 : Bind.checkArgs "object.__ne__" sig ⟨[.ref x, b], []⟩ = pure () := ha
    show wpAny M A (Bind.checkArgs "object.__ne__" sig ⟨[.ref x, b], []⟩) Q E _
    rw [h2]
    exact wpAny_pure hq
theorem neBound {M : Model} {args : List Value} {Q : Option Value → Shared → Prop} (X : K.In s.heap) (I : PySem.W.InstAt s.heap x ox C od) (hs : PySem.W.findIn K (.ref C) "__ne__" = some (some (.builtin "object.__ne__")))
    (h : wpAny M A (call (.builtin "object.__ne__") (.ref x :: args)) (fun v => Q (some v)) E s) : wpAny M A (callSpecialIfBound? (.ref x) "__ne__" args) Q E s := by
  simp only [callSpecialIfBound?, bindSpecialIfBound?]
  refine wpAny_holding (wpAny_bind (wpAny_bind (wpAny_bind (I.type.here ((PySem.W.looks_findIn X hs).here ?_)))))
  simp only [PySem.F.cmp_object.ne.bind]
  refine wpAny_bind (wpAny_askSetting (wpAny_ite ?_))
  have fin : wpAny M A (call (.builtin "object.__ne__") ([.ref x] ++ args) >>= fun v => pure (some v)) Q E s := wpAny_bind (wpAny_mono h (fun v s' h' => wpAny_pure h') fun _ _ h' => h')
  split
  · exact wpAny_bind (wpAny_pure (by exact wpAny_pure fin))
  · exact wpAny_tryCatch (wpAny_bind (wpAny_pure (by exact wpAny_pure fin)))
theorem neBody {Q : Fin → Shared → Prop} (X : K.In s.heap) (I : PySem.W.InstAt s.heap x ox C od) (hs : PySem.W.findIn K (.ref C) "__eq__" = some (some (.ref f))) (hf : PySem.W.isFn K (.ref f) = true) (hu : A.units < cLine)
    (h : wpAny (model prog w) A (call (.ref f) [.ref x, b]) (fun v s' => ∃ k, v = .bool k ∧ Q (.done (.ret (.bool (!k)))) s') E s) : wpAny (model prog w) A (Builtin.«object.__ne__» ⟨[.ref x, b], []⟩) Q E s := by
  unfold Builtin.«object.__ne__»
  repeat (first
    | with_reducible refine wpAny_cRoomFor hu ?_
    | (refine wpAny_bind (m := callSpecialIfBound? (.ref x) (Str.ofString "__eq__") [b])
        (PySem.W.ifBound_K X I hs hf (wpAny_mono h (fun r s' hr => by
          obtain ⟨k, rfl, hq⟩ := hr
          repeat (first | exact hq | exact wpAny_pure hq | exact wpAny_truthy_bool hq | (refine wpAny_bind (m := truthy (.bool _)) (wpAny_truthy_bool ?_)) | wp_step)) fun _ _ e => e)))
    | wp_step)
theorem ne_own {Q : Value → Shared → Prop} (hu : A.units + 1 < cLine) (F : Fr h₀ L s.heap m) (X₀ : K.In h₀) (I : PySem.W.InstAt s.heap x ox C od) (hb : PySem.W.Looks (model prog w) s.heap (typeOf b) tb) (hn : PySem.W.notFirst K C tb = true)
    (hne : PySem.W.findIn K (.ref C) "__ne__" = some (some (.builtin "object.__ne__"))) (hob : PySem.W.mroIn K C (.type "object") = some true) (hs : PySem.W.findIn K (.ref C) "__eq__" = some (some (.ref f))) (hf : PySem.W.isFn K (.ref f) = true)
    (h : wpAny (model prog w) A.in1 (call (.ref f) [.ref x, b]) (fun v s' => ∃ k, v = .bool k ∧ Q (.bool (!k)) s') E s) : wpAny (model prog w) A (richCompare .NotEq (.ref x) b) Q E s := by
  have X := X₀.keeps F.keep
  have one : wpAny (model prog w) A (tryCompare (.ref x) "__ne__" b) (fun r s' => ∃ v, r = some v ∧ Q v s') E s := by
    unfold tryCompare
    refine wpAny_bind (neBound X I hne (wpAny_call (codeAny_call_builtin PySem.F.cmp_object.ne.plain PySem.F.cmpEntry_ne (neCheck (I.type.andThen (PySem.W.looks_mroIn X hob)) (neBody (A := A.in1) X I hs hf (by have : A.in1.units = A.units + 1 := rfl; omega) (wpAny_mono h (fun v s' hv => ?_) fun _ _ e => e))))))
    obtain ⟨k, rfl, hq⟩ := hv
    exact ⟨k, rfl, wpAny_pure ⟨_, rfl, hq⟩⟩
  unfold richCompare
  simp only [oneThing_ref]
  refine wpAny_holding (wpAny_bind (wpAny_cRoomFor (by omega) ?_))
  rw [cmpInfo_NotEq]
  dsimp only
  refine wpAny_bind (I.type.here (wpAny_bind (hb.here ?_)))
  split
  · rename_i q
    have e : PySem.W.subIn K tb (.ref C) = some false := by
      rcases Bool.or_eq_true_iff.mp hn with e | e
      · rw [beq_iff_eq.mp e] at q; simp at q
      · exact beq_iff_eq.mp e
    refine wpAny_bind ((PySem.W.looks_subIn X e).here ?_)
    simp only [Bool.false_eq_true, if_false]
    refine wpAny_bind (wpAny_mono one (fun r s' ⟨v, e, hq⟩ => ?_) fun _ _ e => e)
    subst e
    exact wpAny_pure hq
  · refine wpAny_bind (wpAny_pure ?_)
    simp only [Bool.false_eq_true, if_false]
    refine wpAny_bind (wpAny_mono one (fun r s' ⟨v, e, hq⟩ => ?_) fun _ _ e => e)
    subst e
    exact wpAny_pure hq
end
/-- of two instances of the class at C -/
def rOwn (C : Addr) (g : Bool → Bool) (sp : Sp) : R2 := fun x y H Q => ∃ a b dx dy fs gs, x = .ref a ∧ y = .ref b ∧ H a = some (.ins C dx fs) ∧ H b = some (.ins C dy gs) ∧
  sp [x, y] H (fun v H' => ∃ k, v = .bl k ∧ Q (.bl (g k)) H') fun _ _ _ => False
structure NeC (K : PySem.W.Frag) (C : Addr) : Prop where
  n : PySem.W.findIn K (.ref C) "__ne__" = some (some (.builtin "object.__ne__"))
  m : PySem.W.mroIn K C (.type "object") = some true
section
variable {X : Cx} {k : Nat} {C f : Addr} {fd : FuncData} {ps : List Str} {sp : Sp}
theorem Inv.env1 {pins : List (Addr × Obj)} {s : Shared} {σ : L2.St} {H : Hp} (I : Inv X pins σ H s) : Env0 X.prog X.w X.K X.mg X.base X.A.in1 X.stack s H := by
  have e := I.env0
  exact ⟨e.frames, e.mod, e.bs, e.bsz, e.funs, e.frf, e.hok, e.bare⟩
theorem op_ownEq (F : FnOk X.prog X.w X.K X.mg X.base (L2N.CX X.prog X.w) k f fd ps sp) (hr : Room (k + 1) X.A) (hm : Meth X.K C "__eq__" f) (hb : Binds X.K fd ps []) : OpR X (compareOp .Eq) (rOwn C id sp) := by
  intro pins s σ H x y v u Q I rx ry h
  obtain ⟨a, b, dx, dy, fs, gs, rfl, rfl, ha, hb', hh⟩ := h
  cases rx
  cases ry
  obtain ⟨mA, J, _⟩ := ins_get I.hok ha
  obtain ⟨mB, J', _⟩ := ins_get I.hok hb'
  obtain ⟨od, J, _⟩ := J.look
  obtain ⟨od', J', _⟩ := J'.look
  obtain ⟨m, hF⟩ := I.fr
  unfold compareOp
  refine PySem.W.cmp_K (op := .Eq) (tb := .ref C) (hr.units0) hF I.ok.mod.kin J J'.type (by simp [PySem.W.notFirst]) hm.at_ hm.fn ?_
  refine wpAny_mono (run_fnS (us := [.ref a, .ref b]) (vs := [.ref a, .ref b]) (E := WE W0) F (hr.mono (by omega)) hb (L2N.passAt tk0 σ) I (.cons rfl (.cons rfl .nil)) hh) (fun r s' hq => ?_) fun _ _ z => z
  obtain ⟨v, H', I', rv, k, rfl, q⟩ := hq
  cases rv
  exact ⟨.bl k, H', I', rfl, q⟩
theorem op_ownNe (F : FnOk X.prog X.w X.K X.mg X.base (L2N.CX X.prog X.w) k f fd ps sp) (hr : Room (k + 1) X.A) (hm : Meth X.K C "__eq__" f) (hn : NeC X.K C) (hb : Binds X.K fd ps []) : OpR X (compareOp .NotEq) (rOwn C (!·) sp) := by
  intro pins s σ H x y v u Q I rx ry h
  obtain ⟨a, b, dx, dy, fs, gs, rfl, rfl, ha, hb', hh⟩ := h
  cases rx
  cases ry
  obtain ⟨mA, J, _⟩ := ins_get I.hok ha
  obtain ⟨mB, J', _⟩ := ins_get I.hok hb'
  obtain ⟨od, J, _⟩ := J.look
  obtain ⟨od', J', _⟩ := J'.look
  obtain ⟨m, hF⟩ := I.fr
  have hl := F.len _ _ _ _ hh
  unfold compareOp
  refine ne_own (by have := hr.un; omega) hF I.ok.mod.kin J J'.type (by simp [PySem.W.notFirst]) hn.n hn.m hm.at_ hm.fn ?_
  refine wpAny_call (codeAny_mono (F.run X.A.in1 X.stack s H ⟨[.ref a, .ref b], []⟩ [.ref a, .ref b] [.ref a, .ref b] _ (fun _ _ _ => False) hr.in1 (Inv.env1 I) (by
    have := hb s [.ref a, .ref b] I.kIn (by simpa using hl)
    simpa using this) (.cons rfl (.cons rfl .nil)) hh) fun r s' hq => ?_)
  cases r with
  | error e => exact L2N.passAt tk0 σ pins H s e s' I hq
  | ok fl =>
    cases fl with
    | ret w =>
      obtain ⟨z, H', I', rz, k, rfl, q⟩ := I.after hq
      cases rz
      exact ⟨k, rfl, .bl (!k), H', I', rfl, q⟩
    | next => exact False.elim hq
    | brk => exact False.elim hq
    | cont => exact False.elim hq
end
/-- the deep data is such an instance -/
def insOf (C : Addr) (M : MS) : D → Prop
  | .ins C' _ => C' = C
  | .v (.ref a) => ∃ dx fs, M a = some (.ins C dx fs)
  | _ => False
theorem insOf_rep {K : PySem.W.Frag} {w : W3} {C : Addr} {d : D} {x : V} (s : Ok K w) (r : Rep K w.F d x) (h : insOf C w.M d) : ∃ a dx fs, x = .ref a ∧ w.H a = some (.ins C dx fs) := by
  unfold insOf at h
  split at h
  · subst h
    obtain ⟨a, dx, ys, e, e2, _⟩ := r.ins_inv
    exact ⟨a, dx, ys, e, s.sub _ _ e2⟩
  · obtain ⟨dx, fs, e⟩ := h
    obtain ⟨o, e1, e2⟩ := s.mu _ _ e
    cases e2 with
    | ins r' => exact ⟨_, dx, _, r.v_inv, e1⟩
  · exact h.elim
def zOwn (C : Addr) (g : Bool → Bool) (zp : ZSp) : ZR2 := fun d e M Q => insOf C M d ∧ insOf C M e ∧ zp [d, e] M (fun r M' => ∃ k, r = .v (.bl k) ∧ Q (.v (.bl (g k))) M') fun _ _ _ => False
theorem lr_own {K : PySem.W.Frag} {C : Addr} {g : Bool → Bool} {zp : ZSp} : LR2 K (rOwn C g (spOf K zp)) (zOwn C g zp) := fun w x y d e Qz Q s rx ry c h => by
  obtain ⟨h1, h2, q⟩ := h
  obtain ⟨a, dx, fs, rfl, ea⟩ := insOf_rep s rx h1
  obtain ⟨b, dy, gs, rfl, eb⟩ := insOf_rep s ry h2
  refine ⟨a, b, dx, dy, fs, gs, rfl, rfl, ea, eb, w, [d, e], _, _, rfl, s, .cons rx (.cons ry .nil), fun u f v lu su r ⟨k, e1, q1⟩ => ?_, fun u C' d' fs' lu su r z => z, q⟩
  subst e1
  exact ⟨k, r.v_inv, c u _ _ lu su (.v _) q1⟩
section
variable {X : Cx} {k : Nat} {C : Addr} {ps : List Str} {zp : ZSp}
theorem zc_eq (d : MethAt X.prog X.w X.K X.mg X.base k C "__eq__" ps zp) (hr : Room (k + 1) X.A) : OpR X (compareOp .Eq) (rOwn C id (spOf X.K zp)) :=
  let ⟨_, _, F, a, b⟩ := d.ex; op_ownEq F hr a b
theorem zc_ne (d : MethAt X.prog X.w X.K X.mg X.base k C "__eq__" ps zp) (hr : Room (k + 1) X.A) (hn : NeC X.K C) : OpR X (compareOp .NotEq) (rOwn C (!·) (spOf X.K zp)) :=
  let ⟨_, _, F, a, b⟩ := d.ex; op_ownNe F hr a hn b
end
end Zl
namespace Zl
open PySem PySem.Spec PyProof.Rows L2
abbrev rAbs : List V → Hp → VK → Prop := fun xs H Q => ∃ i, xs = [.int i] ∧ Q (.int (if i < 0 then -i else i)) H
abbrev rInt1 : List V → Hp → VK → Prop := fun xs H Q => (∃ i, xs = [.int i] ∧ Q (.int i) H) ∨ ∃ k, xs = [.bl k] ∧ Q (.int (if k then 1 else 0)) H
abbrev rMax2 : List V → Hp → VK → Prop := fun xs H Q => ∃ i j, xs = [.int i, .int j] ∧ Q (.int (if j > i then j else i)) H
abbrev rMin2 : List V → Hp → VK → Prop := fun xs H Q => ∃ i j, xs = [.int i, .int j] ∧ Q (.int (if j < i then j else i)) H
abbrev rTuple (K : PySem.W.Frag) : List V → Hp → VK → Prop := fun xs H Q => ∃ p ys, xs = [.ref p] ∧ ((SqL K H p ys ∧ ∀ l, H l = none → Q (.ref l) (upd H l (.tup ys))) ∨ (SqT K H p ys ∧ Q (.ref p) H))
abbrev rListOf (K : PySem.W.Frag) : List V → Hp → VK → Prop := fun xs H Q => ∃ p ys, xs = [.ref p] ∧ (SqL K H p ys ∨ SqT K H p ys) ∧ ∀ l, H l = none → Q (.ref l) (upd H l (.lst ys))
def zYes : ZT := fun _ M Q => Q true M
section
variable {K : PySem.W.Frag} {w0 : W3} {t u : TE} {z zv : ZE}
theorem lt_yes : LT K w0 tYes zYes := fun w σ δ Qz Q _ s rs c h => c w true (Nx.rf w) s h
/-! ### isinstance of what is caught, its class told by the wish -/
def rIsXc (K : PySem.W.Frag) (cls : Value) (D a : Addr) (d : Option Addr) : List V → Hp → VK → Prop := fun xs H Q => cls = .ref D ∧ rIsX K D a d xs H Q
theorem call_isXc {X : Cx} {a D : Addr} {oe : Obj} {cls : Value} {d : Option Addr} {pn : List (Addr × Obj)} (C : XcC X.K D) (hz : Zc cls d oe) (hf : ∃ vs, oe.data = .fields vs) : CallR (X.suite a ((a, oe) :: pn)) (.builtin "isinstance") (rIsXc X.K cls D a d) := by
  intro pins s σ H xs us Q I r ⟨e, hh⟩
  subst e
  exact call_isX C hz hf pins s σ H xs us Q I r hh
def zIsXc (K : PySem.W.Frag) (C D a : Addr) : ZRA := fun ds M Q => C = D ∧ zIsX K D a ds M Q
theorem le_isXc {D a C : Addr} {d : Option Addr} {fs : List (Str × Zl.D)} {aa : TA} {za : ZA} (rx : XRep K w0.F d fs) (h1 : LA K w0 aa za) : LE K w0 (tCB (rIsXc K (.ref C) D a d) aa) (zCB (zIsXc K C D a) za) := fun w σ δ Qz Q l s rs c h =>
  h1 w σ δ _ _ l s rs (fun u ds xs lu su r ⟨h2, h3⟩ => by
    subst h2
    unfold zIsX at h3
    split at h3
    · obtain ⟨rfl, v, k, e1, e2, q⟩ := h3
      cases r with
      | cons r1 r => cases r with
        | cons r2 r =>
          cases r
          refine ⟨rfl, _, v, k, by rw [r1.v_inv], clD_rep r2 e1, e2, ?_, (c.le lu).go su (.v _) q⟩
          cases rx with
          | none => exact .inl rfl
          | some hF rF => exact .inr ⟨_, _, rfl, su.sub _ _ ((l.tr lu).le _ _ hF)⟩
    · exact h3.elim) h
/-! ### t[::-1] -/
def zRevT (z : ZE) : ZE := fun δ M Q => z δ M fun d M1 => match d with | .tup ds => Q (.tup ds.reverse) M1 | _ => False
theorem reps_rev {F : Hp} : ∀ {ds : List D} {xs : List V}, Reps K F ds xs → Reps K F ds.reverse xs.reverse
  | _, _, .nil => .nil
  | _, _, .cons a r => by
    rw [List.reverse_cons, List.reverse_cons]
    exact (reps_rev r).snoc a
theorem le_revT (h1 : LE K w0 t z) : LE K w0 (tRevT K t) (zRevT z) := fun w σ δ Qz Q l s rs c h =>
  h1 w σ δ _ _ l s rs (fun u d x lu su r h2 => by
    cases d with
    | tup ds =>
      obtain ⟨a, xs, rfl, q, r'⟩ := r.tup_inv
      exact ⟨a, xs, rfl, sqT_le su.sub q, fun p hp => (c.le lu).new su hp (.tup upd_same ((reps_rev r').le (Le.put (su.nF hp)))) h2⟩
    | _ => exact h2.elim) h
/-! ### dict displays -/
/-! what was changed is data from now on -/
theorem settled {K : PySem.W.Frag} {u : W3} {p : Addr} {m : MO} {o o' : HO} (s : Ok K u) (e : u.M p = some m) (hH : u.H p = some o) : Nx u ⟨upd u.F p o', mdel u.M p, upd u.H p o'⟩ ∧ Ok K ⟨upd u.F p o', mdel u.M p, upd u.H p o'⟩ := by
  have hF : u.F p = none := by
    cases e2 : u.F p with
    | none => rfl
    | some o => rw [s.dis _ _ e2] at e; cases e
  refine ⟨⟨Le.put hF, fun b v eb _ n => ?_⟩, fun b v eb => ?_, fun b v eb => ?_, fun b v eb => ?_⟩
  · have nb : b ≠ p := fun q => by rw [q, e] at n; cases n
    refine ⟨by show upd u.H p _ b = _; rw [upd_ne nb]; exact eb, ?_, fun f => ?_⟩
    · show (if b = p then none else u.M b) = none
      rw [if_neg nb]; exact n
    · show upd u.F p _ b = none
      rw [upd_ne nb]; exact f
  · have eb' : upd u.F p o' b = some v := eb
    show upd u.H p o' b = some v
    by_cases q : b = p
    · subst q; rw [upd_same] at eb' ⊢; exact eb'
    · rw [upd_ne q] at eb' ⊢; exact s.sub _ _ eb'
  · have eb' : upd u.F p o' b = some v := eb
    show (if b = p then none else u.M b) = none
    by_cases q : b = p
    · rw [if_pos q]
    · rw [upd_ne q] at eb'; rw [if_neg q]; exact s.dis _ _ eb'
  · have eb' : (if b = p then none else u.M b) = some v := eb
    by_cases q : b = p
    · rw [if_pos q] at eb'; cases eb'
    · rw [if_neg q] at eb'
      obtain ⟨o2, e3, e4⟩ := s.mu _ _ eb'
      exact ⟨o2, by show upd u.H p o' b = _; rw [upd_ne q]; exact e3, e4.le (Le.put hF)⟩
/-- a dict: locked for good -/
def tLk (t : TE) : TE := fun σ H Q => t σ H fun x H1 => ∃ d kvs, x = .ref d ∧ H1 d = some (.dK kvs) ∧ ∀ od, Q x (upd H1 d (.frz od (.dK kvs)))
theorem pe_lk {X : Cx} {e : Expr} {t : TE} (h : PE X e t) : PE X e (tLk t) := ⟨fun pins s σ H Q I hw => thn (h.run pins s σ H _ I hw) fun v s1 ⟨x, H1, I1, r, d, kvs, ex, hd, q⟩ => by
  obtain ⟨od, I2⟩ := I1.lock hd True.intro
  exact ⟨x, _, I2, r, q od⟩⟩
def zLk (z : ZE) : ZE := fun δ M Q => z δ M fun d M1 => match d with
  | .v (.ref a) => ∃ kvs, M1 a = some (.dct kvs) ∧ Q (.dct kvs) (mdel M1 a)
  | _ => False
theorem le_lk {K : PySem.W.Frag} {w0 : W3} {t : TE} {z : ZE} (h1 : LE K w0 t z) : LE K w0 (tLk t) (zLk z) := fun w σ δ Qz Q l s rs c h =>
  h1 w σ δ _ _ l s rs (fun u d x lu su r h2 => by
    split at h2
    · rename_i a
      obtain ⟨kvs, e1, q⟩ := h2
      obtain ⟨o, e2, e3⟩ := su.mu _ _ e1
      cases e3 with
      | @dct _ xs rr =>
        refine ⟨a, xs, r.v_inv, e2, fun od => ?_⟩
        obtain ⟨n1, s1⟩ := settled (o' := .frz od (.dK xs)) su e1 e2
        have ex := r.v_inv
        subst ex
        exact c ⟨upd u.F a (.frz od (.dK xs)), mdel u.M a, upd u.H a (.frz od (.dK xs))⟩ _ _ (lu.tr n1) s1 (.dct upd_same (rr.le n1.le)) q
    · exact h2.elim) h
def zDnewM : ZE := fun δ M Q => ∀ p, M p = none → Q (.v (.ref p)) (mput M p (.dct []))
theorem le_dnewM : LE K w0 tDNewK zDnewM := fun w σ δ Qz Q l s rs c h => fun p hp => c.alloc s hp (.dct .nil) (h p (s.nM hp))
def zDnew : ZE := fun δ M Q => Q (.dct []) M
theorem mdel_mput' {M : MS} {p : Addr} {m : MO} (h : M p = none) : mdel (mput M p m) p = M := by
  funext b
  show (if b = p then none else if b = p then _ else _) = M b
  split
  · rename_i e; rw [e, h]
  · rfl
theorem le_dnew : LE K w0 (tLk tDNewK) zDnew := fun w σ δ Qz Q l s rs c h => le_lk le_dnewM w σ δ Qz Q l s rs c fun p hp => ⟨[], mput_same, by rw [mdel_mput' hp]; exact h⟩
def tD1 (k : Int) (t : TE) : TE := tDisp [(tC (.int k), t)]
theorem zp_d1 {X : Cx} {k : Int} {kk : Nat} {p0 pos : Pos} {v : Expr} (hv : PE X v t) : PE X (.Dict [some (.Constant (.int k) kk p0)] [v] pos) (tD1 k t) := pe_disp (pps_cons pe_int hv pps_nil) rfl rfl (by simp) (by simp)
def zD1M (k : Int) (z : ZE) : ZE := fun δ M Q => ∀ p, M p = none → z δ (mput M p (.dct [])) fun d M1 => M1 p = some (.dct []) ∧ Q (.v (.ref p)) (mput M1 p (.dct [(.inl k, d)]))
theorem le_d1M {k : Int} (h1 : LE K w0 t z) : LE K w0 (tD1 k t) (zD1M k z) := fun w σ δ Qz Q l s rs c h => fun p hp => by
  have la : Nx w ⟨w.F, mput w.M p (.dct []), upd w.H p (.dK [])⟩ := nx_alloc s hp
  have sa : Ok K ⟨w.F, mput w.M p (.dct []), upd w.H p (.dK [])⟩ := Sim.alloc s hp (.dct .nil)
  refine h1 ⟨w.F, mput w.M p (.dct []), upd w.H p (.dK [])⟩ σ δ _ _ (l.tr la) sa (rs.le la.le) (fun u d x lu su r ⟨e1, q⟩ => ?_) (h p (s.nM hp))
  obtain ⟨o, e2, e3⟩ := su.mu _ _ e1
  cases e3 with
  | dct r0 =>
    cases r0
    refine ⟨e2, [(.inl k, x)], rfl, by simp, ?_⟩
    have l1 : Nx u ⟨u.F, mput u.M p (.dct [(.inl k, d)]), upd u.H p (.dK [(.inl k, x)])⟩ := nx_write e1
    exact c ⟨u.F, mput u.M p (.dct [(.inl k, d)]), upd u.H p (.dK [(.inl k, x)])⟩ _ _ (la.tr (lu.tr l1)) (Sim.write su e1 (.dct (.cons r .nil))) (.v _) q
def zD1 (k : Int) (z : ZE) : ZE := zLk (zD1M k z)
theorem le_d1 {k : Int} (h1 : LE K w0 t z) : LE K w0 (tLk (tD1 k t)) (zD1 k z) := le_lk (le_d1M h1)
theorem mdel_mputA {M : MS} {p : Addr} {m : MO} : mdel (mput M p m) p = mdel M p := by
  funext b
  show (if b = p then none else if b = p then _ else _) = (if b = p then none else _)
  split <;> rfl
/-! ### tuple(range(..)), list(range(..)) -/
def rgD (a b : Int) : List D := (List.range (b - a).toNat).map fun i => .v (.int (a + (i : Nat)))
theorem rg_reps {F : Hp} (a b : Int) : Reps K F (rgD a b) (rgV a b) := by
  unfold rgD rgV
  induction List.range (b - a).toNat with
  | nil => exact .nil
  | cons i r ih => exact .cons (.v _) ih
def zTupRg1 (z : ZE) : ZE := fun δ M Q => z δ M fun d M1 => match d with | .v (.int j) => RgOk 0 j ∧ Q (.tup (rgD 0 j)) M1 | _ => False
def zTupRg2 (z zv : ZE) : ZE := fun δ M Q => z δ M fun d M1 => zv δ M1 fun e M2 => match d, e with | .v (.int i), .v (.int j) => RgOk i j ∧ Q (.tup (rgD i j)) M2 | _, _ => False
def zLstRg1M (z : ZE) : ZE := fun δ M Q => z δ M fun d M1 => match d with | .v (.int j) => RgOk 0 j ∧ ∀ p, M1 p = none → Q (.v (.ref p)) (mput M1 p (.lst (rgD 0 j))) | _ => False
def zLstRg1 (z : ZE) : ZE := fun δ M Q => z δ M fun d M1 => match d with | .v (.int j) => RgOk 0 j ∧ Q (.lst (rgD 0 j)) M1 | _ => False
theorem le_tupRg1 (h1 : LE K w0 t z) : LE K w0 (tTupRg (tRg1 t)) (zTupRg1 z) := fun w σ δ Qz Q l s rs c h =>
  h1 w σ δ _ _ l s rs (fun u d x lu su r h2 => by
    split at h2
    · obtain ⟨g, q⟩ := h2
      exact ⟨_, r.v_inv, g, fun p hp => (c.le lu).new su hp (.tup upd_same ((rg_reps _ _).le (Le.put (su.nF hp)))) q⟩
    · exact h2.elim) h
theorem le_lstRg1 (h1 : LE K w0 t z) : LE K w0 (tLstRg (tRg1 t)) (zLstRg1 z) := fun w σ δ Qz Q l s rs c h =>
  h1 w σ δ _ _ l s rs (fun u d x lu su r h2 => by
    split at h2
    · obtain ⟨g, q⟩ := h2
      exact ⟨_, r.v_inv, g, fun p hp => (c.le lu).new su hp (.lst upd_same ((rg_reps _ _).le (Le.put (su.nF hp)))) q⟩
    · exact h2.elim) h
theorem le_lstRg1M (h1 : LE K w0 t z) : LE K w0 (tLstRg (tRg1 t)) (zLstRg1M z) := fun w σ δ Qz Q l s rs c h =>
  h1 w σ δ _ _ l s rs (fun u d x lu su r h2 => by
    split at h2
    · obtain ⟨g, q⟩ := h2
      exact ⟨_, r.v_inv, g, fun p hp => (c.le lu).alloc su hp (.lst (rg_reps _ _)) (q p (su.nM hp))⟩
    · exact h2.elim) h
theorem le_tupRg2 (h1 : LE K w0 t z) (h2 : LE K w0 u zv) : LE K w0 (tTupRg (tRg2 t u)) (zTupRg2 z zv) := fun w σ δ Qz Q l s rs c h =>
  h1 w σ δ _ _ l s rs (fun u1 d x lu su r h3 => h2 u1 σ δ _ _ (l.tr lu) su (rs.le lu.le) (fun u2 e y lv sv ry h4 => by
    split at h4
    · obtain ⟨g, q⟩ := h4
      exact ⟨_, _, r.v_inv, ry.v_inv, g, fun p hp => (c.le (lu.tr lv)).new sv hp (.tup upd_same ((rg_reps _ _).le (Le.put (sv.nF hp)))) q⟩
    · exact h4.elim) h3) h
/-! ### is True, is not True -/
def zIsB (g : Bool → Bool) : ZR2 := fun d e M Q => match d, e with | .v (.bl a), .v (.bl b) => Q (.v (.bl (g (decide (a = b))))) M | _, _ => False
theorem lr_isBl : LR2 K rIsB (zIsB id) := fun w x y d e Qz Q s rx ry c h => by
  unfold zIsB at h
  split at h
  · exact ⟨_, _, rx.v_inv, ry.v_inv, c.go s (.v _) h⟩
  · exact h.elim
theorem lr_notBl : LR2 K rNotB (zIsB (!·)) := fun w x y d e Qz Q s rx ry c h => by
  unfold zIsB at h
  split at h
  · exact ⟨_, _, rx.v_inv, ry.v_inv, c.go s (.v _) h⟩
  · exact h.elim
end
end Zl
namespace Zl
open PySem PySem.Spec PyProof.Rows L2

/-! ### words for the z-proofs -/
def onB (d : D) (f : Bool → Prop) : Prop := match d with | .v (.bl b) => f b | _ => False
theorem onB_bl {b : Bool} {f : Bool → Prop} : onB (.v (.bl b)) f = f b := rfl
section
variable {δ : ZSt} {M : MS} {Q : ZQ} {z w : ZE} {QT : Bool → MS → Prop} {zt wt : ZT}
theorem e_bT : bT z δ M QT = z δ M fun d M1 => onB d fun b => QT b M1 := by
  unfold bT onB
  congr 1
theorem e_andV : zAndV z w δ M Q = z δ M fun d M1 => onB d fun b => if b = true then w δ M1 Q else Q (.v (.bl false)) M1 := by
  unfold zAndV onB
  congr 1
  funext d M1
  split
  · exact (if_pos rfl).symm
  · exact (if_neg Bool.false_ne_true).symm
  · rename_i h1 h2
    split
    · rename_i b
      cases b
      · exact (h2 rfl).elim
      · exact (h1 rfl).elim
    · rfl
theorem e_orV : zOrV z w δ M Q = z δ M fun d M1 => onB d fun b => if b = true then Q (.v (.bl true)) M1 else w δ M1 Q := by
  unfold zOrV onB
  congr 1
  funext d M1
  split
  · exact (if_pos rfl).symm
  · exact (if_neg Bool.false_ne_true).symm
  · rename_i h1 h2
    split
    · rename_i b
      cases b
      · exact (h2 rfl).elim
      · exact (h1 rfl).elim
    · rfl
theorem e_notV : zNotV z δ M Q = z δ M fun d M1 => onB d fun b => Q (.v (.bl (!b))) M1 := by
  unfold zNotV onB
  congr 1
theorem e_chain {r r' : ZR2} {a b c : ZE} : zChain r r' a b c δ M Q = a δ M fun d M1 => b δ M1 fun e M2 => r d e M2 fun k M3 => onB k fun b => if b = true then c δ M3 fun f M4 => r' e f M4 Q else Q (.v (.bl false)) M3 := by
  unfold zChain onB
  congr 1
  funext d M1
  congr 1
  funext e M2
  congr 1
  funext k M3
  split
  · exact (if_pos rfl).symm
  · exact (if_neg Bool.false_ne_true).symm
  · rename_i h1 h2
    split
    · rename_i b
      cases b
      · exact (h2 rfl).elim
      · exact (h1 rfl).elim
    · rfl
theorem e_I0 {g : Int → Int → V} {i j : Int} : zI0 g (.v (.int i)) (.v (.int j)) M Q = Q (.v (g i j)) M := rfl
theorem e_I {C : Int → Int → Prop} {g : Int → Int → V} {i j : Int} : zI C g (.v (.int i)) (.v (.int j)) M Q = (C i j ∧ Q (.v (g i j)) M) := rfl
theorem e_U {g : Int → V} {i : Int} : zU g (.v (.int i)) M Q = Q (.v (g i)) M := rfl
theorem e_addI {i j : Int} : zAdd (.v (.int i)) (.v (.int j)) M Q = Q (.v (.int (i + j))) M := rfl
theorem e_addS {i j : Str} : zAdd (.v (.str i)) (.v (.str j)) M Q = (i.length + j.length ≤ sizeLine ∧ Q (.v (.str (i ++ j))) M) := rfl
theorem e_addT {i j : List D} : zAdd (.tup i) (.tup j) M Q = (i.length + j.length ≤ sizeLine ∧ Q (.tup (i ++ j)) M) := rfl
theorem e_addL {i j : List D} : zAdd (.lst i) (.lst j) M Q = (i.length + j.length ≤ sizeLine ∧ Q (.lst (i ++ j)) M) := rfl
theorem e_mulI {i j : Int} : zMul (.v (.int i)) (.v (.int j)) M Q = ((CMul i j ∨ CMulW i j) ∧ Q (.v (.int (i * j))) M) := rfl
theorem e_mulL {ds : List D} {k : Int} : zMul (.lst ds) (.v (.int k)) M Q = (0 ≤ k ∧ k < 2 ^ 63 ∧ ds.length * k.toNat ≤ sizeLine ∧ Q (.lst (List.replicate k.toNat ds).flatten) M) := rfl
theorem e_mulT {ds : List D} {k : Int} : zMul (.tup ds) (.v (.int k)) M Q = (ds ≠ [] ∧ 2 ≤ k ∧ k ≤ 1000 ∧ ds.length ≤ 1000 ∧ Q (.tup (List.replicate k.toNat ds).flatten) M) := rfl
theorem e_ixT {ds : List D} {i : Int} : zIx (.tup ds) (.v (.int i)) M Q = ∃ f, atI ds i = some f ∧ Q f M := by
  show (∃ ds' f, seqOf M (.tup ds) = some ds' ∧ atI ds' i = some f ∧ Q f M) = _
  simp [seqOf]
theorem e_ixL {ds : List D} {i : Int} : zIx (.lst ds) (.v (.int i)) M Q = ∃ f, atI ds i = some f ∧ Q f M := by
  show (∃ ds' f, seqOf M (.lst ds) = some ds' ∧ atI ds' i = some f ∧ Q f M) = _
  simp [seqOf]
theorem e_ixM {a : Addr} {i : Int} : zIx (.v (.ref a)) (.v (.int i)) M Q = ∃ ds, M a = some (.lst ds) ∧ ∃ f, atI ds i = some f ∧ Q f M := by
  show (∃ ds' f, seqOf M (.v (.ref a)) = some ds' ∧ atI ds' i = some f ∧ Q f M) = _
  unfold seqOf
  cases e : M a with
  | none => simp [e]
  | some o => cases o <;> simp [e]
theorem e_setM {a : Addr} {k : Int} {d : D} {Qn : MS → Prop} : zSetL (.v (.ref a)) (.v (.int k)) d M Qn = ∃ ds, M a = some (.lst ds) ∧ ∃ j, ixN ds.length k = some j ∧ Qn (mput M a (.lst (ds.set j d))) := by
  show (∃ ds j, M a = some (.lst ds) ∧ ixN ds.length k = some j ∧ Qn (mput M a (.lst (ds.set j d)))) = _
  simp only [exists_and_left]
theorem e_isN {d : D} : zIsN d (.v .non) M Q = Q (.v (.bl (isNon d))) M := rfl
theorem e_isNotN {d : D} : zIsNotN d (.v .non) M Q = Q (.v (.bl (!isNon d))) M := rfl
theorem e_eqI {i j : Int} : zEq (.v (.int i)) (.v (.int j)) M Q = Q (.v (.bl (decide (i = j)))) M := by
  have e : eqD (.v (.int i)) (.v (.int j)) = decide (i = j) := by
    unfold eqD toPy
    show (i == j) = decide (i = j)
    by_cases h : i = j
    · simp [h]
    · simp [h]
  unfold zEq okD
  rw [e]
  have sh : ∀ n : Int, SeqAt.shaped (PyData.int n) = true := fun n => rfl
  simp [plD, toPy, sh]
theorem e_neI {i j : Int} : zNe (.v (.int i)) (.v (.int j)) M Q = Q (.v (.bl (!decide (i = j)))) M := by
  have e : eqD (.v (.int i)) (.v (.int j)) = decide (i = j) := by
    unfold eqD toPy
    show (i == j) = decide (i = j)
    by_cases h : i = j
    · simp [h]
    · simp [h]
  unfold zNe okD
  rw [e]
  have sh : ∀ n : Int, SeqAt.shaped (PyData.int n) = true := fun n => rfl
  simp [plD, toPy, sh]
theorem e_lenT {ds : List D} : zLen [.tup ds] M Q = Q (.v (.int ds.length)) M := by
  show (∃ n, (seqOf M (.tup ds)).map List.length = some n ∧ _) = _
  simp [seqOf]
theorem e_lenL {ds : List D} : zLen [.lst ds] M Q = Q (.v (.int ds.length)) M := by
  show (∃ n, (seqOf M (.lst ds)).map List.length = some n ∧ _) = _
  simp [seqOf]
theorem e_lenR {ds : List D} : zLen [.rd ds] M Q = Q (.v (.int ds.length)) M := by
  show (∃ n, (seqOf M (.rd ds)).map List.length = some n ∧ _) = _
  simp [seqOf]
theorem e_intI {i : Int} : zInt [.v (.int i)] M Q = Q (.v (.int i)) M := rfl
theorem e_absI {i : Int} : zAbs [.v (.int i)] M Q = Q (.v (.int (if i < 0 then -i else i))) M := rfl
theorem e_tupL {ds : List D} : zTuple [.lst ds] M Q = Q (.tup ds) M := by
  show (∃ es, seqOf M (.lst ds) = some es ∧ _) = _
  simp [seqOf]
theorem e_tupT {ds : List D} : zTuple [.tup ds] M Q = Q (.tup ds) M := by
  show (∃ es, seqOf M (.tup ds) = some es ∧ _) = _
  simp [seqOf]
theorem e_lstL {ds : List D} : zList [.lst ds] M Q = Q (.lst ds) M := by
  show (∃ es, seqOf M (.lst ds) = some es ∧ _) = _
  simp [seqOf]
theorem e_lstT {ds : List D} : zList [.tup ds] M Q = Q (.lst ds) M := by
  show (∃ es, seqOf M (.tup ds) = some es ∧ _) = _
  simp [seqOf]
theorem e_gtup {n : Nat} {gs : ZGs} {ds : List D} {Qn : ZSt → MS → Prop} : zgTup n gs (.tup ds) δ M Qn = (ds.length = n ∧ gs ds δ M Qn) := rfl
theorem e_gcons {g : ZG} {gs : ZGs} {d : D} {ds : List D} {Qn : ZSt → MS → Prop} : zgCons g gs (d :: ds) δ M Qn = g d δ M fun δ1 M1 => gs ds δ1 M1 Qn := rfl
theorem e_gnil {Qn : ZSt → MS → Prop} : zgNil [] δ M Qn = Qn δ M := rfl
theorem e_par {i j : Nat} {za : ZA} {D : ZEnds} : zPar i j za D δ M = za δ M fun ds M1 => ∃ d e, ds = [d, e] ∧ D.nx ((δ.set i (some d)).set j (some e)) M1 := by
  unfold zPar
  congr 1
  funext ds M1
  match ds with
  | [] => simp
  | [a] => simp
  | [a, b] => exact propext ⟨fun h => ⟨a, b, rfl, h⟩, fun ⟨_, _, e, h⟩ => by cases e; exact h⟩
  | a :: b :: c :: r => simp
theorem e_par3 {i j k : Nat} {za : ZA} {D : ZEnds} : zPar3 i j k za D δ M = za δ M fun ds M1 => ∃ d e f, ds = [d, e, f] ∧ D.nx (((δ.set i (some d)).set j (some e)).set k (some f)) M1 := by
  unfold zPar3
  congr 1
  funext ds M1
  match ds with
  | [] => simp
  | [a] => simp
  | [a, b] => simp
  | [a, b, c] => exact propext ⟨fun h => ⟨a, b, c, rfl, h⟩, fun ⟨_, _, _, e, h⟩ => by cases e; exact h⟩
  | a :: b :: c :: d :: r => simp
theorem zat_nat {α : Type} {xs : List α} {j : Nat} : atI xs (j : Int) = xs[j]? := by
  unfold atI ixN
  rw [if_pos (by omega)]
  by_cases h : (j : Int) < xs.length
  · rw [if_pos h]
    rfl
  · rw [if_neg h, List.getElem?_eq_none (by omega)]
    rfl
theorem ixN_nat {n j : Nat} (h : j < n) : ixN n (j : Int) = some j := by
  unfold ixN
  rw [if_pos (by omega), if_pos (by omega)]
  rfl
section
variable {α : Type} {a b c d e f : α} {r : List α}
theorem e_at0 : atI (a :: r) 0 = some a := by rw [show (0 : Int) = ((0 : Nat) : Int) from rfl, zat_nat] <;> rfl
theorem e_at1 : atI (a :: b :: r) 1 = some b := by rw [show (1 : Int) = ((1 : Nat) : Int) from rfl, zat_nat] <;> rfl
theorem e_at2 : atI (a :: b :: c :: r) 2 = some c := by rw [show (2 : Int) = ((2 : Nat) : Int) from rfl, zat_nat] <;> rfl
theorem e_at3 : atI (a :: b :: c :: d :: r) 3 = some d := by rw [show (3 : Int) = ((3 : Nat) : Int) from rfl, zat_nat] <;> rfl
theorem e_at4 : atI (a :: b :: c :: d :: e :: r) 4 = some e := by rw [show (4 : Int) = ((4 : Nat) : Int) from rfl, zat_nat] <;> rfl
theorem e_at5 : atI (a :: b :: c :: d :: e :: f :: r) 5 = some f := by rw [show (5 : Int) = ((5 : Nat) : Int) from rfl, zat_nat] <;> rfl
theorem e_atn : atI r (-1) = if r = [] then none else r[r.length - 1]? := by
  unfold atI ixN
  rw [if_neg (by omega)]
  cases r with
  | nil => rfl
  | cons a r =>
    rw [if_pos (by simp; omega), if_neg (by simp)]
    show ((a :: r)[((-1 : Int) + ((a :: r).length : Nat)).toNat]?) = _
    congr 1
    simp
    omega
theorem e_set0 {n : Nat} : ixN (n + 1) 0 = some 0 := ixN_nat (j := 0) (by omega)
theorem e_set1 {n : Nat} : ixN (n + 2) 1 = some 1 := ixN_nat (j := 1) (by omega)
theorem e_set2 {n : Nat} : ixN (n + 3) 2 = some 2 := ixN_nat (j := 2) (by omega)
theorem e_set3 {n : Nat} : ixN (n + 4) 3 = some 3 := ixN_nat (j := 3) (by omega)
theorem e_set4 {n : Nat} : ixN (n + 5) 4 = some 4 := ixN_nat (j := 4) (by omega)
end
end

/-! ### loops -/
section
variable {g : ZG} {b : ZS} {D : ZEnds} {ds : List Zl.D}
/-- a for loop, what holds told by the place -/
theorem zloop (I : Nat → ZSt → MS → Prop) (step : ∀ i d δ M (k : ZSt → MS → Prop), ds[i]? = some d → I i δ M → (∀ δ M, I (i + 1) δ M → k δ M) → g d δ M fun δ1 M1 => b { D with nx := k, ct := k, bk := D.nx } δ1 M1)
    (fin : ∀ δ M, I ds.length δ M → D.nx δ M) {δ : ZSt} {M : MS} (h0 : I 0 δ M) : zLoop g b D ds δ M := by
  have go : ∀ (r : List Zl.D) (i : Nat), ds.drop i = r → i ≤ ds.length → ∀ δ M, I i δ M → zLoop g b D r δ M := by
    intro r
    induction r with
    | nil =>
      intro i e hi δ M h
      have : ds.length ≤ i := List.drop_eq_nil_iff.mp e
      have : i = ds.length := by omega
      subst this
      exact fin δ M h
    | cons d r ih =>
      intro i e hi δ M h
      have hd : ds[i]? = some d := by
        have := congrArg (fun l : List Zl.D => l[0]?) e
        simpa using this
      have hlt : i < ds.length := by
        rcases Nat.lt_or_ge i ds.length with h | h
        · exact h
        · rw [List.getElem?_eq_none h] at hd; cases hd
      have hr : ds.drop (i + 1) = r := by
        have e2 := List.drop_eq_getElem_cons hlt
        rw [e] at e2
        exact (List.cons.inj e2).2.symm
      exact step i d δ M _ hd h fun δ M h' => ih (i + 1) hr hlt δ M h'
  exact go ds 0 rfl (Nat.zero_le _) δ M h0
end
section
variable {g : ZG} {zt : ZT} {ze : ZE} {δ : ZSt} {Q : List D → MS → Prop} {ds : List D}
/-- a comprehension -/
theorem zlc (I : Nat → List D → MS → Prop) (hl : ds.length ≤ sizeLine)
    (step : ∀ i d acc M (k1 : D → MS → Prop) (k2 : MS → Prop), ds[i]? = some d → I i acc M → (∀ e M', I (i + 1) (acc ++ [e]) M' → k1 e M') → (∀ M', I (i + 1) acc M' → k2 M') →
      g d δ M fun δ1 M1 => zt δ1 M1 fun b M2 => if b = true then ze δ1 M2 k1 else k2 M2)
    (fin : ∀ acc M, I ds.length acc M → acc.length ≤ ds.length → Q acc M) {M : MS} (h0 : I 0 [] M) : zLcL g zt ze δ Q ds [] M := by
  have go : ∀ (r : List D) (i : Nat) (acc : List D), ds.drop i = r → i ≤ ds.length → acc.length ≤ i → ∀ M, I i acc M → zLcL g zt ze δ Q r acc M := by
    intro r
    induction r with
    | nil =>
      intro i acc e hi ha M h
      have : ds.length ≤ i := List.drop_eq_nil_iff.mp e
      have : i = ds.length := by omega
      subst this
      exact fin acc M h ha
    | cons d r ih =>
      intro i acc e hi ha M h
      have hd : ds[i]? = some d := by
        have := congrArg (fun l : List D => l[0]?) e
        simpa using this
      have hlt : i < ds.length := by
        rcases Nat.lt_or_ge i ds.length with h | h
        · exact h
        · rw [List.getElem?_eq_none h] at hd; cases hd
      have hr : ds.drop (i + 1) = r := by
        have e2 := List.drop_eq_getElem_cons hlt
        rw [e] at e2
        exact (List.cons.inj e2).2.symm
      have s := step i d acc M (fun e M' => acc.length < sizeLine ∧ zLcL g zt ze δ Q r (acc ++ [e]) M') (fun M' => zLcL g zt ze δ Q r acc M') hd h
        (fun e M' h' => ⟨by omega, ih (i + 1) (acc ++ [e]) hr hlt (by rw [List.length_append]; show acc.length + 1 ≤ i + 1; omega) M' h'⟩) (fun M' h' => ih (i + 1) acc hr hlt (by omega) M' h')
      exact s
  exact go ds 0 [] rfl (Nat.zero_le _) (Nat.zero_le _) M h0
/-- a comprehension that maps, nothing changing -/
theorem zlc_map (f : Nat → D → D) {M : MS} (hl : ds.length ≤ sizeLine)
    (step : ∀ i d (k1 : D → MS → Prop) (k2 : MS → Prop), ds[i]? = some d → k1 (f i d) M → g d δ M fun δ1 M1 => zt δ1 M1 fun b M2 => if b = true then ze δ1 M2 k1 else k2 M2)
    (h : Q ((List.range ds.length).map fun i => f i (ds.getD i (.v .non))) M) : zLcL g zt ze δ Q ds [] M := by
  refine zlc (fun i acc M' => M' = M ∧ acc = (List.range i).map fun i => f i (ds.getD i (.v .non))) hl (fun i d acc M' k1 k2 hd hI h1 h2 => ?_) (fun acc M' hI _ => ?_) ⟨rfl, rfl⟩
  · obtain ⟨rfl, rfl⟩ := hI
    refine step i d k1 k2 hd (h1 _ _ ⟨rfl, ?_⟩)
    rw [List.range_succ, List.map_append, List.map_singleton, List.getD_eq_getElem?_getD, hd]
    rfl
  · obtain ⟨rfl, rfl⟩ := hI
    exact h
theorem map_range_getD {α : Type} {f : D → α} : ∀ {ds : List D}, (List.range ds.length).map (fun i => f (ds.getD i (.v .non))) = ds.map f := by
  intro ds
  apply List.ext_getElem?
  intro i
  by_cases h : i < ds.length
  · simp [h, List.getD_eq_getElem?_getD]
  · simp [h]
end
end Zl
namespace Zl
open PySem PySem.Spec PyProof.Rows L2

/-! ### the type's name of deep data -/
def tn : D → String
  | .v .non => "NoneType"
  | .v (.bl _) => "bool"
  | .v (.int _) => "int"
  | .v (.str _) => "str"
  | .tup _ => "tuple"
  | .lst _ => "list"
  | .rd _ => "list"
  | .dct _ => "dict"
  | _ => ""
def nice (d : D) : Bool := tn d != ""
def isT (n m : String) : Bool := n == m || (n == "bool" && m == "int")
def kT (m : String) : Bool := m == "bool" || m == "int" || m == "tuple" || m == "list" || m == "str" || m == "dict"
theorem kT_cases {m : String} (h : kT m = true) : m = "bool" ∨ m = "int" ∨ m = "tuple" ∨ m = "list" ∨ m = "str" ∨ m = "dict" := by
  unfold kT at h
  simp only [Bool.or_eq_true, beq_iff_eq] at h
  rcases h with ((((h | h) | h) | h) | h) | h <;> simp [h]
theorem nice_cases {d : D} (h : nice d = true) : (tn d = "NoneType" ∨ tn d = "bool" ∨ tn d = "int" ∨ tn d = "str" ∨ tn d = "tuple" ∨ tn d = "list" ∨ tn d = "dict") ∧ ∀ M, tnm M d = some (tn d) := by
  unfold nice tn at h
  unfold tn tnm
  split at h <;> simp_all
theorem kit_tt {K : PySem.W.Frag} {n m : String} (hn : n = "NoneType" ∨ n = "bool" ∨ n = "int" ∨ n = "str" ∨ n = "tuple" ∨ n = "list" ∨ n = "dict") (hm : m = "bool" ∨ m = "int" ∨ m = "tuple" ∨ m = "list" ∨ m = "str" ∨ m = "dict") :
    PySem.W.kitOne K (.type n) (.type m) = some (isT n m) := by
  rcases hn with rfl | rfl | rfl | rfl | rfl | rfl | rfl <;> rcases hm with rfl | rfl | rfl | rfl | rfl | rfl <;> kernel_rfl
theorem tyD_nice {K : PySem.W.Frag} {M : MS} {d : D} {t : Value} (h : nice d = true) : tyD K M d t ↔ t = .type (tn d) := by
  obtain ⟨hc, hm⟩ := nice_cases h
  unfold tyD
  constructor
  · rintro (⟨n, e, rfl⟩ | ⟨C, rfl, ic, ⟨fs, rfl⟩ | ⟨a, dx, fs, rfl, e⟩⟩)
    · rw [hm M] at e
      cases e
      rfl
    · cases h
    · cases h
  · rintro rfl
    exact .inl ⟨_, hm M, rfl⟩
section
variable {K : PySem.W.Frag} {M : MS} {Q : ZQ} {d : D}
theorem e_isi (h : nice d = true) {m : String} (hm : kT m = true) : zIsi K [d, .v (.ty m)] M Q = Q (.v (.bl (isT (tn d) m))) M := by
  unfold zIsi
  simp only [tyD_nice h, clD]
  refine propext ⟨?_, fun q => ⟨_, _, _, rfl, rfl, kit_tt (nice_cases h).1 (kT_cases hm), q⟩⟩
  rintro ⟨t, u, b, rfl, e, e2, q⟩
  cases e
  rw [kit_tt (nice_cases h).1 (kT_cases hm)] at e2
  cases e2
  exact q
theorem e_isi2 (h : nice d = true) {m n : String} (hm : kT m = true) (hn : kT n = true) : zIsi K [d, .tup [.v (.ty m), .v (.ty n)]] M Q = Q (.v (.bl (isT (tn d) m || isT (tn d) n))) M := by
  unfold zIsi
  simp only [tyD_nice h]
  have e1 : clDs [D.v (V.ty m), D.v (V.ty n)] = some [.type m, .type n] := rfl
  have e2 : PySem.W.kitAny K (.type (tn d)) [.type m, .type n] = some (isT (tn d) m || isT (tn d) n) := by
    unfold PySem.W.kitAny
    rw [kit_tt (nice_cases h).1 (kT_cases hm)]
    cases isT (tn d) m
    · show PySem.W.kitAny K (.type (tn d)) [.type n] = _
      unfold PySem.W.kitAny
      rw [kit_tt (nice_cases h).1 (kT_cases hn)]
      cases isT (tn d) n <;> rfl
    · rfl
  refine propext ⟨?_, fun q => ⟨_, _, _, rfl, e1, e2, q⟩⟩
  rintro ⟨t, u, b, rfl, e, e3, q⟩
  rw [e1] at e
  cases e
  rw [e2] at e3
  cases e3
  exact q
theorem clD_ref {C : Addr} : clD (.v (.ref C)) = some (.ref C) := rfl
/-- isinstance of nice data and an own class -/
theorem e_isiC (h : nice d = true) {C : Addr} (hk : ∀ n, n = "NoneType" ∨ n = "bool" ∨ n = "int" ∨ n = "str" ∨ n = "tuple" ∨ n = "list" ∨ n = "dict" → PySem.W.kitOne K (.type n) (.ref C) = some false) :
    zIsi K [d, .v (.ref C)] M Q = Q (.v (.bl false)) M := by
  unfold zIsi
  simp only [tyD_nice h, clD]
  refine propext ⟨?_, fun q => ⟨_, _, _, rfl, rfl, hk _ (nice_cases h).1, q⟩⟩
  rintro ⟨t, u, b, rfl, e, e2, q⟩
  cases e
  rw [hk _ (nice_cases h).1] at e2
  cases e2
  exact q
theorem e_isiI {C C' : Addr} {fs : List (Str × D)} {b : Bool} (ic : InsC K C) (hk : PySem.W.kitOne K (.ref C) (.ref C') = some b) : zIsi K [.ins C fs, .v (.ref C')] M Q = Q (.v (.bl b)) M := by
  unfold zIsi
  simp only [clD]
  refine propext ⟨?_, fun q => ⟨_, _, _, .inr ⟨C, rfl, ic, .inl ⟨fs, rfl⟩⟩, rfl, hk, q⟩⟩
  rintro ⟨t, u, b', ht, e, e2, q⟩
  cases e
  unfold tyD at ht
  rcases ht with ⟨n, e, rfl⟩ | ⟨C2, rfl, _, ⟨fs, e⟩ | ⟨a, dx, fs, e, _⟩⟩
  · cases e
  · cases e
    rw [hk] at e2
    cases e2
    exact q
  · cases e
end

/-! ### plain data without flags: == is equality -/
mutual
def nb : D → Bool
  | .v .non => true
  | .v (.int _) => true
  | .v (.str x) => PyData.strOk x
  | .tup ds => nbs ds
  | .lst ds => nbs ds
  | _ => false
def nbs : List D → Bool
  | [] => true
  | d :: ds => nb d && nbs ds
end
mutual
def dpD : D → Nat
  | .tup ds => dpDs ds + 1
  | .lst ds => dpDs ds + 1
  | _ => 0
def dpDs : List D → Nat
  | [] => 0
  | d :: ds => max (dpD d) (dpDs ds)
end
mutual
theorem nb_pl : ∀ {d : D}, nb d = true → plD d = true ∧ (toPy d).canLay0 = true ∧ (toPy d).depth = dpD d
  | .v .non, _ => ⟨rfl, rfl, rfl⟩
  | .v (.int _), _ => ⟨rfl, rfl, rfl⟩
  | .v (.str x), h => ⟨h, h, rfl⟩
  | .tup ds, h => by
    obtain ⟨h1, h2, h3⟩ := nbs_pl (ds := ds) h
    exact ⟨h1, h2, by show PyData.depthAll (toPys ds) + 1 = dpDs ds + 1; rw [h3]⟩
  | .lst ds, h => by
    obtain ⟨h1, h2, h3⟩ := nbs_pl (ds := ds) h
    exact ⟨h1, h2, by show PyData.depthAll (toPys ds) + 1 = dpDs ds + 1; rw [h3]⟩
theorem nbs_pl : ∀ {ds : List D}, nbs ds = true → plDs ds = true ∧ PyData.canLayAll0 (toPys ds) = true ∧ PyData.depthAll (toPys ds) = dpDs ds
  | [], _ => ⟨rfl, rfl, rfl⟩
  | d :: ds, h => by
    have h' := Bool.and_eq_true_iff.mp h
    obtain ⟨a1, a2, a3⟩ := nb_pl h'.1
    obtain ⟨b1, b2, b3⟩ := nbs_pl h'.2
    refine ⟨by show (plD d && plDs ds) = true; rw [a1, b1]; rfl, by show (PyData.canLay0 (toPy d) && PyData.canLayAll0 (toPys ds)) = true; rw [a2, b2]; rfl, ?_⟩
    show max (PyData.depth (toPy d)) (PyData.depthAll (toPys ds)) = max (dpD d) (dpDs ds)
    rw [a3, b3]
end
theorem nb_ok {d : D} (h : nb d = true) (hd : dpD d ≤ 64) : okD d := by
  obtain ⟨h1, h2, h3⟩ := nb_pl h
  refine ⟨h1, ?_⟩
  show (PyData.canLay0 (toPy d) && decide ((toPy d).depth ≤ 64)) = true
  rw [h2, h3, decide_eq_true hd]
  rfl
mutual
theorem eqD_iff : ∀ {d e : D}, nb d = true → nb e = true → (eqD d e = true ↔ d = e)
  | .v .non, .v .non, _, _ => ⟨fun _ => rfl, fun _ => rfl⟩
  | .v .non, .v (.int _), _, _ => ⟨(fun h => nomatch h), (fun h => nomatch h)⟩
  | .v .non, .v (.str _), _, _ => ⟨(fun h => nomatch h), (fun h => nomatch h)⟩
  | .v .non, .tup _, _, _ => ⟨(fun h => nomatch h), (fun h => nomatch h)⟩
  | .v .non, .lst _, _, _ => ⟨(fun h => nomatch h), (fun h => nomatch h)⟩
  | .v (.int i), .v .non, _, _ => ⟨(fun h => nomatch h), (fun h => nomatch h)⟩
  | .v (.int i), .v (.int j), _, _ => by
    show (i == j) = true ↔ _
    simp
  | .v (.int i), .v (.str _), _, _ => ⟨(fun h => nomatch h), (fun h => nomatch h)⟩
  | .v (.int i), .tup _, _, _ => ⟨(fun h => nomatch h), (fun h => nomatch h)⟩
  | .v (.int i), .lst _, _, _ => ⟨(fun h => nomatch h), (fun h => nomatch h)⟩
  | .v (.str x), .v .non, _, _ => ⟨(fun h => nomatch h), (fun h => nomatch h)⟩
  | .v (.str x), .v (.int _), _, _ => ⟨(fun h => nomatch h), (fun h => nomatch h)⟩
  | .v (.str x), .v (.str y), _, _ => by
    show (x == y) = true ↔ _
    simp
  | .v (.str x), .tup _, _, _ => ⟨(fun h => nomatch h), (fun h => nomatch h)⟩
  | .v (.str x), .lst _, _, _ => ⟨(fun h => nomatch h), (fun h => nomatch h)⟩
  | .tup ds, .v .non, _, _ => ⟨(fun h => nomatch h), (fun h => nomatch h)⟩
  | .tup ds, .v (.int _), _, _ => ⟨(fun h => nomatch h), (fun h => nomatch h)⟩
  | .tup ds, .v (.str _), _, _ => ⟨(fun h => nomatch h), (fun h => nomatch h)⟩
  | .tup ds, .lst _, _, _ => ⟨(fun h => nomatch h), (fun h => nomatch h)⟩
  | .tup ds, .tup es, h1, h2 => by
    show PyData.eqvAll (toPys ds) (toPys es) = true ↔ _
    rw [eqDs_iff h1 h2]
    exact ⟨fun h => by rw [h], fun h => by cases h; rfl⟩
  | .lst ds, .v .non, _, _ => ⟨(fun h => nomatch h), (fun h => nomatch h)⟩
  | .lst ds, .v (.int _), _, _ => ⟨(fun h => nomatch h), (fun h => nomatch h)⟩
  | .lst ds, .v (.str _), _, _ => ⟨(fun h => nomatch h), (fun h => nomatch h)⟩
  | .lst ds, .tup _, _, _ => ⟨(fun h => nomatch h), (fun h => nomatch h)⟩
  | .lst ds, .lst es, h1, h2 => by
    show PyData.eqvAll (toPys ds) (toPys es) = true ↔ _
    rw [eqDs_iff h1 h2]
    exact ⟨fun h => by rw [h], fun h => by cases h; rfl⟩
theorem eqDs_iff : ∀ {ds es : List D}, nbs ds = true → nbs es = true → (PyData.eqvAll (toPys ds) (toPys es) = true ↔ ds = es)
  | [], [], _, _ => ⟨fun _ => rfl, fun _ => rfl⟩
  | [], _ :: _, _, _ => ⟨(fun h => nomatch h), (fun h => nomatch h)⟩
  | _ :: _, [], _, _ => ⟨(fun h => nomatch h), (fun h => nomatch h)⟩
  | d :: ds, e :: es, h1, h2 => by
    have a := Bool.and_eq_true_iff.mp h1
    have b := Bool.and_eq_true_iff.mp h2
    show (PyData.eqv (toPy d) (toPy e) && PyData.eqvAll (toPys ds) (toPys es)) = true ↔ _
    rw [Bool.and_eq_true_iff, eqDs_iff a.2 b.2]
    have := eqD_iff a.1 b.1
    unfold eqD at this
    rw [this]
    exact ⟨fun h => by rw [h.1, h.2], fun h => by cases h; exact ⟨rfl, rfl⟩⟩
end
theorem nbs_all {ds : List D} : nbs ds = ds.all nb := by
  induction ds with
  | nil => rfl
  | cons d ds ih => rw [List.all_cons, ← ih]; rfl
theorem dpDs_le {ds : List D} {n : Nat} (h : ∀ d ∈ ds, dpD d ≤ n) : dpDs ds ≤ n := by
  induction ds with
  | nil => exact Nat.zero_le _
  | cons d ds ih =>
    show max (dpD d) (dpDs ds) ≤ n
    have h1 := h d List.mem_cons_self
    have h2 := ih fun e he => h e (List.mem_cons_of_mem _ he)
    omega
/-- a tuple of dInts -/
def dInts (xs : List Int) : List D := xs.map fun i => .v (.int i)
abbrev rowD (xs : List Int) : D := .tup (dInts xs)
abbrev rowsD (xs : List (List Int)) : D := .tup (xs.map rowD)
theorem ints_nb (xs : List Int) : nbs (dInts xs) = true := by
  induction xs with
  | nil => rfl
  | cons x xs ih => exact ih
theorem ints_dp (xs : List Int) : dpDs (dInts xs) = 0 := by
  induction xs with
  | nil => rfl
  | cons x xs ih => show max 0 (dpDs (dInts xs)) = 0; rw [ih]; rfl
theorem rows_nb (xs : List (List Int)) : nbs (xs.map rowD) = true := by
  induction xs with
  | nil => rfl
  | cons x xs ih => show (nbs (dInts x) && nbs (xs.map rowD)) = true; rw [ints_nb, ih]; rfl
theorem rows_dp (xs : List (List Int)) : dpDs (xs.map rowD) ≤ 1 := dpDs_le fun d hd => by
  obtain ⟨x, _, rfl⟩ := List.mem_map.mp hd
  show dpDs (dInts x) + 1 ≤ 1
  rw [ints_dp]
  exact Nat.le_refl _
theorem ints_inj {xs ys : List Int} (h : dInts xs = dInts ys) : xs = ys := by
  induction xs generalizing ys with
  | nil => cases ys with
    | nil => rfl
    | cons y ys => cases h
  | cons x xs ih => cases ys with
    | nil => cases h
    | cons y ys =>
      have h' := List.cons.inj h
      rw [ih h'.2]
      cases h'.1
      rfl
theorem ints_len (xs : List Int) : (dInts xs).length = xs.length := List.length_map ..
theorem ints_get (xs : List Int) (i : Nat) : (dInts xs)[i]? = (xs[i]?).map fun i => D.v (.int i) := List.getElem?_map ..
theorem ints_nice {xs : List Int} {d : D} (h : d ∈ dInts xs) : ∃ i, i ∈ xs ∧ d = .v (.int i) := by
  obtain ⟨i, hi, rfl⟩ := List.mem_map.mp h
  exact ⟨i, hi, rfl⟩
section
variable {M : MS} {Q : ZQ} {d e : D}
theorem e_eqN (h1 : nb d = true) (h2 : nb e = true) (hd : dpD d ≤ 64) (he : dpD e ≤ 64) : zEq d e M Q ↔ Q (.v (.bl (eqD d e))) M := by
  unfold zEq
  exact ⟨fun h => h.2.2, fun h => ⟨nb_ok h1 hd, nb_ok h2 he, h⟩⟩
theorem e_eqS (h1 : nb d = true) (hd : dpD d ≤ 64) : zEq d d M Q ↔ Q (.v (.bl true)) M := by
  rw [e_eqN h1 h1 hd hd, (eqD_iff h1 h1).mpr rfl]
theorem e_eqF (h1 : nb d = true) (h2 : nb e = true) (hd : dpD d ≤ 64) (he : dpD e ≤ 64) (ne : d ≠ e) : zEq d e M Q ↔ Q (.v (.bl false)) M := by
  rw [e_eqN h1 h2 hd he]
  have : eqD d e = false := by
    cases hh : eqD d e with
    | false => rfl
    | true => exact absurd ((eqD_iff h1 h2).mp hh) ne
  rw [this]
end
/-! ### sides -/
theorem cmul_r {i j : Int} (h1 : -18446744073709551616 < j) (h2 : j < 18446744073709551616) : (CMul i j ∨ CMulW i j) = True := eq_true (Or.inl (Or.inr ⟨h1, h2⟩))
theorem cmul_l {i j : Int} (h1 : -18446744073709551616 < i) (h2 : i < 18446744073709551616) : (CMul i j ∨ CMulW i j) = True := eq_true (Or.inl (Or.inl ⟨h1, h2⟩))
theorem cmul_mod {x j m : Int} (h1 : 0 < m) (h2 : m < 18446744073709551616) : (CMul (x % m) j ∨ CMulW (x % m) j) = True :=
  eq_true (Or.inl (Or.inl ⟨by have := Int.emod_nonneg x (by omega : m ≠ 0); omega, by have := Int.emod_lt_of_pos x h1; omega⟩))
theorem cdw2 {i j : Int} (h1 : 0 < j) (h2 : j.natAbs.log2 < 9000) : CDivW i j = True := eq_true ⟨h1, h2⟩
theorem log2_small {n : Nat} (h : n < 2 ^ 62) : n.log2 < 9000 := by
  by_cases h0 : n = 0
  · subst h0
    exact (by decide : (0 : Nat) < 9000)
  · have := (Nat.log2_lt h0).mpr h
    omega
theorem cdw {i j : Int} (h1 : 0 < j) (h2 : j < 4611686018427387904) : CDivW i j = True := eq_true ⟨h1, log2_small (by omega)⟩
theorem kT_bool : kT "bool" = true := rfl
theorem kT_int : kT "int" = true := rfl
theorem kT_tuple : kT "tuple" = true := rfl
theorem kT_list : kT "list" = true := rfl
theorem kT_str : kT "str" = true := rfl
theorem kT_dict : kT "dict" = true := rfl
section
variable {i : Int} {b : Bool} {x : Str} {ds : List D} {ks : List (Key × D)}
theorem nice_non : nice (.v .non) = true := id (Eq.refl true)
theorem nice_bl : nice (.v (.bl b)) = true := id (Eq.refl true)
theorem nice_int : nice (.v (.int i)) = true := id (Eq.refl true)
theorem nice_str : nice (.v (.str x)) = true := id (Eq.refl true)
theorem nice_tup : nice (.tup ds) = true := id (Eq.refl true)
theorem nice_lst : nice (.lst ds) = true := id (Eq.refl true)
theorem nice_rd : nice (.rd ds) = true := id (Eq.refl true)
theorem nice_dct : nice (.dct ks) = true := id (Eq.refl true)
theorem tn_non : tn (.v .non) = "NoneType" := rfl
theorem tn_bl : tn (.v (.bl b)) = "bool" := rfl
theorem tn_int : tn (.v (.int i)) = "int" := rfl
theorem tn_str : tn (.v (.str x)) = "str" := rfl
theorem tn_tup : tn (.tup ds) = "tuple" := rfl
theorem tn_lst : tn (.lst ds) = "list" := rfl
theorem tn_rd : tn (.rd ds) = "list" := rfl
theorem tn_dct : tn (.dct ks) = "dict" := rfl
end
theorem isT_e {n m : String} {b : Bool} (h : (n == m || (n == "bool" && m == "int")) = b) : isT n m = b := h
theorem cpow18 : CPow 10 18 = True := eq_true ⟨by decide, by decide, by decide⟩
theorem cpow11 : CPow 10 11 = True := eq_true ⟨by decide, by decide, by decide⟩
theorem ten18 : (10 : Int) ^ (18 : Int).toNat = 1000000000000000000 := by decide +kernel
theorem ten11 : (10 : Int) ^ (11 : Int).toNat = 100000000000 := by decide +kernel
/-! ### the hand that draws -/
/-- it stands at h -/
def Hd (M : MS) (h : Addr) : Prop := ∃ (cells : List D) (l : Nat) (dg m n : Int), M h = some (.lst [.lst cells, .v (.int l), .v (.int dg), .v (.int m), .v (.int n)]) ∧ ∀ c ∈ cells, ∃ i : Int, c = .v (.int i)
/-- nothing but the hand at h is another -/
def Hx (h : Addr) (M M' : MS) : Prop := Hd M' h ∧ ∀ a, a ≠ h → M' a = M a
theorem Hx.rf {h : Addr} {M : MS} (k : Hd M h) : Hx h M M := ⟨k, fun _ _ => rfl⟩
theorem Hx.tr {h : Addr} {M M1 M2 : MS} (a : Hx h M M1) (b : Hx h M1 M2) : Hx h M M2 := ⟨b.1, fun x n => (b.2 x n).trans (a.2 x n)⟩
theorem Hd.put {h : Addr} {M : MS} {cells : List D} {l : Nat} {dg m n : Int} (hc : ∀ c ∈ cells, ∃ i : Int, c = .v (.int i)) : Hx h M (mput M h (.lst [.lst cells, .v (.int l), .v (.int dg), .v (.int m), .v (.int n)])) :=
  ⟨⟨cells, l, dg, m, n, mput_same, hc⟩, fun a k => mput_ne k⟩
end Zl
namespace Zl
open PySem PySem.Spec PyProof.Rows L2
/-- no promise yet -/
def zpNo : ZSp := fun _ _ _ _ => False
theorem DefAt.never {P : Program} {w : World} {K : PySem.W.Frag} {mg : Str → Option Value} {base : Heap} {x qual : Str} {st : Stmt} {ps : List Str} (T : FunAt K mg x qual st ps) : DefAt P w K mg base 0 x ps zpNo := by
  obtain ⟨f, fd, F, e, b⟩ := T.ex
  refine ⟨f, fd, ⟨fun vs H Q E ⟨_, _, _, _, _, _, _, _, _, z⟩ => z.elim, ?_⟩, e, F.kp, b⟩
  intros
  rename_i h
  obtain ⟨_, _, _, _, _, _, _, _, _, z⟩ := h
  exact z.elim
def neB (K : PySem.W.Frag) (C : Addr) : Bool := decide (PySem.W.findIn K (.ref C) "__ne__" = some (some (.builtin "object.__ne__"))) && decide (PySem.W.mroIn K C (.type "object") = some true)
theorem neB_ok {K : PySem.W.Frag} {C : Addr} (h : neB K C = true) : NeC K C := by
  unfold neB at h
  simp only [Bool.and_eq_true, decide_eq_true_eq] at h
  exact ⟨h.1, h.2⟩
theorem initB_ok {K : PySem.W.Frag} {C f : Addr} (h : initB K C f = true) : PySem.W.findIn K (.ref C) "__init__" = some (some (.ref f)) ∧ PySem.W.typeIn K (.ref f) = some (.type "function") := by
  unfold initB at h
  simp only [Bool.and_eq_true, decide_eq_true_eq] at h
  exact h

section
variable {K : PySem.W.Frag} {M : MS} {Q : ZQ} {d : D}
theorem e_isi_int (h : nice d = true) : zIsi K [d, .v (.ty "int")] M Q = Q (.v (.bl (isT (tn d) "int"))) M := e_isi h rfl
theorem e_isi_bool (h : nice d = true) : zIsi K [d, .v (.ty "bool")] M Q = Q (.v (.bl (isT (tn d) "bool"))) M := e_isi h rfl
theorem e_isi_tuple (h : nice d = true) : zIsi K [d, .v (.ty "tuple")] M Q = Q (.v (.bl (isT (tn d) "tuple"))) M := e_isi h rfl
theorem e_isi_list (h : nice d = true) : zIsi K [d, .v (.ty "list")] M Q = Q (.v (.bl (isT (tn d) "list"))) M := e_isi h rfl
theorem e_isi_str (h : nice d = true) : zIsi K [d, .v (.ty "str")] M Q = Q (.v (.bl (isT (tn d) "str"))) M := e_isi h rfl
theorem e_isi_dict (h : nice d = true) : zIsi K [d, .v (.ty "dict")] M Q = Q (.v (.bl (isT (tn d) "dict"))) M := e_isi h rfl
theorem e_isi_tl (h : nice d = true) : zIsi K [d, .tup [.v (.ty "tuple"), .v (.ty "list")]] M Q = Q (.v (.bl (isT (tn d) "tuple" || isT (tn d) "list"))) M := e_isi2 h rfl rfl
end
theorem isT_tt : isT "tuple" "tuple" = true := by decide
theorem isT_ll : isT "list" "list" = true := by decide
theorem isT_ii : isT "int" "int" = true := by decide
theorem isT_bb : isT "bool" "bool" = true := by decide
theorem isT_bi : isT "bool" "int" = true := by decide
theorem isT_ss : isT "str" "str" = true := by decide
theorem isT_dd : isT "dict" "dict" = true := by decide
theorem isT_tl : isT "tuple" "list" = false := by decide
theorem isT_lt : isT "list" "tuple" = false := by decide
theorem isT_it : isT "int" "tuple" = false := by decide
theorem isT_il : isT "int" "list" = false := by decide
theorem isT_ib : isT "int" "bool" = false := by decide
theorem isT_nt : isT "NoneType" "tuple" = false := by decide
theorem isT_nl : isT "NoneType" "list" = false := by decide
theorem isT_ni : isT "NoneType" "int" = false := by decide
theorem isT_nb : isT "NoneType" "bool" = false := by decide
theorem isT_st : isT "str" "tuple" = false := by decide
theorem isT_sl : isT "str" "list" = false := by decide
theorem isT_si : isT "str" "int" = false := by decide
theorem isT_sb : isT "str" "bool" = false := by decide
theorem isT_ti : isT "tuple" "int" = false := by decide
theorem isT_tb : isT "tuple" "bool" = false := by decide
theorem isT_li : isT "list" "int" = false := by decide
theorem isT_lb : isT "list" "bool" = false := by decide
theorem isT_di : isT "dict" "int" = false := by decide
theorem isT_db : isT "dict" "bool" = false := by decide
theorem isT_dt : isT "dict" "tuple" = false := by decide
theorem isT_dl : isT "dict" "list" = false := by decide
theorem isT_bt : isT "bool" "tuple" = false := by decide
theorem isT_bl : isT "bool" "list" = false := by decide
/-! ### ints within -/
def isI (d : D) : Bool := tn d == "int"
def isW (lo hi : Int) : D → Bool
  | .v (.int i) => decide (lo ≤ i) && decide (i ≤ hi)
  | _ => false
theorem isI_cases (d : D) : (∃ i, d = .v (.int i)) ∨ (isI d = false ∧ ∀ lo hi, isW lo hi d = false) := by
  cases d with
  | v x => cases x <;> first | exact .inl ⟨_, rfl⟩ | exact .inr ⟨rfl, fun _ _ => rfl⟩
  | _ => exact .inr ⟨rfl, fun _ _ => rfl⟩
theorem isW_int {lo hi : Int} {d : D} (h : isW lo hi d = true) : ∃ i, d = .v (.int i) ∧ lo ≤ i ∧ i ≤ hi := by
  rcases isI_cases d with ⟨i, rfl⟩ | ⟨_, q⟩
  · unfold isW at h
    simp only [Bool.and_eq_true, decide_eq_true_eq] at h
    exact ⟨i, rfl, h⟩
  · rw [q] at h
    cases h
section
variable {M : MS} {Q : ZQ}
theorem isI_t {d : D} (h : nice d = true) : (isT (tn d) "int" && !isT (tn d) "bool") = isI d := by
  unfold isI
  rcases (nice_cases h).1 with e | e | e | e | e | e | e <;> rw [e] <;> rfl
theorem e_allM {α : Type} {p : α → Bool} {ds : List α} : zAll [.lst (ds.map fun d => .v (.bl (p d)))] M Q = Q (.v (.bl (ds.all p))) M := by
  have e : ∀ ds : List α, blsOf (ds.map fun d => D.v (.bl (p d))) = some (ds.map p) := by
    intro ds
    induction ds with
    | nil => rfl
    | cons d ds ih => show (blsOf (ds.map _)).map (p d :: ·) = _; rw [ih]; rfl
  show (∃ es bs, lsOf M (.lst _) = some es ∧ blsOf es = some bs ∧ Q (.v (.bl (bs.all id))) M) = _
  refine propext ⟨?_, fun q => ⟨_, _, rfl, e ds, ?_⟩⟩
  · rintro ⟨es, bs, e1, e2, q⟩
    cases e1
    rw [e] at e2
    cases e2
    rw [List.all_map] at q
    exact q
  · rw [List.all_map]
    exact q
theorem e_anyM {α : Type} {p : α → Bool} {ds : List α} : zAny [.lst (ds.map fun d => .v (.bl (p d)))] M Q = Q (.v (.bl (ds.any p))) M := by
  have e : ∀ ds : List α, blsOf (ds.map fun d => D.v (.bl (p d))) = some (ds.map p) := by
    intro ds
    induction ds with
    | nil => rfl
    | cons d ds ih => show (blsOf (ds.map _)).map (p d :: ·) = _; rw [ih]; rfl
  show (∃ es bs, lsOf M (.lst _) = some es ∧ blsOf es = some bs ∧ Q (.v (.bl (bs.any id))) M) = _
  refine propext ⟨?_, fun q => ⟨_, _, rfl, e ds, ?_⟩⟩
  · rintro ⟨es, bs, e1, e2, q⟩
    cases e1
    rw [e] at e2
    cases e2
    rw [List.any_map] at q
    exact q
  · rw [List.any_map]
    exact q
theorem e_neB {a b : Bool} : zNe (.v (.bl a)) (.v (.bl b)) M Q = Q (.v (.bl (!(a == b)))) M := by
  have sh : ∀ n : Bool, SeqAt.shaped (PyData.bool n) = true := fun n => rfl
  have e : eqD (.v (.bl a)) (.v (.bl b)) = (a == b) := rfl
  unfold zNe okD
  rw [e]
  simp [plD, toPy, sh]
theorem e_eqB {a b : Bool} : zEq (.v (.bl a)) (.v (.bl b)) M Q = Q (.v (.bl (a == b))) M := by
  have sh : ∀ n : Bool, SeqAt.shaped (PyData.bool n) = true := fun n => rfl
  have e : eqD (.v (.bl a)) (.v (.bl b)) = (a == b) := rfl
  unfold zEq okD
  rw [e]
  simp [plD, toPy, sh]
theorem zlc_map1 {g : ZG} {zt : ZT} {ze : ZE} {δ : ZSt} {Q : List D → MS → Prop} {ds : List D} (f : D → D) {M : MS} (hl : ds.length ≤ sizeLine)
    (step : ∀ d (k1 : D → MS → Prop) (k2 : MS → Prop), d ∈ ds → k1 (f d) M → g d δ M fun δ1 M1 => zt δ1 M1 fun b M2 => if b = true then ze δ1 M2 k1 else k2 M2)
    (h : Q (ds.map f) M) : zLcL g zt ze δ Q ds [] M := by
  refine zlc_map (fun _ => f) hl (fun i d k1 k2 hd hk => step d k1 k2 (List.mem_of_getElem? hd) hk) ?_
  rw [map_range_getD]
  exact h
end
theorem enumD_get {ds : List D} {i : Nat} {d : D} (h : (enumD ds)[i]? = some d) : ∃ e, ds[i]? = some e ∧ d = .tup [.v (.int (i : Nat)), e] := by
  unfold enumD at h
  rw [List.getElem?_map] at h
  by_cases hi : i < ds.length
  · rw [List.getElem?_range hi] at h
    cases h
    refine ⟨ds[i], List.getElem?_eq_getElem hi, ?_⟩
    show D.tup [.v (.int (i : Nat)), ds.getD i (.v .non)] = _
    rw [List.getD_eq_getElem?_getD, List.getElem?_eq_getElem hi]
    rfl
  · rw [List.getElem?_eq_none (by simpa using hi)] at h
    cases h
theorem enumD_len {ds : List D} : (enumD ds).length = ds.length := by
  unfold enumD
  rw [List.length_map, List.length_range]
/-- the first place at which p is not so -/
def firstBad {α : Type} (p : Nat → α → Bool) : List α → Nat → Option Nat
  | [], _ => none
  | d :: r, i => if p i d = true then firstBad p r (i + 1) else some i
theorem firstBad_step {α : Type} {p : Nat → α → Bool} {ds : List α} {i : Nat} {d : α} (h : ds[i]? = some d) (e : firstBad p ds 0 = firstBad p (ds.drop i) i) :
    (p i d = true → firstBad p ds 0 = firstBad p (ds.drop (i + 1)) (i + 1)) ∧ (p i d = false → firstBad p ds 0 = some i) := by
  have hlt : i < ds.length := by
    rcases Nat.lt_or_ge i ds.length with h' | h'
    · exact h'
    · rw [List.getElem?_eq_none h'] at h; cases h
  have e2 := List.drop_eq_getElem_cons hlt
  have e3 : ds[i] = d := by
    rw [List.getElem?_eq_getElem hlt] at h
    exact Option.some.inj h
  rw [e3] at e2
  rw [e2, show firstBad p (d :: ds.drop (i + 1)) i = if p i d = true then firstBad p (ds.drop (i + 1)) (i + 1) else some i from rfl] at e
  refine ⟨fun q => ?_, fun q => ?_⟩
  · rw [if_pos q] at e
    exact e
  · rw [if_neg (by rw [q]; decide)] at e
    exact e
theorem firstBad_end {α : Type} {p : Nat → α → Bool} {ds : List α} (e : firstBad p ds 0 = firstBad p (ds.drop ds.length) ds.length) : firstBad p ds 0 = none := by
  rw [e, List.drop_length]
  rfl
/-- plain data, not deep -/
inductive Pl : Nat → D → Prop
  | non {n : Nat} : Pl n (.v .non)
  | int {n : Nat} {i : Int} : Pl n (.v (.int i))
  | str {n : Nat} {x : Str} (h : PyData.strOk x = true) : Pl n (.v (.str x))
  | tup {n : Nat} {ds : List D} (hl : ds.length ≤ 16777216) (h : ∀ d ∈ ds, Pl n d) : Pl (n + 1) (.tup ds)
  | lst {n : Nat} {ds : List D} (hl : ds.length ≤ 16777216) (h : ∀ d ∈ ds, Pl n d) : Pl (n + 1) (.lst ds)
theorem Pl.mono {n m : Nat} {d : D} (h : Pl n d) (l : n ≤ m) : Pl m d := by
  induction h generalizing m with
  | non => exact .non
  | int => exact .int
  | str h => exact .str h
  | tup hl h ih =>
    cases m with
    | zero => omega
    | succ m => exact .tup hl fun d hd => ih d hd (by omega)
  | lst hl h ih =>
    cases m with
    | zero => omega
    | succ m => exact .lst hl fun d hd => ih d hd (by omega)
theorem Pl.nb {n : Nat} {d : D} (h : Pl n d) : Zl.nb d = true ∧ dpD d ≤ n ∧ nice d = true := by
  induction h with
  | non => exact ⟨rfl, Nat.zero_le _, rfl⟩
  | int => exact ⟨rfl, Nat.zero_le _, rfl⟩
  | str h => exact ⟨h, Nat.zero_le _, rfl⟩
  | @tup n ds hl h ih => exact ⟨by show nbs ds = true; rw [nbs_all, List.all_eq_true]; exact fun d hd => (ih d hd).1, Nat.succ_le_succ (dpDs_le fun d hd => (ih d hd).2.1), rfl⟩
  | @lst n ds hl h ih => exact ⟨by show nbs ds = true; rw [nbs_all, List.all_eq_true]; exact fun d hd => (ih d hd).1, Nat.succ_le_succ (dpDs_le fun d hd => (ih d hd).2.1), rfl⟩
theorem pl_row {n : Nat} {xs : List Int} (h : xs.length ≤ 16777216) : Pl (n + 1) (rowD xs) := .tup (by rw [ints_len]; exact h) fun d hd => by
  obtain ⟨i, _, rfl⟩ := ints_nice hd
  exact .int
theorem pl_rows {n : Nat} {xs : List (List Int)} (h : xs.length ≤ 16777216) (h2 : ∀ r ∈ xs, r.length ≤ 16777216) : Pl (n + 2) (rowsD xs) := .tup (by rw [List.length_map]; exact h) fun d hd => by
  obtain ⟨r, hr, rfl⟩ := List.mem_map.mp hd
  exact pl_row (h2 r hr)
theorem mdel_mput {M : MS} {p : Addr} {m : MO} (h : M p = none) : mdel (mput M p m) p = M := by
  funext b
  show (if b = p then none else if b = p then some m else M b) = M b
  by_cases q : b = p
  · rw [if_pos q, q, h]
  · rw [if_neg q, if_neg q]
theorem Hx.at {h : Addr} {M M' : MS} {a : Addr} {m : Option MO} (k : Hx h M M') (n : a ≠ h) (e : M a = m) : M' a = m := (k.2 a n).trans e
end Zl
namespace Zl
open PySem PySem.Spec PyProof.Rows L2
theorem isNon_e0 : isNon (.v .non) = true := rfl
theorem isNon_e1 {i : Int} : isNon (.v (.int i)) = false := rfl
theorem isNon_e2 {ds : List D} : isNon (.tup ds) = false := rfl
theorem isNon_e3 {C : Addr} {fs : List (Str × D)} : isNon (.ins C fs) = false := rfl
theorem cut_mem {α : Type} {xs : List α} {lo hi : Option Int} {x : α} (h : x ∈ Zl.cutD xs lo hi) : x ∈ xs := List.mem_of_mem_drop (List.mem_of_mem_take h)
theorem cut_len {α : Type} {xs : List α} {lo hi : Option Int} : (Zl.cutD xs lo hi).length ≤ xs.length := by
  unfold Zl.cutD
  rw [List.length_take, List.length_drop]
  omega
theorem flat_len {α : Type} {n : Nat} {xs : List α} : (List.replicate n xs).flatten.length = n * xs.length := by
  induction n with
  | zero => simp
  | succ n ih => rw [List.replicate_succ, List.flatten_cons, List.length_append, ih, Nat.succ_mul, Nat.add_comm]
theorem flat_mem {α : Type} {n : Nat} {xs : List α} {x : α} (h : x ∈ (List.replicate n xs).flatten) : x ∈ xs := by
  obtain ⟨l, h1, h2⟩ := List.mem_flatten.mp h
  rw [(List.mem_replicate.mp h1).2] at h2
  exact h2
theorem rg_nice {a b : Int} {d : D} (h : d ∈ rgD a b) : ∃ i, d = .v (.int i) := by
  obtain ⟨i, _, rfl⟩ := List.mem_map.mp h
  exact ⟨_, rfl⟩
theorem rg_len {a b : Int} : (rgD a b).length = (b - a).toNat := by
  unfold rgD
  rw [List.length_map, List.length_range]
/-! ### the readings, one step each, told outermost first -/
section
variable {δ : ZSt} {M : MS} {Q : ZQ} {D : ZEnds} {z w z1 z2 z3 : ZE} {c c2 : ZT} {za zr : ZA} {s s2 : ZS} {g : ZG} {QT : Bool → MS → Prop} {QA : List Zl.D → MS → Prop} {QS : ZSt → MS → Prop} {QO : Option Int → MS → Prop}
theorem u_ret : zRet z D δ M = z δ M D.rt := rfl
theorem u_retN : zRetN D δ M = D.rt (.v .non) M := rfl
theorem u_seq : zSeq s s2 D δ M = s { D with nx := s2 D } δ M := rfl
theorem u_asg : zAsg z g D δ M = z δ M fun d M1 => g d δ M1 D.nx := rfl
theorem u_ifs : zIfS c s s2 D δ M = c δ M fun b M1 => if b = true then s D δ M1 else s2 D δ M1 := rfl
theorem u_drop : zDrop z D δ M = z δ M fun _ M1 => D.nx δ M1 := rfl
theorem u_next : zNext D δ M = D.nx δ M := rfl
theorem u_break : zBreak D δ M = D.bk δ M := rfl
theorem u_cont : zCont D δ M = D.ct δ M := rfl
theorem u_never : zNever D δ M = False := rfl
theorem u_c {d : Zl.D} : zC d δ M Q = Q d M := rfl
theorem u_op {r : ZR2} : zOp r z w δ M Q = z δ M fun d M1 => w δ M1 fun e M2 => r d e M2 Q := rfl
theorem u_un {r : ZR1} : zUn r z δ M Q = z δ M fun d M1 => r d M1 Q := rfl
theorem u_nil : zNil δ M QA = QA [] M := rfl
theorem u_cons : zCons z zr δ M QA = z δ M fun d M1 => zr δ M1 fun ds M2 => QA (d :: ds) M2 := rfl
theorem u_tup : zTup za δ M Q = za δ M fun ds M1 => ds.length ≤ sizeLine ∧ Q (.tup ds) M1 := rfl
theorem u_lst : zLst za δ M Q = za δ M fun ds M1 => ds.length ≤ sizeLine ∧ Q (.lst ds) M1 := rfl
theorem u_lstM : zLstM za δ M Q = za δ M fun ds M1 => ds.length ≤ sizeLine ∧ ∀ p, M1 p = none → Q (.v (.ref p)) (mput M1 p (.lst ds)) := rfl
theorem u_cb {r : ZRA} : zCB r za δ M Q = za δ M fun ds M1 => r ds M1 Q := rfl
theorem u_and : zAnd c c2 δ M QT = c δ M fun b M1 => if b = true then c2 δ M1 QT else QT false M1 := rfl
theorem u_or : zOr c c2 δ M QT = c δ M fun b M1 => if b = true then QT true M1 else c2 δ M1 QT := rfl
theorem u_not : zNot c δ M QT = c δ M fun b M1 => QT (!b) M1 := rfl
theorem u_yes : zYes δ M QT = QT true M := rfl
theorem u_if : zIf c z w δ M Q = c δ M fun b M1 => if b = true then z δ M1 Q else w δ M1 Q := rfl
theorem u_call {zp : ZSp} {Wz : ZW} : zCall zp Wz za δ M Q = za δ M fun ds M1 => zp ds M1 Q fun C fs M2 => Wz C fs δ M2 := rfl
theorem u_make {zp : ZSp} {Wz : ZW} : zMake zp Wz za δ M Q = za δ M fun ds M1 => zp ds M1 Q fun C fs M2 => Wz C fs δ M2 := rfl
theorem u_aug {i : Nat} {r : ZR2} : zAug i z r D δ M = zVar i δ M fun d _ => z δ M fun e M1 => r d e M1 fun f M2 => zgName i f δ M2 D.nx := by
  unfold zAug zVar
  rfl
theorem u_par {i j : Nat} : zPar i j (zCons z (zCons w zNil)) D δ M = z δ M fun d M1 => w δ M1 fun e M2 => zgName i d δ M2 fun δ1 M3 => zgName j e δ1 M3 D.nx := rfl
theorem u_par3 {i j k : Nat} : zPar3 i j k (zCons z (zCons w (zCons z1 zNil))) D δ M = z δ M fun d M1 => w δ M1 fun e M2 => z1 δ M2 fun f M3 => zgName i d δ M3 fun δ1 M4 => zgName j e δ1 M4 fun δ2 M5 => zgName k f δ2 M5 D.nx := rfl
theorem u_tupRg1 : zTupRg1 z δ M Q = z δ M fun d M1 => match d with | .v (.int j) => RgOk 0 j ∧ Q (.tup (rgD 0 j)) M1 | _ => False := rfl
theorem u_lstRg1 : zLstRg1 z δ M Q = z δ M fun d M1 => match d with | .v (.int j) => RgOk 0 j ∧ Q (.lst (rgD 0 j)) M1 | _ => False := rfl
theorem u_lstRg1M : zLstRg1M z δ M Q = z δ M fun d M1 => match d with | .v (.int j) => RgOk 0 j ∧ ∀ p, M1 p = none → Q (.v (.ref p)) (mput M1 p (.lst (rgD 0 j))) | _ => False := rfl
theorem u_tupRg2 : zTupRg2 z w δ M Q = z δ M fun d M1 => w δ M1 fun e M2 => match d, e with | .v (.int i), .v (.int j) => RgOk i j ∧ Q (.tup (rgD i j)) M2 | _, _ => False := rfl
theorem u_gsub {t : ZSet} {d : Zl.D} : zgSub z w t d δ M QS = z δ M fun o M1 => w δ M1 fun i M2 => t o i d M2 fun M3 => QS δ M3 := rfl
theorem u_for {zi : ZI} : zFor zi g s D δ M = zi δ M fun ds M1 => zLoop g s D ds δ M1 := rfl
theorem u_lc {zi : ZI} {vs : List Nat} : zLc zi g c z vs δ M Q = zi δ M fun ds M1 => zLcL g c z (zwipe δ vs) (fun es M2 => Q (.lst es) M2) ds [] M1 := rfl
theorem u_lcM {zi : ZI} {vs : List Nat} : zLcM zi g c z vs δ M Q = zi δ M fun ds M1 => zLcL g c z (zwipe δ vs) (fun es M2 => ∀ p, M2 p = none → Q (.v (.ref p)) (mput M2 p (.lst es))) ds [] M1 := rfl
theorem u_seqI : zSeqI z δ M QA = z δ M fun d M1 => match d with | .lst ds => QA ds M1 | .rd ds => QA ds M1 | .tup ds => QA ds M1 | _ => False := rfl
theorem u_rng1 : zRng1 za δ M QA = za δ M fun ds M1 => match ds with | [.v (.int j)] => -(2 ^ 62) ≤ j ∧ j < 2 ^ 62 ∧ QA ((List.range j.toNat).map fun i => .v (.int (i : Nat))) M1 | _ => False := rfl
theorem u_rng2 : zRng2 za δ M QA = za δ M fun ds M1 => match ds with
  | [.v (.int i), .v (.int j)] => (-(2 ^ 62) ≤ i ∧ i < 2 ^ 62 ∧ -(2 ^ 62) ≤ j ∧ j < 2 ^ 62) ∧ QA ((List.range (j - i).toNat).map fun k => .v (.int (i + (k : Nat)))) M1
  | _ => False := rfl
theorem u_enum : zEnum za δ M QA = za δ M fun ds M1 => match ds with | [.lst es] => QA (enumD es) M1 | [.tup es] => QA (enumD es) M1 | _ => False := rfl
theorem u_zip : zZip za δ M QA = za δ M fun ds M1 => match ds with | [.lst es, .lst fs] => QA (zipD es fs) M1 | [.tup es, .tup fs] => QA (zipD es fs) M1 | _ => False := rfl
theorem u_sl {r : Zl.D → Option Int → Option Int → MS → ZQ → Prop} {zl zh : ZO} : zSl r z zl zh δ M Q = z δ M fun d M1 => zl δ M1 fun l M2 => zh δ M2 fun u M3 => r d l u M3 Q := rfl
theorem u_nopart : zNoPart δ M QO = QO none M := rfl
theorem u_part : zPart z δ M QO = z δ M fun d M1 => match d with | .v (.int i) => QO (some i) M1 | _ => False := rfl
theorem u_cutT {ds : List Zl.D} {lo hi : Option Int} : zCut (.tup ds) lo hi M Q = Q (.tup (Zl.cutD ds lo hi)) M := rfl
theorem u_cutL {ds : List Zl.D} {lo hi : Option Int} : zCut (.lst ds) lo hi M Q = Q (.lst (Zl.cutD ds lo hi)) M := by
  show (∃ ds', seqOf M (.lst ds) = some ds' ∧ _) = _
  simp [seqOf]
theorem u_cutR {ds : List Zl.D} {lo hi : Option Int} : zCut (.rd ds) lo hi M Q = Q (.lst (Zl.cutD ds lo hi)) M := by
  show (∃ ds', seqOf M (.rd ds) = some ds' ∧ _) = _
  simp [seqOf]
theorem u_revT : zRevT z δ M Q = z δ M fun d M1 => match d with | .tup ds => Q (.tup ds.reverse) M1 | _ => False := rfl
theorem u_dnew : zDnew δ M Q = Q (.dct []) M := rfl
theorem u_dnewM : zDnewM δ M Q = ∀ p, M p = none → Q (.v (.ref p)) (mput M p (.dct [])) := rfl
theorem u_d1 {k : Int} : zD1 k z δ M Q = ∀ p, M p = none → z δ (mput M p (.dct [])) fun d M1 => M1 p = some (.dct []) ∧ Q (.dct [(.inl k, d)]) (mdel M1 p) := by
  have e : ∀ p, (fun (d : D) (M1 : MS) => M1 p = some (.dct []) ∧ (match (D.v (.ref p)) with | .v (.ref a) => ∃ kvs, mput M1 p (.dct [(.inl k, d)]) a = some (.dct kvs) ∧ Q (.dct kvs) (mdel (mput M1 p (.dct [(.inl k, d)])) a) | _ => False)) = fun d M1 => M1 p = some (.dct []) ∧ Q (.dct [(.inl k, d)]) (mdel M1 p) := fun p => by
    funext d M1
    simp only [mput_same, Option.some.injEq, MO.dct.injEq, exists_eq_left', mdel_mputA]
  show (∀ p, M p = none → z δ (mput M p (.dct [])) _) = _
  refine forall_congr fun p => forall_congr fun _ => ?_
  exact congrArg (z δ (mput M p (.dct []))) (e p)
theorem u_d1M {k : Int} : zD1M k z δ M Q = ∀ p, M p = none → z δ (mput M p (.dct [])) fun d M1 => M1 p = some (.dct []) ∧ Q (.v (.ref p)) (mput M1 p (.dct [(.inl k, d)])) := rfl
theorem u_fld {K : PySem.W.Frag} {f : Str} : zFld K z f δ M Q = z δ M fun d M1 => match d with
  | .ins C fs => FldOk K C f ∧ ∃ e, fs.lookup f = some e ∧ Q e M1
  | .v (.ref a) => ∃ C dx fs e, M1 a = some (.ins C dx fs) ∧ FldOk K C f ∧ fs.lookup f = some e ∧ Q e M1
  | _ => False := rfl
theorem u_sfld {K : PySem.W.Frag} {f : Str} : zsFld K z w f D δ M = w δ M fun e M1 => z δ M1 fun o M2 => match o with
  | .v (.ref a) => ∃ C dx fs, M2 a = some (.ins C dx fs) ∧ FldOk K C f ∧ fs.length < 1000 ∧ D.nx δ (mput M2 a (.ins C dx (putD f e fs)))
  | _ => False := rfl
theorem u_rz {Wz : ZW} {x : ZSt → MS → ZX → Prop} : zRz Wz x D δ M = x δ M fun C fs M' => Wz C fs δ M' := rfl
theorem u_xo {C : Addr} {ns : List Str} {X : ZX} : zXo C ns za δ M X = za δ M fun ds M1 => ds.length = ns.length ∧ ds.length ≤ 900 ∧ X C (ns.zip ds).reverse M1 := rfl
theorem u_x0 {C : Addr} {X : ZX} : zX0 C δ M X = X C [] M := rfl
theorem u_WB {Ez : ZX} {C : Addr} {fs : List (Str × Zl.D)} : WBz Ez C fs δ M = Ez C fs M := rfl
theorem u_W0 {C : Addr} {fs : List (Str × Zl.D)} : W0z C fs δ M = False := rfl
theorem u_try {K : PySem.W.Frag} {cv : Value} {i : Nat} {zs : Addr → Addr → List (Str × Zl.D) → ZS} {Wz : ZW} {zb : ZW → ZS} : zTryAs K cv i zs Wz zb D δ M = zb (fun C fs δ' M' => ∃ b, PySem.W.exmOne K (.ref C) cv = some b ∧
    (b = true → ∀ a, M' a = none → zs a C fs { nx := fun δ2 M2 => D.nx (δ2.set i none) M2, rt := D.rt, bk := fun δ2 M2 => D.bk (δ2.set i none) M2, ct := fun δ2 M2 => D.ct (δ2.set i none) M2 } (δ'.set i (some (.v (.ref a)))) M') ∧
    (b = false → Wz C fs δ' M')) D δ M := rfl
theorem u_xf {a C C' : Addr} {fs : List (Str × Zl.D)} {f : Str} : zXf a C C' fs f z δ M Q = z δ M fun d M1 => d = .v (.ref a) ∧ C = C' ∧ ∃ e, fs.lookup f = some e ∧ Q e M1 := rfl
theorem u_isXc {K : PySem.W.Frag} {C Cd a b : Addr} {d : Zl.D} : zIsXc K C Cd a [.v (.ref b), d] M Q = (C = Cd ∧ b = a ∧ ∃ u k, clD d = some u ∧ PySem.W.kitOne K (.ref Cd) u = some k ∧ Q (.v (.bl k)) M) := rfl
theorem u_nx {a : ZSt → MS → Prop} {b : ZQ} {e f : ZSt → MS → Prop} : ZEnds.nx ⟨a, b, e, f⟩ = a := rfl
theorem u_rt {a : ZSt → MS → Prop} {b : ZQ} {e f : ZSt → MS → Prop} : ZEnds.rt ⟨a, b, e, f⟩ = b := rfl
theorem u_bk {a : ZSt → MS → Prop} {b : ZQ} {e f : ZSt → MS → Prop} : ZEnds.bk ⟨a, b, e, f⟩ = e := rfl
theorem u_ct {a : ZSt → MS → Prop} {b : ZQ} {e f : ZSt → MS → Prop} : ZEnds.ct ⟨a, b, e, f⟩ = f := rfl
theorem u_var0 {d : Zl.D} {r : ZSt} : zVar 0 (some d :: r) M Q = Q d M := by
  unfold zVar
  simp
theorem u_varS {n : Nat} {x : Option Zl.D} {r : ZSt} : zVar (n + 1) (x :: r) M Q = zVar n r M Q := by
  unfold zVar
  simp
theorem u_gn {i : Nat} {d : Zl.D} : zgName i d δ M QS = QS (δ.set i (some d)) M := rfl
variable {d x0 x1 x2 x3 x4 x5 x6 x7 x8 x9 x10 x11 x12 x13 x14 x15 : Option Zl.D} {e : Zl.D} {r : ZSt}
theorem u_gn0 {y0 : Option Zl.D} : zgName 0 e (y0 :: r) M QS = QS (some e :: r) M := rfl
theorem u_gn1 {y0 y1 : Option Zl.D} : zgName 1 e (y0 :: y1 :: r) M QS = QS (y0 :: some e :: r) M := rfl
theorem u_gn2 {y0 y1 y2 : Option Zl.D} : zgName 2 e (y0 :: y1 :: y2 :: r) M QS = QS (y0 :: y1 :: some e :: r) M := rfl
theorem u_gn3 {y0 y1 y2 y3 : Option Zl.D} : zgName 3 e (y0 :: y1 :: y2 :: y3 :: r) M QS = QS (y0 :: y1 :: y2 :: some e :: r) M := rfl
theorem u_gn4 {y0 y1 y2 y3 y4 : Option Zl.D} : zgName 4 e (y0 :: y1 :: y2 :: y3 :: y4 :: r) M QS = QS (y0 :: y1 :: y2 :: y3 :: some e :: r) M := rfl
theorem u_gn5 {y0 y1 y2 y3 y4 y5 : Option Zl.D} : zgName 5 e (y0 :: y1 :: y2 :: y3 :: y4 :: y5 :: r) M QS = QS (y0 :: y1 :: y2 :: y3 :: y4 :: some e :: r) M := rfl
theorem u_gn6 {y0 y1 y2 y3 y4 y5 y6 : Option Zl.D} : zgName 6 e (y0 :: y1 :: y2 :: y3 :: y4 :: y5 :: y6 :: r) M QS = QS (y0 :: y1 :: y2 :: y3 :: y4 :: y5 :: some e :: r) M := rfl
theorem u_gn7 {y0 y1 y2 y3 y4 y5 y6 y7 : Option Zl.D} : zgName 7 e (y0 :: y1 :: y2 :: y3 :: y4 :: y5 :: y6 :: y7 :: r) M QS = QS (y0 :: y1 :: y2 :: y3 :: y4 :: y5 :: y6 :: some e :: r) M := rfl
theorem u_gn8 {y0 y1 y2 y3 y4 y5 y6 y7 y8 : Option Zl.D} : zgName 8 e (y0 :: y1 :: y2 :: y3 :: y4 :: y5 :: y6 :: y7 :: y8 :: r) M QS = QS (y0 :: y1 :: y2 :: y3 :: y4 :: y5 :: y6 :: y7 :: some e :: r) M := rfl
theorem u_gn9 {y0 y1 y2 y3 y4 y5 y6 y7 y8 y9 : Option Zl.D} : zgName 9 e (y0 :: y1 :: y2 :: y3 :: y4 :: y5 :: y6 :: y7 :: y8 :: y9 :: r) M QS = QS (y0 :: y1 :: y2 :: y3 :: y4 :: y5 :: y6 :: y7 :: y8 :: some e :: r) M := rfl
theorem u_gn10 {y0 y1 y2 y3 y4 y5 y6 y7 y8 y9 y10 : Option Zl.D} : zgName 10 e (y0 :: y1 :: y2 :: y3 :: y4 :: y5 :: y6 :: y7 :: y8 :: y9 :: y10 :: r) M QS = QS (y0 :: y1 :: y2 :: y3 :: y4 :: y5 :: y6 :: y7 :: y8 :: y9 :: some e :: r) M := rfl
theorem u_gn11 {y0 y1 y2 y3 y4 y5 y6 y7 y8 y9 y10 y11 : Option Zl.D} : zgName 11 e (y0 :: y1 :: y2 :: y3 :: y4 :: y5 :: y6 :: y7 :: y8 :: y9 :: y10 :: y11 :: r) M QS = QS (y0 :: y1 :: y2 :: y3 :: y4 :: y5 :: y6 :: y7 :: y8 :: y9 :: y10 :: some e :: r) M := rfl
theorem u_gn12 {y0 y1 y2 y3 y4 y5 y6 y7 y8 y9 y10 y11 y12 : Option Zl.D} : zgName 12 e (y0 :: y1 :: y2 :: y3 :: y4 :: y5 :: y6 :: y7 :: y8 :: y9 :: y10 :: y11 :: y12 :: r) M QS = QS (y0 :: y1 :: y2 :: y3 :: y4 :: y5 :: y6 :: y7 :: y8 :: y9 :: y10 :: y11 :: some e :: r) M := rfl
theorem u_gn13 {y0 y1 y2 y3 y4 y5 y6 y7 y8 y9 y10 y11 y12 y13 : Option Zl.D} : zgName 13 e (y0 :: y1 :: y2 :: y3 :: y4 :: y5 :: y6 :: y7 :: y8 :: y9 :: y10 :: y11 :: y12 :: y13 :: r) M QS = QS (y0 :: y1 :: y2 :: y3 :: y4 :: y5 :: y6 :: y7 :: y8 :: y9 :: y10 :: y11 :: y12 :: some e :: r) M := rfl
theorem u_gn14 {y0 y1 y2 y3 y4 y5 y6 y7 y8 y9 y10 y11 y12 y13 y14 : Option Zl.D} : zgName 14 e (y0 :: y1 :: y2 :: y3 :: y4 :: y5 :: y6 :: y7 :: y8 :: y9 :: y10 :: y11 :: y12 :: y13 :: y14 :: r) M QS = QS (y0 :: y1 :: y2 :: y3 :: y4 :: y5 :: y6 :: y7 :: y8 :: y9 :: y10 :: y11 :: y12 :: y13 :: some e :: r) M := rfl
theorem u_gn15 {y0 y1 y2 y3 y4 y5 y6 y7 y8 y9 y10 y11 y12 y13 y14 y15 : Option Zl.D} : zgName 15 e (y0 :: y1 :: y2 :: y3 :: y4 :: y5 :: y6 :: y7 :: y8 :: y9 :: y10 :: y11 :: y12 :: y13 :: y14 :: y15 :: r) M QS = QS (y0 :: y1 :: y2 :: y3 :: y4 :: y5 :: y6 :: y7 :: y8 :: y9 :: y10 :: y11 :: y12 :: y13 :: y14 :: some e :: r) M := rfl
theorem u_gn16 {y0 y1 y2 y3 y4 y5 y6 y7 y8 y9 y10 y11 y12 y13 y14 y15 y16 : Option Zl.D} : zgName 16 e (y0 :: y1 :: y2 :: y3 :: y4 :: y5 :: y6 :: y7 :: y8 :: y9 :: y10 :: y11 :: y12 :: y13 :: y14 :: y15 :: y16 :: r) M QS = QS (y0 :: y1 :: y2 :: y3 :: y4 :: y5 :: y6 :: y7 :: y8 :: y9 :: y10 :: y11 :: y12 :: y13 :: y14 :: y15 :: some e :: r) M := rfl
theorem u_gn17 {y0 y1 y2 y3 y4 y5 y6 y7 y8 y9 y10 y11 y12 y13 y14 y15 y16 y17 : Option Zl.D} : zgName 17 e (y0 :: y1 :: y2 :: y3 :: y4 :: y5 :: y6 :: y7 :: y8 :: y9 :: y10 :: y11 :: y12 :: y13 :: y14 :: y15 :: y16 :: y17 :: r) M QS = QS (y0 :: y1 :: y2 :: y3 :: y4 :: y5 :: y6 :: y7 :: y8 :: y9 :: y10 :: y11 :: y12 :: y13 :: y14 :: y15 :: y16 :: some e :: r) M := rfl
theorem u_gn18 {y0 y1 y2 y3 y4 y5 y6 y7 y8 y9 y10 y11 y12 y13 y14 y15 y16 y17 y18 : Option Zl.D} : zgName 18 e (y0 :: y1 :: y2 :: y3 :: y4 :: y5 :: y6 :: y7 :: y8 :: y9 :: y10 :: y11 :: y12 :: y13 :: y14 :: y15 :: y16 :: y17 :: y18 :: r) M QS = QS (y0 :: y1 :: y2 :: y3 :: y4 :: y5 :: y6 :: y7 :: y8 :: y9 :: y10 :: y11 :: y12 :: y13 :: y14 :: y15 :: y16 :: y17 :: some e :: r) M := rfl
theorem u_gn19 {y0 y1 y2 y3 y4 y5 y6 y7 y8 y9 y10 y11 y12 y13 y14 y15 y16 y17 y18 y19 : Option Zl.D} : zgName 19 e (y0 :: y1 :: y2 :: y3 :: y4 :: y5 :: y6 :: y7 :: y8 :: y9 :: y10 :: y11 :: y12 :: y13 :: y14 :: y15 :: y16 :: y17 :: y18 :: y19 :: r) M QS = QS (y0 :: y1 :: y2 :: y3 :: y4 :: y5 :: y6 :: y7 :: y8 :: y9 :: y10 :: y11 :: y12 :: y13 :: y14 :: y15 :: y16 :: y17 :: y18 :: some e :: r) M := rfl
theorem u_gn20 {y0 y1 y2 y3 y4 y5 y6 y7 y8 y9 y10 y11 y12 y13 y14 y15 y16 y17 y18 y19 y20 : Option Zl.D} : zgName 20 e (y0 :: y1 :: y2 :: y3 :: y4 :: y5 :: y6 :: y7 :: y8 :: y9 :: y10 :: y11 :: y12 :: y13 :: y14 :: y15 :: y16 :: y17 :: y18 :: y19 :: y20 :: r) M QS = QS (y0 :: y1 :: y2 :: y3 :: y4 :: y5 :: y6 :: y7 :: y8 :: y9 :: y10 :: y11 :: y12 :: y13 :: y14 :: y15 :: y16 :: y17 :: y18 :: y19 :: some e :: r) M := rfl
theorem u_gn21 {y0 y1 y2 y3 y4 y5 y6 y7 y8 y9 y10 y11 y12 y13 y14 y15 y16 y17 y18 y19 y20 y21 : Option Zl.D} : zgName 21 e (y0 :: y1 :: y2 :: y3 :: y4 :: y5 :: y6 :: y7 :: y8 :: y9 :: y10 :: y11 :: y12 :: y13 :: y14 :: y15 :: y16 :: y17 :: y18 :: y19 :: y20 :: y21 :: r) M QS = QS (y0 :: y1 :: y2 :: y3 :: y4 :: y5 :: y6 :: y7 :: y8 :: y9 :: y10 :: y11 :: y12 :: y13 :: y14 :: y15 :: y16 :: y17 :: y18 :: y19 :: y20 :: some e :: r) M := rfl
theorem u_gn22 {y0 y1 y2 y3 y4 y5 y6 y7 y8 y9 y10 y11 y12 y13 y14 y15 y16 y17 y18 y19 y20 y21 y22 : Option Zl.D} : zgName 22 e (y0 :: y1 :: y2 :: y3 :: y4 :: y5 :: y6 :: y7 :: y8 :: y9 :: y10 :: y11 :: y12 :: y13 :: y14 :: y15 :: y16 :: y17 :: y18 :: y19 :: y20 :: y21 :: y22 :: r) M QS = QS (y0 :: y1 :: y2 :: y3 :: y4 :: y5 :: y6 :: y7 :: y8 :: y9 :: y10 :: y11 :: y12 :: y13 :: y14 :: y15 :: y16 :: y17 :: y18 :: y19 :: y20 :: y21 :: some e :: r) M := rfl
theorem u_gn23 {y0 y1 y2 y3 y4 y5 y6 y7 y8 y9 y10 y11 y12 y13 y14 y15 y16 y17 y18 y19 y20 y21 y22 y23 : Option Zl.D} : zgName 23 e (y0 :: y1 :: y2 :: y3 :: y4 :: y5 :: y6 :: y7 :: y8 :: y9 :: y10 :: y11 :: y12 :: y13 :: y14 :: y15 :: y16 :: y17 :: y18 :: y19 :: y20 :: y21 :: y22 :: y23 :: r) M QS = QS (y0 :: y1 :: y2 :: y3 :: y4 :: y5 :: y6 :: y7 :: y8 :: y9 :: y10 :: y11 :: y12 :: y13 :: y14 :: y15 :: y16 :: y17 :: y18 :: y19 :: y20 :: y21 :: y22 :: some e :: r) M := rfl
end
section
variable {X : Cx} {x n : Str} {c : Value} {i : Nat} {body suite : List Stmt} {b0 : Stmt} {np pos pos' : Pos} {tb : WX → TS} {ts : Addr → Value → Option Addr → TS} {Wout : WX}
theorem zc_try (hs : X.stack = X.env :: X.outer) (hf : X.env.frame = some X.env.locals) (hN : X.N.Nodup) (hi : X.N[i]? = some n) (hln : X.env.kindOf n = some .local) (hc : Names X x c) (tk : L2N.Takes X Wout)
    (hb : ∀ (W : WX) (pn : List (Addr × Obj)) (xe : Value → Shared → Prop), L2N.Takes (X.tr pn xe) W → PassesOwn (model X.prog X.w) X.A X.env xe → PSs (X.tr pn xe) body (tb W))
    (hsu : ∀ (a : Addr) (oe : Obj) (cls : Value) (d : Option Addr) (pn : List (Addr × Obj)), L2N.Zn cls d oe → (∃ vs, oe.data = .fields vs) → PSs (X.suite a ((a, oe) :: pn)) (b0 :: suite) (ts a cls d)) :
    PS X (.Try body [.ExceptHandler (some (.Name x np)) (some n) (b0 :: suite) pos'] [] [] pos) (tTryAs X.K c i ts Wout tb) := L2N.ps_try_as hs hf hN hi hln hc tk hb hsu
end
theorem inD_ints {i : Int} {xs : List Int} : inD (.v (.int i)) (dInts xs) = decide (i ∈ xs) := by
  induction xs with
  | nil => rfl
  | cons x xs ih =>
    have e : inD (.v (.int i)) (dInts (x :: xs)) = ((x == i) || inD (.v (.int i)) (dInts xs)) := rfl
    rw [e, ih]
    by_cases h : x = i
    · subst h; simp
    · have : i ≠ x := fun q => h q.symm
      simp [h, this]
theorem fl_ints {xs : List Int} : (dInts xs).all flD = true := by
  rw [List.all_eq_true]
  intro d hd
  obtain ⟨i, _, rfl⟩ := ints_nice hd
  rfl
theorem e_inRow {neg : Bool} {i : Int} {xs : List Int} {M : MS} {Q : ZQ} : zIn neg (.v (.int i)) (rowD xs) M Q ↔ Q (.v (.bl (if neg then !decide (i ∈ xs) else decide (i ∈ xs)))) M := by
  unfold zIn
  constructor
  · rintro ⟨ds, e, _, _, q⟩
    cases e
    rw [inD_ints] at q
    exact q
  · intro q
    refine ⟨_, rfl, rfl, fl_ints, ?_⟩
    rw [inD_ints]
    exact q
/-- what holds between two statements -/
theorem zcut {s s2 : ZS} {D : ZEnds} {δ : ZSt} {M : MS} (I : ZSt → MS → Prop) (h1 : ∀ k : ZSt → MS → Prop, (∀ δ M, I δ M → k δ M) → s { D with nx := k } δ M) (h2 : ∀ δ M, I δ M → s2 D δ M) : zSeq s s2 D δ M := h1 _ h2
theorem hl_law : ∀ ds M Q E, spLaw ds M Q E → ds.length = 1 := fun ds M Q E h => by
  obtain ⟨ns, rfl, _⟩ := h
  rfl
end Zl
namespace Zl
open PySem PySem.Spec PyProof.Rows L2 LamX

/-! ### a lambda without parameters, handed to a def that calls it -/
/-- from H to H1 the lambda's code object was found in the table at P, or written there -/
def Made (P : Addr) (q : Str) (H H1 : Hp) (c' : Addr) : Prop :=
  (H1 = H ∧ ∃ (ps : Array Value) (pos : Pos), H P = some (.tbl ps) ∧ codeAmong pos ps.toList = some (.ref c')) ∨
  ∃ ps more : Array Value, H P = some (.tbl ps) ∧ H c' = none ∧ H1 = upd (upd H P (.tbl (ps ++ more))) c' (CodeO c' q) ∧ TriplesOk (ps ++ more).toList ∧
    ∀ pos cv, codeAmong pos (ps ++ more).toList = some cv → codeAmong pos ps.toList = some cv ∨ cv = .ref c'
abbrev lamObj (X : Cx) (params : Arguments) (body : Expr) (scope : Scope) (pm : Value) (c' : Addr) (ctv : Value) : Obj :=
  PySem.W.kla_obj "<lambda>" (X.env.qual ++ "<lambda>") params body scope (cloFrom X.env.cells scope.names []) pm c' ctv
section
variable {X : Cx} {pins : List (Addr × Obj)} {σ : L2.St} {H : Hp} {s : Shared}
theorem lam_made {c P : Addr} {params : Arguments} {body : Expr} {scope : Scope} {pos : Pos} {E : Value → Shared → Prop} {Q : Value → Shared → Prop} (I : Inv X pins σ H s)
    (TB : TabB X.base X.mg c P) (hcode : X.env.code = .ref c) (hT : TabS H P (X.env.qual ++ "<lambda>"))
    (hdef : defaultsOf params X.env = ([], [])) (hfree : ∀ y ∈ scope.names, y.2 = .free → ∃ c, X.env.cells.lookup y.1 = some c)
    (h : ∀ (f c' : Addr) (pm ctv : Value) (H1 : Hp) (s' : Shared), Inv X pins σ H1 s' → Made P (X.env.qual ++ "<lambda>") H H1 c' →
      s'.heap.get? f = some (lamObj X params body scope pm c' ctv) → H1 f = none → f ∉ frs X.stack → H1 c' = some (CodeO c' (X.env.qual ++ "<lambda>")) → Q (.ref f) s') :
    wpAny (model X.prog X.w) X.A (eval (.Lambda params body scope pos) X.env) Q E s := by
  obtain ⟨tb, a1, a2, a3⟩ := hT
  have b1 := TB.bm.keeps I.bk
  have b2 := I.hok P _ a1
  have old : ∀ g, s.heap.objs.size ≤ g → g ∉ frs X.stack := by
    intro g hg z
    rcases List.mem_cons.mp (I.stkSub _ z) with e | e
    · have l := I.lt
      rw [← e] at l
      exact Nat.not_lt.mpr hg l
    · exact I.nofs hg e
  apply PySem.W.kla_eval hdef
  cases hc : codeAmong pos tb.toList with
  | some cv =>
    obtain ⟨c', rfl, hco⟩ := a3 pos cv hc
    apply PySem.W.kla_makeFunctionHit (closure_ok hfree) I.ok.glob (I.mod.glob.keeps I.bk) hcode (TB.code.keeps I.bk) b2 a2 hc b1
    intro ctv h' tk hx hsz
    refine h _ c' _ ctv H _ (I.kept fun b o e => Heap.get?_push_of_some _ (hx b o e)) (.inl ⟨rfl, tb, pos, a1, hc⟩) (Heap.get?_push_size _ rfl) (I.hok.fresh hsz) (old _ hsz) hco
  | none =>
    apply PySem.W.kla_makeFunction (closure_ok hfree) I.ok.glob (I.mod.glob.keeps I.bk) hcode (TB.code.keeps I.bk) b2 a2 hc TB.gP b1
    rintro c' ctv h' tk hx hge hlt ⟨_, oc, vs, t, ⟨⟩, hoc, hd, hv⟩ htb
    have n0 : H c' = none := I.hok.fresh hge
    have sz := Nat.le_trans hge (Nat.le_of_lt hlt)
    have J := inv_table (t' := tk) (h' := h'.push (lamObj X params body scope ((X.mg "__name__").getD .none) c' ctv)) I a1
      (fun b o hb e => Heap.get?_push_of_some _ (hx b o hb e)) (Heap.get?_push_of_some _ htb) hge ⟨oc, vs, t, Heap.get?_push_of_some _ hoc, hd, hv⟩
    have eL : (tb ++ #[rawInt pos.line, rawInt pos.col, .ref c']).toList = tb.toList ++ [rawInt pos.line, rawInt pos.col, .ref c'] := by simp
    refine h h'.objs.size c' _ ctv _ _ J (.inr ⟨tb, _, a1, n0, rfl, ?_, fun p' cv e => ?_⟩) (Heap.get?_push_size _ rfl) ?_ (old _ sz) upd_same
    · rw [eL]
      exact PySem.TriplesOk_snoc _ _ _ _ a2
    · rw [eL] at e
      exact among_app _ a2 e
    · rw [upd_ne (Nat.ne_of_gt hlt), upd_ne (Nat.ne_of_gt (Nat.lt_of_lt_of_le (Heap.lt_size b2) sz))]
      exact I.hok.fresh sz
end
/-- the context of the lambda's body, exceptions' contexts being None -/
def lamCxN (X : Cx) (A : Around) (outer : List Env) (s : Shared) (H : Hp) (E : XK) (scope : Scope) (f c' : Addr) : Cx :=
  (lamCx X A outer s H E scope f c').tr [] fun e s' => wpAny (model X.prog X.w) (A.deeper (lamEnv X scope s.heap.objs.size f c')) (leaving (lamEnv X scope s.heap.objs.size f c') e)
    (fun _ s2 => L2N.CX X.prog X.w outer H s E e s2) (fun e2 s2 => L2N.CX X.prog X.w outer H s E e2 s2) s'
/-- a(), in the def that got the lambda: what it raises is wished for at its slots -/
def tAct (f c' : Addr) (q : Str) (tl : XK → Hp → VK → Prop) (W : WX) : TE := fun σ H Q => σ[0]? = some (some (.ref f)) ∧ H c' = some (CodeO c' q) ∧ tl (fun cls d H' => W cls d σ H') H Q
section
variable {X : Cx} {pins : List (Addr × Obj)} {σ : L2.St} {H : Hp} {s : Shared}
abbrev GCx (X : Cx) (Ng : List Str) (qg : Str) (sg : Scope) (g : Addr) (cdg : Value) (s : Shared) (H : Hp) : Cx := cxOf C8.CX0 X.prog X.w X.K X.mg X.base Ng qg sg g cdg X.A X.stack s H C8.E0
theorem pc_act {Ng : List Str} {qg a : Str} {sg : Scope} {g f c' : Addr} {cdg pm ctv : Value} {params : Arguments} {body : Expr} {scope : Scope} {k : Nat} {pn : List (Addr × Obj)} {xe : Value → Shared → Prop} {W : WX} {t : XK → TE} {p1 p2 : Pos}
    (I : Inv X pins σ H s) (L : LamS X.env.scope scope) (hf : s.heap.get? f = some (lamObj X params body scope pm c' ctv)) (hfn : H f = none) (hfr : f ∉ frs X.stack)
    (hbind : bindArgs (PySem.W.kla_fn "<lambda>" (X.env.qual ++ "<lambda>") params body scope (cloFrom X.env.cells scope.names []) pm (.ref c') ctv) ⟨[], []⟩ = pure [])
    (tk : L2N.Takes ((GCx X Ng qg sg g cdg s H).tr pn xe) W) (hr : Room (k + 1) (X.A.deeper (envOfC qg sg s.heap.objs.size g cdg)))
    (hbody : ∀ (A : Around) (outer : List Env) (s : Shared) (H : Hp) (E : XK), Room k (A.deeper (lamEnv X scope s.heap.objs.size f c')) → PE (lamCxN X A outer s H E scope f c') body (t E))
    (hN : Ng[0]? = some a) (hv : Vis sg a) (hd : (a == ("__debug__" : Str)) = false := by decide) (hcd : (a == ("__classdict__" : Str)) = false := by decide) :
    PE ((GCx X Ng qg sg g cdg s H).tr pn xe) (.Call (.Name a p1) [] [] p2) (tAct f c' (X.env.qual ++ "<lambda>") (fun E H' Q' => t E σ H' Q') W) := by
  constructor
  rintro pinsZ sZ σZ HZ Q IZ ⟨hs, hc, ht⟩
  apply wpAny_Call_Name_kw
  refine thn ((pe_var (pos := p1) (i := 0) hN hv hd hcd).run pinsZ sZ σZ HZ (fun v H1 => v = .ref f ∧ H1 = HZ) IZ ⟨.ref f, hs, rfl, rfl⟩) ?_
  rintro u s1 ⟨v, H1, I1, r1, q1, q2⟩
  subst q1
  rw [q2] at I1
  obtain rfl : u = Value.ref f := r1
  have g1 := I1.base.keep f _ hf hfn hfr (fun z => nomatch (show f ∈ ([] : List Addr) from z))
  apply PySem.W.callWith_F0 ⟨_, _, _, _, g1⟩
  obtain ⟨⟨oc, vs, t', k1, k2, k3⟩, _, _⟩ := I1.hok c' _ hc
  have rc : codeAny (model X.prog X.w) (X.A.deeper (envOfC qg sg s.heap.objs.size g cdg)) (.call (.ref f) ⟨[], []⟩) (CR (L2N.CX X.prog X.w) (envOfC qg sg s.heap.objs.size g cdg :: X.stack) X.prog X.w HZ s1 Q (WE W σZ)) s1 := by
    apply PySem.W.kla_callFunE hr.depth g1 rfl L.co L.gen rfl ⟨c', oc, vs, t', rfl, k1, k2, k3⟩
    rw [hbind]
    apply wpAny_pure
    refine wpAny_newFunctionEnv (fun y hy => (L.own y hy).2) (fun y hy => absurd hy (by simp)) (fun h₁ hns hsb => ?_) L.kind
    refine ⟨I1.nolimit.fresh _ hsb, PySem.W.kla_codeExpr ?_⟩
    have kp : ∀ b o, s1.heap.get? b = some o → h₁.get? b = some o := fun b o e =>
      hsb.extBut b o (Nat.ne_of_lt (Heap.lt_size e)) (Heap.get?_push_of_some _ e)
    have J := lam_start2 (f := f) (c' := c') (E := WE W σZ) (A := X.A.deeper (envOfC qg sg s.heap.objs.size g cdg)) (tk := s1.toks + ([] : List (Str × Value)).length) I L I1.env0 hr.hd (show Un (frs X.stack) [] H _ s.heap s1.heap from I1.base) hns kp
    have J2 : Inv (lamCxN X (X.A.deeper (envOfC qg sg s.heap.objs.size g cdg)) (envOfC qg sg s.heap.objs.size g cdg :: X.stack) s1 HZ (WE W σZ) scope f c') [] σ HZ _ := J.toTry _
    refine wpAny_mono ((hbody _ _ s1 _ _ (hr.deeper _)).run [] _ _ _ Q J2 ht) ?_ fun e s' hq => hq
    rintro v s' ⟨w', H', J', rv, q⟩
    exact ⟨w', H', J'.os, J'.bare, J'.base, J'.hok, rv, q⟩
  refine wpAny_call (codeAny_mono rc fun r s' hq => ?_)
  match r, hq with
  | .error e, hq => exact L2N.passAt tk σZ pinsZ _ s1 e s' I1 hq
  | .ok (.ret u), hq => exact I1.after hq
  | .ok .next, hq => exact False.elim hq
  | .ok .brk, hq => exact False.elim hq
  | .ok .cont, hq => exact False.elim hq
end
/-- x(lambda: ..): T is what the def x does with what it got -/
def tLam (P : Addr) (q : Str) (n : Nat) (T : Addr → Addr → (XK → Hp → VK → Prop) → TS) (t : XK → TE) : TE := fun σ H Q => TabS H P q ∧ ∀ H1 c' f, Made P q H H1 c' → H1 f = none →
  T f c' (fun E H' Q' => t E σ H' Q') { nx := fun _ H' => Q .non H', rt := Q } (some (.ref f) :: List.replicate n none) H1
section
variable {X : Cx}
theorem pc_lam {T : Addr → Addr → (XK → Hp → VK → Prop) → TS} {x a : Str} {g c P : Addr} {k n : Nat} {pg : Arguments} {bg : List Stmt} {sg : Scope} {dV kV doc pm cdv ct oc : Value} {an od : Option Addr} {osl : Array (Option Value)} {Ng : List Str}
    {params : Arguments} {body : Expr} {scope : Scope} {t : XK → TE} {p lpos pos : Pos} (hg : Gl X x) (hm : X.mg x = some (.ref g)) (hk : PySem.W.keepIn X.K (.ref g) = true)
    (lk : X.K.lookup g = some ⟨oc, od, .func (PySem.W.fnOf x x pg bg sg dV kV doc pm an cdv ct), osl⟩) (hcg : PySem.W.codeIn X.K cdv x = true) (hb : L2.Binds X.K (PySem.W.fnOf x x pg bg sg dV kV doc pm an cdv ct) [a] []) (Sg : FnScope Ng [a] sg)
    (hNg : Ng[0]? = some a) (hln : Ng.length = n + 1) (hva : Vis sg a)
    (hG : ∀ (f c' : Addr) (s : Shared) (H : Hp) (tl : XK → Hp → VK → Prop), Room 0 (X.A.deeper (envOfC x sg s.heap.objs.size g cdv)) →
      (∀ (W : WX) (pn : List (Addr × Obj)) (xe : Value → Shared → Prop) (p1 p2 : Pos), L2N.Takes ((GCx X Ng x sg g cdv s H).tr pn xe) W → PE ((GCx X Ng x sg g cdv s H).tr pn xe) (.Call (.Name a p1) [] [] p2) (tAct f c' (X.env.qual ++ "<lambda>") tl W)) →
      PSs (GCx X Ng x sg g cdv s H).nox bg (T f c' tl))
    (TB : TabB X.base X.mg c P) (hcode : X.env.code = .ref c) (hr : Room (k + 2) X.A) (L : LamS X.env.scope scope) (hdef : defaultsOf params X.env = ([], []))
    (hbind : ∀ (q : Str) (cl : List (Str × Addr)) (pm cv ctv : Value), bindArgs (PySem.W.kla_fn "<lambda>" q params body scope cl pm cv ctv) ⟨[], []⟩ = pure [])
    (hbody : ∀ (A : Around) (outer : List Env) (s : Shared) (H : Hp) (f c' : Addr) (E : XK), Room k (A.deeper (lamEnv X scope s.heap.objs.size f c')) → PE (lamCxN X A outer s H E scope f c') body (t E))
    (hdb : (x == ("__debug__" : Str)) = false := by decide) (hd : (a == ("__debug__" : Str)) = false := by decide) (hcd : (a == ("__classdict__" : Str)) = false := by decide) :
    PE X (.Call (.Name x p) [.Lambda params body scope lpos] [] pos) (tLam P (X.env.qual ++ "<lambda>") n T t) := by
  constructor
  rintro pins s σ H Q I ⟨hT, h⟩
  apply wpAny_Call_Name_kw
  refine ld_glob I hg hm (PySem.W.callWith_K (h₀ := X.base) I.ok.mod.kin hk ?_ (by rfl) (by rfl)) hdb
  show wpAny _ _ (spliced ((false, eval (.Lambda params body scope lpos) X.env) :: backTo pos (starEach [] X.env))) _ _ s
  refine Calls.spliced_cons (lam_made I TB hcode hT hdef (L.has I.ok) ?_)
  intro f c' pm' ctv H1 s' I1 mk hf hfn hfr hco
  refine Calls.spliced_nil ⟨I1.kIn, wpAny_call (codeAny_mono (?_ : codeAny _ _ _ (CR C8.CX0 X.stack X.prog X.w H1 s' Q C8.E0) s') fun r s2 hq => ?_)⟩
  · refine run_ofS (N := Ng) (ps := [a]) (us := [.ref f]) (vs := [.ref f]) lk hcg Sg hr I1.env0 (hb s' [.ref f] I1.kIn rfl) (.cons rfl .nil) rfl fun hr' => ?_
    refine ⟨_, (hG f c' s' H1 (fun E H' Q' => t E σ H' Q') (hr'.mono (Nat.zero_le _)) fun W pn xe p1 p2 tk => pc_act I1 L hf hfn hfr (hbind _ _ _ _ _) tk hr' (fun A outer s H E hr2 => hbody A outer s H f c' E hr2) hNg hva hd hcd).nox, ?_⟩
    have es : L2.start Ng [V.ref f] = some (.ref f) :: List.replicate n none := by
      unfold L2.start
      rw [hln]
      rfl
    rw [es]
    exact h H1 c' f mk hfn
  · match r, hq with
    | .error e, hq => exact (show False from hq).elim
    | .ok (.ret u), hq => exact I1.after hq
    | .ok .next, hq => exact False.elim hq
    | .ok .brk, hq => exact False.elim hq
    | .ok .cont, hq => exact False.elim hq
end
/-! ### lifted -/
def zAct (f : Addr) (za : ZX → MS → ZQ → Prop) (Wz : ZW) : ZE := fun δ M Q => δ[0]? = some (some (.v (.ref f))) ∧ za (fun C gs M' => Wz C gs δ M') M Q
section
variable {K : PySem.W.Frag} {w0 : W3}
/-- a reading with a wish about exceptions, at fixed slots -/
def LK (K : PySem.W.Frag) (w0 : W3) (tl : XK → Hp → VK → Prop) (za : ZX → MS → ZQ → Prop) : Prop := ∀ w E Ez Q Qz, Nx w0 w → Ok K w → CtX K w Ez E → CtE K w Qz Q → za Ez w.M Qz → tl E w.H Q
theorem le_act {f c' : Addr} {q : Str} {tl : XK → Hp → VK → Prop} {za : ZX → MS → ZQ → Prop} {W : WX} {Wz : ZW} (hW : CtW K w0 Wz W) (hl : LK K w0 tl za) (hc : w0.F c' = some (CodeO c' q)) : LE K w0 (tAct f c' q tl W) (zAct f za Wz) := fun w σ δ Qz Q l s rs c h => by
  obtain ⟨h1, h2⟩ := h
  obtain ⟨x, e1, r⟩ := rs.get 0 _ h1
  have ex := r.v_inv
  subst ex
  exact ⟨e1, s.sub _ _ (l.le _ _ hc), hl w _ _ Q Qz l s (fun u C d fs lu su rx q => hW u C d fs δ σ (l.tr lu) su (rs.le lu.le) rx q) c h2⟩
def zLam (P : Addr) (q : Str) (n : Nat) (zT : Addr → (ZX → MS → ZQ → Prop) → ZS) (zl : ZX → ZE) : ZE := fun δ M Q => M P = some (.tbl q) ∧ ∀ f,
  zT f (fun E M' Q' => zl E δ M' Q') { nx := fun _ M' => Q (.v .non) M', rt := Q } (some (.v (.ref f)) :: List.replicate n none) M
theorem le_lam {P : Addr} {q : Str} {n : Nat} {T : Addr → Addr → (XK → Hp → VK → Prop) → TS} {zT : Addr → (ZX → MS → ZQ → Prop) → ZS} {t : XK → TE} {zl : ZX → ZE}
    (hT : ∀ (w1 : W3) (f c' : Addr) (tl : XK → Hp → VK → Prop) (za : ZX → MS → ZQ → Prop), w1.F c' = some (CodeO c' q) → LK K w1 tl za → LS K w1 (T f c' tl) (zT f za))
    (hl : ∀ (w1 : W3) (E : XK) (Ez : ZX), CtX K w1 Ez E → LE K w1 (t E) (zl Ez)) : LE K w0 (tLam P q n T t) (zLam P q n zT zl) := fun w σ δ Qz Q l s rs c h => by
  obtain ⟨h1, h2⟩ := h
  obtain ⟨o, e1, e2⟩ := s.mu _ _ h1
  cases e2 with
  | @tbl _ ps tk r =>
    have fP : w.F P = none := by
      cases e : w.F P with
      | none => rfl
      | some o => rw [s.dis _ _ e] at h1; cases h1
    refine ⟨⟨ps, e1, tk, fun pos cv e => let ⟨c0, a, b⟩ := r pos cv e; ⟨c0, a, s.sub _ _ b⟩⟩, fun H1 c' f mk hf => ?_⟩
    have go : ∀ u : W3, Nx w u → Ok K u → u.F c' = some (CodeO c' q) → u.M = w.M → T f c' (fun E H' Q' => t E σ H' Q') { nx := fun _ H' => Q .non H', rt := Q } (some (.ref f) :: List.replicate n none) u.H := fun u lu su cu eM => by
      refine hT u f c' _ (fun E M' Q' => zl E δ M' Q') cu (fun v E Ez Q' Qz' lv sv cx ce hz => hl v E Ez cx v σ δ _ _ (Nx.rf v) sv (rs.le (lu.tr lv).le) ce hz) u _ (some (.v (.ref f)) :: List.replicate n none) { nx := fun _ M' => Qz (.v .non) M', rt := Qz } _ (Nx.rf u) su ?_ ⟨fun v δ' σ' lv sv _ hq => c v _ _ (lu.tr lv) sv (.v .non) hq, c.le lu, fun _ _ _ _ _ _ hq => hq.elim, fun _ _ _ _ _ _ hq => hq.elim⟩ ?_
      · refine ⟨by simp, fun i d e => ?_⟩
        cases i with
        | zero => cases e; exact ⟨_, rfl, .v _⟩
        | succ i =>
          rw [List.getElem?_cons_succ, List.getElem?_replicate] at e
          split at e <;> cases e
      · rw [eM]
        exact h2 f
    rcases mk with ⟨rfl, ps', pos, a1, a2⟩ | ⟨ps', more, a1, a2, rfl, a3, a4⟩
    · rw [e1] at a1
      cases a1
      obtain ⟨c0, b1, b2⟩ := r pos _ a2
      cases b1
      exact go w (Nx.rf w) s b2 rfl
    · rw [e1] at a1
      cases a1
      have nc : c' ≠ P := fun z => by rw [z, e1] at a2; cases a2
      have fc := s.nF a2
      have mc := s.nM a2
      refine go ⟨upd w.F c' (CodeO c' q), w.M, upd (upd w.H P (.tbl (ps ++ more))) c' (CodeO c' q)⟩ ⟨Le.put fc, fun a o ea nt na => ?_⟩ ⟨fun a o ea => ?_, fun a o ea => ?_, fun a m ea => ?_⟩ upd_same rfl
      · have n1 : a ≠ c' := fun z => by rw [z, a2] at ea; cases ea
        have n2 : a ≠ P := fun z => by rw [z, e1] at ea; cases ea; exact nt _ rfl
        refine ⟨?_, na, fun f0 => ?_⟩
        · show upd (upd w.H P _) c' _ a = _
          rw [upd_ne n1, upd_ne n2]
          exact ea
        · show upd w.F c' _ a = _
          rw [upd_ne n1]
          exact f0
      · show upd (upd w.H P _) c' _ a = _
        have ea' : upd w.F c' (CodeO c' q) a = some o := ea
        by_cases n1 : a = c'
        · subst n1
          rw [upd_same] at ea' ⊢
          exact ea'
        · rw [upd_ne n1] at ea'
          rw [upd_ne n1, upd_ne (fun z => by rw [z, fP] at ea'; cases ea')]
          exact s.sub _ _ ea'
      · have ea' : upd w.F c' (CodeO c' q) a = some o := ea
        by_cases n1 : a = c'
        · rw [n1]
          exact mc
        · rw [upd_ne n1] at ea'
          exact s.dis _ _ ea'
      · have n1 : a ≠ c' := fun z => by
          have ea' : w.M a = some m := ea
          rw [z, mc] at ea'
          cases ea'
        by_cases n2 : a = P
        · subst n2
          have em : m = .tbl q := by
            have ea' : w.M a = some m := ea
            rw [h1] at ea'
            cases ea'
            rfl
          subst em
          refine ⟨.tbl (ps ++ more), by show upd (upd w.H a _) c' _ a = _; rw [upd_ne n1, upd_same], .tbl a3 fun pos cv e => ?_⟩
          rcases a4 pos cv e with e | e
          · obtain ⟨c0, b1, b2⟩ := r pos cv e
            exact ⟨c0, b1, Le.put fc _ _ b2⟩
          · exact ⟨c', e, upd_same⟩
        · obtain ⟨o, b1, b2⟩ := s.mu _ _ ea
          exact ⟨o, by show upd (upd w.H P _) c' _ a = _; rw [upd_ne n1, upd_ne n2]; exact b1, b2.le (Le.put fc)⟩
end
end Zl
namespace Zl
open PySem PySem.Spec PyProof.Rows L2 LamX

/-! ### a def that calls the lambda it got -/
abbrev ZWd := (ZX → MS → ZQ → Prop) → MS → ZQ → Prop
theorem LK.le {K : PySem.W.Frag} {w u : W3} {tl : XK → Hp → VK → Prop} {za : ZX → MS → ZQ → Prop} (l : Nx w u) (h : LK K w tl za) : LK K u tl za := fun v E Ez Q Qz lv => h v E Ez Q Qz (l.tr lv)
/-- its context, from the frames stack -/
abbrev WCx (P : Program) (w : World) (K : PySem.W.Frag) (mg : Str → Option Value) (base : Heap) (Ng : List Str) (x : Str) (sg : Scope) (g : Addr) (cdg : Value) (A : Around) (stack : List Env) (s : Shared) (H : Hp) : Cx :=
  cxOf C8.CX0 P w K mg base Ng x sg g cdg A stack s H C8.E0
def ActOk (Z : Cx) (a : Str) (f c' : Addr) (q : Str) (tl : XK → Hp → VK → Prop) : Prop := ∀ (W : WX) (pn : List (Addr × Obj)) (xe : Value → Shared → Prop) (p1 p2 : Pos), L2N.Takes (Z.tr pn xe) W → PE (Z.tr pn xe) (.Call (.Name a p1) [] [] p2) (tAct f c' q tl W)
structure WordAt (P : Program) (w : World) (K : PySem.W.Frag) (mg : Str → Option Value) (base : Heap) (x : Str) (zw : ZWd) : Prop where
  ex : ∃ (a : Str) (g : Addr) (pg : Arguments) (bg : List Stmt) (sg : Scope) (dV kV doc pm cdv ct oc : Value) (an od : Option Addr) (osl : Array (Option Value)) (Ng : List Str) (n : Nat),
    mg x = some (.ref g) ∧ PySem.W.keepIn K (.ref g) = true ∧ K.lookup g = some ⟨oc, od, .func (PySem.W.fnOf x x pg bg sg dV kV doc pm an cdv ct), osl⟩ ∧ PySem.W.codeIn K cdv x = true ∧
    L2.Binds K (PySem.W.fnOf x x pg bg sg dV kV doc pm an cdv ct) [a] [] ∧ FnScope Ng [a] sg ∧ Ng[0]? = some a ∧ Ng.length = n + 1 ∧ Vis sg a ∧ (a == ("__debug__" : Str)) = false ∧ (a == ("__classdict__" : Str)) = false ∧
    ∃ T : Addr → Addr → Str → (XK → Hp → VK → Prop) → TS,
      (∀ (A : Around) (stack : List Env) (f c' : Addr) (q : Str) (s : Shared) (H : Hp) (tl : XK → Hp → VK → Prop), Room 0 (A.deeper (envOfC x sg s.heap.objs.size g cdv)) → ActOk (WCx P w K mg base Ng x sg g cdv A stack s H) a f c' q tl → PSs (WCx P w K mg base Ng x sg g cdv A stack s H).nox bg (T f c' q tl)) ∧
      ∀ (w1 : W3) (f c' : Addr) (q : Str) (tl : XK → Hp → VK → Prop) (za : ZX → MS → ZQ → Prop) (Q : VK) (Qz : ZQ), Ok K w1 → w1.F c' = some (CodeO c' q) → LK K w1 tl za → CtE K w1 Qz Q → zw za w1.M Qz →
        T f c' q tl { nx := fun _ H' => Q .non H', rt := Q } (some (.ref f) :: List.replicate n none) w1.H
section
variable {P : Program} {w : World} {K : PySem.W.Frag} {mg : Str → Option Value} {base : Heap}
theorem zword {x a : Str} {st : Stmt} {Ng : List Str} {n : Nat} {zw : ZWd} {T : Addr → Addr → Str → (XK → Hp → VK → Prop) → TS} {zT : Addr → (ZX → MS → ZQ → Prop) → ZS} (F : FunAt K mg x x st [a]) (S : FnScope Ng [a] (defScope st))
    (hN : Ng[0]? = some a) (hn : Ng.length = n + 1) (hv : Vis (defScope st) a)
    (hp : ∀ (g : Addr) (cdv : Value) (A : Around) (stack : List Env) (f c' : Addr) (q : Str) (s : Shared) (H : Hp) (tl : XK → Hp → VK → Prop), Room 0 (A.deeper (envOfC x (defScope st) s.heap.objs.size g cdv)) →
      ActOk (WCx P w K mg base Ng x (defScope st) g cdv A stack s H) a f c' q tl →
      PSs (WCx P w K mg base Ng x (defScope st) g cdv A stack s H).nox (defBody st) (T f c' q tl))
    (hl : ∀ (w0 : W3) (f c' : Addr) (q : Str) (tl : XK → Hp → VK → Prop) (za : ZX → MS → ZQ → Prop), w0.F c' = some (CodeO c' q) → LK K w0 tl za → LS K w0 (T f c' q tl) (zT f za))
    (hz : ∀ (f : Addr) (za : ZX → MS → ZQ → Prop) (M : MS) (Qz : ZQ), zw za M Qz → zT f za { nx := fun _ M' => Qz (.v .non) M', rt := Qz } (some (.v (.ref f)) :: List.replicate n none) M)
    (hd : (a == ("__debug__" : Str)) = false := by decide) (hcd : (a == ("__classdict__" : Str)) = false := by decide) : WordAt P w K mg base x zw := by
  obtain ⟨g, fd, F, e, b⟩ := F.ex
  obtain ⟨oc, od, dV, kV, doc, pm, an, cdv, ct, osl, rfl, lk, hc, _, _⟩ := F.ex
  refine ⟨⟨a, g, _, _, _, dV, kV, doc, pm, cdv, ct, oc, an, od, osl, Ng, n, e, F.kp, lk, hc, b, S, hN, hn, hv, hd, hcd, T, fun A stack f c' q s H tl hr act => hp g cdv A stack f c' q s H tl hr act, fun w1 f c' q tl za Q Qz ok hc' lk' cq h => ?_⟩⟩
  refine hl w1 f c' q tl za hc' lk' w1 _ (some (.v (.ref f)) :: List.replicate n none) { nx := fun _ M' => Qz (.v .non) M', rt := Qz } _ (Nx.rf w1) ok ?_ ⟨fun v δ' σ' lv sv _ hq => cq v _ _ lv sv (.v .non) hq, cq, fun _ _ _ _ _ _ hq => hq.elim, fun _ _ _ _ _ _ hq => hq.elim⟩ (hz f za w1.M Qz h)
  refine ⟨by simp, fun i d e => ?_⟩
  cases i with
  | zero => cases e; exact ⟨_, rfl, .v _⟩
  | succ i =>
    rw [List.getElem?_cons_succ, List.getElem?_replicate] at e
    split at e <;> cases e
end
/-- x(lambda: ..) by what x promises -/
def tLamW (K : PySem.W.Frag) (P : Addr) (q : Str) (zw : ZWd) (t : XK → TE) : TE := fun σ H Q => TabS H P q ∧ ∀ H1 c', Made P q H H1 c' →
  ∃ (w : W3) (za : ZX → MS → ZQ → Prop) (Qz : ZQ), w.H = H1 ∧ Ok K w ∧ w.F c' = some (CodeO c' q) ∧ LK K w (fun E H' Q' => t E σ H' Q') za ∧ CtE K w Qz Q ∧ zw za w.M Qz
theorem zc_lam {X : Cx} {x : Str} {zw : ZWd} {c P : Addr} {k : Nat} {params : Arguments} {body : Expr} {scope : Scope} {t : XK → TE} {p lpos pos : Pos} (d : WordAt X.prog X.w X.K X.mg X.base x zw) (hg : Gl X x)
    (TB : TabB X.base X.mg c P) (hcode : X.env.code = .ref c) (hr : Room (k + 2) X.A) (L : LamS X.env.scope scope) (hdef : defaultsOf params X.env = ([], []))
    (hbind : ∀ (q : Str) (cl : List (Str × Addr)) (pm cv ctv : Value), bindArgs (PySem.W.kla_fn "<lambda>" q params body scope cl pm cv ctv) ⟨[], []⟩ = pure [])
    (hbody : ∀ (A : Around) (outer : List Env) (s : Shared) (H : Hp) (f c' : Addr) (E : XK), Room k (A.deeper (lamEnv X scope s.heap.objs.size f c')) → PE (lamCxN X A outer s H E scope f c') body (t E))
    (hdb : (x == ("__debug__" : Str)) = false := by decide) : PE X (.Call (.Name x p) [.Lambda params body scope lpos] [] pos) (tLamW X.K P (X.env.qual ++ "<lambda>") zw t) := by
  obtain ⟨a, g, pg, bg, sg, dV, kV, doc, pm, cdv, ct, oc, an, od, osl, Ng, n, e, hk, lk, hc, b, S, hN, hn, hv, hd, hcd, T, hp, hz⟩ := d.ex
  refine ⟨fun pins s σ H Q I h => ?_⟩
  refine (pc_lam (T := fun f c' tl => T f c' (X.env.qual ++ "<lambda>") tl) hg e hk lk hc b S hN hn hv (fun f c' s H tl hr act => hp X.A X.stack f c' _ s H tl hr act) TB hcode hr L hdef hbind hbody hdb hd hcd).run pins s σ H Q I ⟨h.1, fun H1 c' f mk hf => ?_⟩
  obtain ⟨w, za, Qz, rfl, ok, hc', lk', cq, hq⟩ := h.2 H1 c' mk
  exact hz w f c' _ _ za Q Qz ok hc' lk' cq hq
def zLamW (P : Addr) (q : Str) (zw : ZWd) (zl : ZX → ZE) : ZE := fun δ M Q => M P = some (.tbl q) ∧ zw (fun E M' Q' => zl E δ M' Q') M Q
section
variable {K : PySem.W.Frag} {w0 : W3}
theorem le_lamW {P : Addr} {q : Str} {zw : ZWd} {t : XK → TE} {zl : ZX → ZE} (hl : ∀ (w1 : W3) (E : XK) (Ez : ZX), CtX K w1 Ez E → LE K w1 (t E) (zl Ez)) : LE K w0 (tLamW K P q zw t) (zLamW P q zw zl) := fun w σ δ Qz Q l s rs c h => by
  obtain ⟨h1, h2⟩ := h
  obtain ⟨o, e1, e2⟩ := s.mu _ _ h1
  cases e2 with
  | @tbl _ ps tk r =>
    have fP : w.F P = none := by
      cases e : w.F P with
      | none => rfl
      | some o => rw [s.dis _ _ e] at h1; cases h1
    refine ⟨⟨ps, e1, tk, fun pos cv e => let ⟨c0, a, b⟩ := r pos cv e; ⟨c0, a, s.sub _ _ b⟩⟩, fun H1 c' mk => ?_⟩
    have go : ∀ u : W3, Nx w u → Ok K u → u.F c' = some (CodeO c' q) → u.M = w.M → u.H = H1 → ∃ (w : W3) (za : ZX → MS → ZQ → Prop) (Qz : ZQ), w.H = H1 ∧ Ok K w ∧ w.F c' = some (CodeO c' q) ∧ LK K w (fun E H' Q' => t E σ H' Q') za ∧ CtE K w Qz Q ∧ zw za w.M Qz := fun u lu su cu eM eH =>
      ⟨u, fun E M' Q' => zl E δ M' Q', Qz, eH, su, cu, fun v E Ez Q' Qz' lv sv cx ce hz => hl v E Ez (fun u' C d fs l' s' rx q => cx u' C d fs (by exact l') s' rx q) v σ δ _ _ (Nx.rf v) sv (rs.le (lu.tr lv).le) ce hz, c.le lu, by rw [eM]; exact h2⟩
    rcases mk with ⟨rfl, ps', pos, a1, a2⟩ | ⟨ps', more, a1, a2, rfl, a3, a4⟩
    · rw [e1] at a1
      cases a1
      obtain ⟨c0, b1, b2⟩ := r pos _ a2
      cases b1
      exact go w (Nx.rf w) s b2 rfl rfl
    · rw [e1] at a1
      cases a1
      have fc := s.nF a2
      have mc := s.nM a2
      refine go ⟨upd w.F c' (CodeO c' q), w.M, upd (upd w.H P (.tbl (ps ++ more))) c' (CodeO c' q)⟩ ⟨Le.put fc, fun a o ea nt na => ?_⟩ ⟨fun a o ea => ?_, fun a o ea => ?_, fun a m ea => ?_⟩ upd_same rfl rfl
      · have n1 : a ≠ c' := fun z => by rw [z, a2] at ea; cases ea
        have n2 : a ≠ P := fun z => by rw [z, e1] at ea; cases ea; exact nt _ rfl
        refine ⟨?_, na, fun f0 => ?_⟩
        · show upd (upd w.H P _) c' _ a = _
          rw [upd_ne n1, upd_ne n2]
          exact ea
        · show upd w.F c' _ a = _
          rw [upd_ne n1]
          exact f0
      · show upd (upd w.H P _) c' _ a = _
        have ea' : upd w.F c' (CodeO c' q) a = some o := ea
        by_cases n1 : a = c'
        · subst n1
          rw [upd_same] at ea' ⊢
          exact ea'
        · rw [upd_ne n1] at ea'
          rw [upd_ne n1, upd_ne (fun z => by rw [z, fP] at ea'; cases ea')]
          exact s.sub _ _ ea'
      · have ea' : upd w.F c' (CodeO c' q) a = some o := ea
        by_cases n1 : a = c'
        · rw [n1]
          exact mc
        · rw [upd_ne n1] at ea'
          exact s.dis _ _ ea'
      · have n1 : a ≠ c' := fun z => by
          have ea' : w.M a = some m := ea
          rw [z, mc] at ea'
          cases ea'
        by_cases n2 : a = P
        · subst n2
          have em : m = .tbl q := by
            have ea' : w.M a = some m := ea
            rw [h1] at ea'
            cases ea'
            rfl
          subst em
          refine ⟨.tbl (ps ++ more), by show upd (upd w.H a _) c' _ a = _; rw [upd_ne n1, upd_same], .tbl a3 fun pos cv e => ?_⟩
          rcases a4 pos cv e with e | e
          · obtain ⟨c0, b1, b2⟩ := r pos cv e
            exact ⟨c0, b1, Le.put fc _ _ b2⟩
          · exact ⟨c', e, upd_same⟩
        · obtain ⟨o, b1, b2⟩ := s.mu _ _ ea
          exact ⟨o, by show upd (upd w.H P _) c' _ a = _; rw [upd_ne n1, upd_ne n2]; exact b1, b2.le (Le.put fc)⟩
end
/-! ### defs that make lambdas: their code objects, their tables -/
abbrev tP (K : PySem.W.Frag) (x : Str) : Addr := He.tabOf K (He.codeOf K (x, none))
abbrev tC (K : PySem.W.Frag) (x : Str) : Addr := He.codeOf K (x, none)
/-- the name of a lambda made in the def x -/
abbrev qL (x : Str) : Str := (x ++ ".<locals>.") ++ "<lambda>"
structure FunAtC (K : PySem.W.Frag) (mg : Str → Option Value) (x qual : Str) (st : Stmt) (ps : List Str) : Prop where
  ex : ∃ (f : Addr) (fd : FuncData), FunD K x qual (defArgs st) (defBody st) (defScope st) [] [] f fd ∧ mg x = some (.ref f) ∧ L2.Binds K fd ps [] ∧ fd.code = .ref (Zl.tC K x)
theorem code_of {K : PySem.W.Frag} {x qual : Str} {p : He.Defn} {params : Arguments} {body : List Stmt} {scope : Scope} {dvs : List V} {kws : List (Str × V)} {fd : FuncData} (F : FunD K x qual params body scope dvs kws (He.fAd K p) fd) : fd.code = .ref (He.codeOf K p) := by
  obtain ⟨oc, od, dV, kV, doc, pm, an, cdv, ct, osl, e, lk, hc, _⟩ := F.ex
  obtain ⟨c, ec⟩ := He.codeIn_ref hc
  have e2 : fd.code = .ref c := by rw [e]; exact ec
  rw [He.codeOf_eq lk e2]
  exact e2
section
variable {P : Program} {w : World} {K : PySem.W.Frag} {mg : Str → Option Value} {base : Heap}
theorem zok_coreC {x qual : Str} {st : Stmt} {N ps : List Str} {k : Nat} {zp : ZSp} {f : Addr} {fd : FuncData} {cdv : Value} (F : FunD K x qual (defArgs st) (defBody st) (defScope st) [] [] f fd) (hcd : fd.code = cdv) (S : FnScope N ps (defScope st)) (hl : ∀ ds M Q E, zp ds M Q E → ds.length = ps.length)
    (hb : ∀ (A : Around) (outer : List Env) (s : Shared) (H : Hp) (E : XK) (w0 : W3) (Ez : ZX), Room k (A.deeper (envOfC qual (defScope st) s.heap.objs.size f cdv)) → CtW K w0 (WBz Ez) (WB E) →
      ∃ (t : TS) (z : ZS), PSs (cxOf (L2N.CX P w) P w K mg base N qual (defScope st) f cdv A outer s H E) (defBody st) t ∧ LS K w0 t z ∧
        ∀ ds Qz, zp ds w0.M Qz Ez → z { nx := fun _ M' => Qz (.v .non) M', rt := Qz } (zstart N.length ds) w0.M) : FnOk P w K mg base (L2N.CX P w) (k + 1) f fd ps (spOf K zp) := by
  obtain ⟨oc, od, dV, kV, doc, pm, an, cd, ct, osl, rfl, lk, hc, _, _⟩ := F.ex
  have ec : cd = cdv := hcd
  subst ec
  refine fn_of lk hc S (fun vs H Q E h => ?_) fun A outer s H vs Q E hr h => ?_
  · obtain ⟨w, ds, Qz, Ez, rfl, ok, r, _, _, h⟩ := h
    rw [← r.len]
    exact hl _ _ _ _ h
  · obtain ⟨w0, ds, Qz, Ez, rfl, ok, r, cq, cx, h⟩ := h
    obtain ⟨t, z, hp, hz, hh⟩ := hb A outer s w0.H E w0 Ez hr (ctW_of cx)
    exact ⟨t, hp, hz w0 _ _ { nx := fun _ M' => Qz (.v .non) M', rt := Qz } _ (Nx.rf w0) ok (RepS.start r N.length) ⟨fun u δ σ lu su ru q => cq u _ _ lu su (.v _) q, cq, fun _ _ _ _ _ _ q => q, fun _ _ _ _ _ _ q => q⟩ (hh ds Qz h)⟩
theorem zokC {x qual : Str} {st : Stmt} {N ps : List Str} {k : Nat} {zp : ZSp} (T : FunAtC K mg x qual st ps) (S : FnScope N ps (defScope st)) (hl : ∀ ds M Q E, zp ds M Q E → ds.length = ps.length)
    (hb : ∀ (f : Addr) (A : Around) (outer : List Env) (s : Shared) (H : Hp) (E : XK) (w0 : W3) (Ez : ZX), Room k (A.deeper (envOfC qual (defScope st) s.heap.objs.size f (.ref (Zl.tC K x)))) → CtW K w0 (WBz Ez) (WB E) →
      ∃ (t : TS) (z : ZS), PSs (cxOf (L2N.CX P w) P w K mg base N qual (defScope st) f (.ref (Zl.tC K x)) A outer s H E) (defBody st) t ∧ LS K w0 t z ∧
        ∀ ds Qz, zp ds w0.M Qz Ez → z { nx := fun _ M' => Qz (.v .non) M', rt := Qz } (zstart N.length ds) w0.M) : DefAt P w K mg base (k + 1) x ps zp := by
  obtain ⟨f, fd, F, e, b, hc⟩ := T.ex
  exact ⟨f, fd, zok_coreC F hc S hl (hb f), e, F.kp, b⟩
end
/-! ### the end of a law with tables -/
/-- the tables at the start: each name's -/
def tabM (ts : List (Addr × Str)) : MS := fun b => (ts.lookup b).map .tbl
def spLawT (ts : List (Addr × Str)) : ZSp := fun ds M Q _ => ∃ ns : List Int, ds = [.rd (ns.map fun n => .v (.int n))] ∧ ns.length ≤ 63 ∧ (∀ z ∈ ns, Builtin.Int.intBits z ≤ 1048576) ∧ M = tabM ts ∧ ∀ M', Q (.v (.bl true)) M'
theorem hl_lawT {ts : List (Addr × Str)} : ∀ ds M Q E, spLawT ts ds M Q E → ds.length = 1 := fun ds M Q E h => by
  obtain ⟨ns, rfl, _⟩ := h
  rfl
theorem mem_of_look : ∀ {ts : List (Addr × Str)} {b : Addr} {q : Str}, ts.lookup b = some q → (b, q) ∈ ts
  | [], _, _, h => nomatch h
  | (c, u) :: r, b, q, h => by
    rw [List.lookup_cons] at h
    cases e : (b == c) with
    | true =>
      rw [e] at h
      cases h
      rw [beq_iff_eq.mp e]
      exact List.mem_cons_self
    | false =>
      rw [e] at h
      exact List.mem_cons_of_mem _ (mem_of_look h)
theorem walk_lawT {l : PySem.W.OpenLaw} {k : Nat} {q : Program} {loose : List Str} {XP : (Str → Option Value) → Heap → Prop} {YP : World → Heap → Prop} {d : DefRec}
    (hn : l.most = some 63) (hdf : d.params.defaults = []) (hr : Room k callerA)
    (F : ∀ (w : World) (mg : Str → Option Value) (fa : Addr) (h : Heap), YP w h → h.Ns mainGlobals mg → mg d.name = some (.ref fa) →
      ∃ (K : PySem.W.Frag) (fd : FuncData) (ts : List (Addr × Addr × Str)), K.In h ∧ (∀ (s : Shared) (u : Value), BindsTo s fd ⟨[u], []⟩ [("script", u)]) ∧
        (∀ p ∈ ts, h.get? p.2.1 = some { cls := .none, data := .fields #[] } ∧ K.lookup p.2.1 = none ∧ PySem.W.codeHdIn K p.1 p.2.1 = true) ∧
        ∀ base : Heap, K.In base → base.Ns mainGlobals mg → (∀ p ∈ ts, TabB base mg p.1 p.2.1) → FnOk l.prog w K mg base (L2N.CX l.prog w) k fa fd ["script"] (spOf K (spLawT (ts.map (·.2))))) :
    PySem.W.WalkO q loose XP YP l.row.toRowW d [] (fun f vs => PySem.call f vs) := by
  refine Att.attach_callB hn hdf fun w s₀ s₁ mg mb fa o pm cd doc a vs ns G Y ho hd hcd hmg hobj hints hlen hbits hg => ?_
  obtain ⟨K, fd, ts, KX, hb, hT, hF⟩ := F w mg fa _ Y G.T.g hmg
  have cs : ∀ p ∈ ts.map (fun t => (t.1, t.2.1)), ∃ t ∈ ts, p = (t.1, t.2.1) := fun p hp => let ⟨t, h1, h2⟩ := List.mem_map.mp hp; ⟨t, h1, h2.symm⟩
  refine law_callTs (cs := ts.map fun t => (t.1, t.2.1)) KX G.T.g G.T.b G.T.builtins G.T.nolimit hg (fun p hp => ?_) (fun p hp => ?_) (fun p hp => ?_) G.T.bmain hobj hints (Nat.le_trans hlen (by decide)) hr
    (fun base h1 h2 h3 => hF base h1 h2 fun t ht => h3 (t.1, t.2.1) (List.mem_map.mpr ⟨t, ht, rfl⟩)) hb (fun H hH hS => ?_) fun H e s' z => ?_
  · obtain ⟨t, ht, rfl⟩ := cs p hp
    exact (hT t ht).1
  · obtain ⟨t, ht, rfl⟩ := cs p hp
    exact (hT t ht).2.1
  · obtain ⟨t, ht, rfl⟩ := cs p hp
    exact PySem.W.codeHd_of_K KX (hT t ht).2.2
  · have hM : ∀ b m, tabM (ts.map (·.2)) b = some m → ∃ q, m = .tbl q ∧ H b = some (.tbl #[]) := fun b m e => by
      unfold tabM at e
      cases e2 : (ts.map (·.2)).lookup b with
      | none => rw [e2] at e; cases e
      | some q =>
        rw [e2] at e
        cases e
        obtain ⟨t, ht, et⟩ := List.mem_map.mp (mem_of_look e2)
        refine ⟨q, rfl, ?_⟩
        have h2 := hH (t.1, t.2.1) (List.mem_map.mpr ⟨t, ht, rfl⟩)
        have e3 : t.2.1 = b := by rw [et]
        rw [← e3]
        exact h2
    let F0 : Hp := fun b => if (tabM (ts.map (·.2)) b).isSome then none else H b
    have F0e : ∀ b o, F0 b = some o → tabM (ts.map (·.2)) b = none ∧ H b = some o := fun b o e => by
      have e' : (if (tabM (ts.map (·.2)) b).isSome then none else H b) = some o := e
      cases e2 : tabM (ts.map (·.2)) b with
      | none => rw [e2] at e'; exact ⟨rfl, e'⟩
      | some m => rw [e2] at e'; cases e'
    have F0i : ∀ b u, H b = some u → (∀ ps, u ≠ .tbl ps) → F0 b = some u := fun b u e n => by
      show (if (tabM (ts.map (·.2)) b).isSome then none else H b) = some u
      cases e2 : tabM (ts.map (·.2)) b with
      | none => exact e
      | some m =>
        obtain ⟨_, _, e3⟩ := hM b m e2
        rw [e] at e3
        cases e3
        exact absurd rfl (n _)
    refine ⟨⟨F0, tabM (ts.map (·.2)), H⟩, [.rd (ns.map fun n => .v (.int n))], fun d _ => d = .v (.bl true), fun _ _ _ => False, rfl, ⟨fun b o e => (F0e b o e).2, fun b o e => (F0e b o e).1, fun b m e => ?_⟩, .cons (.rd ?_ (reps_ints ns)) .nil, fun u d x _ _ r e => ?_, fun _ _ _ _ _ _ _ z => z, ns, rfl, hlen, hbits, rfl, fun _ => rfl⟩
    · obtain ⟨q, rfl, e2⟩ := hM b m e
      exact ⟨_, e2, .tbl True.intro fun pos cv hc => by
        have z : codeAmong pos [] = some cv := hc
        simp [codeAmong] at z⟩
    · rcases hS with h | h
      · rcases h with h | ⟨o, h⟩
        · exact .inl (.inl (F0i _ _ h fun _ => nofun))
        · exact .inl (.inr ⟨o, F0i _ _ h fun _ => nofun⟩)
      · exact .inr h
    · subst e
      exact r.v_inv
  · obtain ⟨_, _, _, _, _, _, _, _, _, _, _, _, z⟩ := z
    exact z.elim
end Zl
namespace Zl
open PySem PySem.Spec PyProof.Rows L2

/-! ### keys of any depth, seen in the abstract heap -/
mutual
inductive KeyAt (H : Hp) : NestedKey → V → Prop
  | none : KeyAt H .none .non
  | bool (b : Bool) : KeyAt H (.num (if b then 1 else 0)) (.bl b)
  | int (i : Int) : KeyAt H (.num i) (.int i)
  | text (x : Str) : KeyAt H (.text x) (.str x)
  | tup {a : Addr} {xs : List V} {ks : List NestedKey} (h : H a = some (.tup xs)) (r : KeysAt H ks xs) : KeyAt H (.tup ks) (.ref a)
inductive KeysAt (H : Hp) : List NestedKey → List V → Prop
  | nil : KeysAt H [] []
  | cons {k : NestedKey} {x : V} {ks : List NestedKey} {xs : List V} (h : KeyAt H k x) (r : KeysAt H ks xs) : KeysAt H (k :: ks) (x :: xs)
end
mutual
theorem key_at {K : PySem.W.Frag} {F H : Hp} (l : Le F H) : ∀ {d : D} {k : NestedKey} {x : V}, keyOf d = some k → Rep K F d x → KeyAt H k x
  | .v v, k, x, e, r => by
    have ex := r.v_inv
    subst ex
    cases x with
    | non => cases e; exact .none
    | bl b => cases e; exact .bool b
    | int i => cases e; exact .int i
    | str s => cases e; exact .text s
    | _ => cases e
  | .tup ds, k, x, e, r => by
    cases r with
    | @tup _ a xs h r =>
      unfold keyOf at e
      obtain ⟨ks, e1, e2⟩ := Option.map_eq_some_iff.mp e
      subst e2
      exact .tup (l _ _ h) (keys_at l e1 r)
  | .lst _, _, _, e, _ => by cases e
  | .rd _, _, _, e, _ => by cases e
  | .dct _, _, _, e, _ => by cases e
  | .ins _ _, _, _, e, _ => by cases e
theorem keys_at {K : PySem.W.Frag} {F H : Hp} (l : Le F H) : ∀ {ds : List D} {ks : List NestedKey} {xs : List V}, keysOf ds = some ks → Reps K F ds xs → KeysAt H ks xs
  | [], _, _, e, r => by
    cases e
    cases r
    exact .nil
  | d :: ds, ks, xs, e, r => by
    cases r with
    | cons a r =>
      unfold keysOf at e
      cases e1 : keyOf d with
      | none => rw [e1] at e; cases e
      | some k =>
        cases e2 : keysOf ds with
        | none => rw [e1, e2] at e; cases e
        | some ks' =>
          rw [e1, e2] at e
          cases e
          exact .cons (key_at l e1 a) (keys_at l e2 r)
end
mutual
theorem nested_is {P : Program} {w : World} {H : Hp} {h : Heap} (ok : HOk P w H h) : ∀ {k : NestedKey} {x : V} {u : Value}, KeyAt H k x → RelV x u → NestedIs h k u
  | _, _, _, .none, r => by cases r; exact .none
  | _, _, _, .bool b, r => by cases r; exact .bool rfl
  | _, _, _, .int i, r => by obtain ⟨t, rfl⟩ := r; exact .int i t
  | _, _, _, .text x, r => by obtain ⟨t, rfl⟩ := r; exact .text x t
  | _, _, _, .tup e q, r => by
    cases (show _ = Value.ref _ from r)
    obtain ⟨_, its, rv, o, h1, h2, n, h3⟩ := ok _ _ e
    exact .tup h1 h2 h3 (by simpa using nested_all ok q rv)
theorem nested_all {P : Program} {w : World} {H : Hp} {h : Heap} (ok : HOk P w H h) : ∀ {ks : List NestedKey} {xs : List V} {us : List Value}, KeysAt H ks xs → Vals xs us → NestedAll h ks us
  | _, _, _, .nil, .nil => .nil
  | _, _, _, .cons a r, .cons b t => .cons (nested_is ok a b) (nested_all ok r t)
end
/-! ### such dicts -/
abbrev NE : Type := NestedKey × Addr × V
def KeysOk (H : Hp) (xs : List NE) : Prop := ∀ p ∈ xs, KeyAt H p.1 (.ref p.2.1) ∧ p.1.depth ≤ 8
abbrev PairN : List NE → List (NestedKey × Addr × Value) → Prop := Paired (fun (p : NE) (q : NestedKey × Addr × Value) => p.1 = q.1 ∧ p.2.1 = q.2.1 ∧ RelV p.2.2 q.2.2)
def valN (xs : List NE) (k : NestedKey) : Option V := (xs.find? fun x => decide (x.1 = k)).map (·.2.2)
def putX (xs : List NE) (k : NestedKey) (b : Addr) (v : V) : List NE := if (valN xs k).isSome then xs.map (fun x => if x.1 = k then (x.1, x.2.1, v) else x) else xs ++ [(k, b, v)]
theorem putX_len (xs : List NE) (k : NestedKey) (b : Addr) (v : V) : (putX xs k b v).length ≤ xs.length + 1 := by
  unfold putX
  split
  · rw [List.length_map]; omega
  · rw [List.length_append]; exact Nat.le_refl _
theorem putX_keys {H : Hp} {xs : List NE} {k : NestedKey} {b : Addr} {v : V} (h : KeysOk H xs) (hk : KeyAt H k (.ref b)) (hd : k.depth ≤ 8) : KeysOk H (putX xs k b v) := fun p hp => by
  unfold putX at hp
  split at hp
  · obtain ⟨q, hq, rfl⟩ := List.mem_map.mp hp
    have := h q hq
    split
    · exact this
    · exact this
  · rcases List.mem_append.mp hp with z | z
    · exact h p z
    · cases List.mem_singleton.mp z
      exact ⟨hk, hd⟩
theorem PairN.val {xs : List NE} {ys : List (NestedKey × Addr × Value)} (r : PairN xs ys) (k : NestedKey) : RelO (valN xs k) ((atKey ys k).map (·.2)) := by
  induction r with
  | nil => exact True.intro
  | @cons p q l m h t ih =>
    obtain ⟨h1, h2, h3⟩ := h
    unfold valN atKey
    rw [List.find?_cons, List.find?_cons, ← h1]
    cases e : decide (p.1 = k) with
    | true => exact h3
    | false => exact ih
theorem PairN.len {xs : List NE} {ys : List (NestedKey × Addr × Value)} (r : PairN xs ys) : xs.length = ys.length := Paired.length r
theorem PairN.keys {xs : List NE} {ys : List (NestedKey × Addr × Value)} (r : PairN xs ys) : ys.map (·.1) = xs.map (·.1) := by
  induction r with
  | nil => rfl
  | cons h t ih => rw [List.map_cons, List.map_cons, ih, h.1]
theorem PairN.map {xs : List NE} {ys : List (NestedKey × Addr × Value)} (r : PairN xs ys) (k : NestedKey) {v : V} {u : Value} (rv : RelV v u) : PairN (xs.map fun x => if x.1 = k then (x.1, x.2.1, v) else x) (ys.map (putAt k u)) := by
  induction r with
  | nil => exact .nil
  | @cons p q l m h t ih =>
    refine .cons ?_ ih
    obtain ⟨h1, h2, h3⟩ := h
    unfold putAt
    dsimp only
    by_cases e : p.1 = k
    · rw [if_pos e, if_pos (h1 ▸ e)]
      exact ⟨h1, h2, rv⟩
    · rw [if_neg e, if_neg (h1 ▸ e)]
      exact ⟨h1, h2, h3⟩
theorem PairN.app {xs xs' : List NE} {ys ys' : List (NestedKey × Addr × Value)} (r : PairN xs ys) (r' : PairN xs' ys') : PairN (xs ++ xs') (ys ++ ys') := by
  induction r with
  | nil => exact r'
  | cons h t ih => exact .cons h ih
theorem PairN.put {xs : List NE} {ys : List (NestedKey × Addr × Value)} (r : PairN xs ys) (k : NestedKey) (b : Addr) {v : V} {u : Value} (rv : RelV v u) : PairN (putX xs k b v) (storedH ys k b u) := by
  unfold putX storedH
  have e := (r.val k).isSome_eq
  rw [Option.isSome_map] at e
  rw [e]
  split
  · exact r.map k rv
  · exact r.app (.cons ⟨rfl, rfl, rv⟩ .nil)
section
variable {X : Cx} {pins : List (Addr × Obj)} {σ : L2.St} {H : Hp} {s : Shared} {a b : Addr} {xs : List NE} {k : NestedKey} {A : Around} {E : Value → Shared → Prop} {u r : Value} {v : V}
theorem dn_of {P : Program} {w : World} {h : Heap} (ok : HOk P w H h) (e : H a = some (DN w a xs)) (hk : KeysOk H xs) : xs.length ≤ sizeLine ∧ (a == sysModules) = false ∧ ∃ ys, PairN xs ys ∧ h.DictOfH (nestedKind P w) a ys := by
  obtain ⟨⟨h1, h2, ys, r, o, es, ep, h3, h4, h5, h6, h7⟩, _, _⟩ := ok a _ e
  refine ⟨h2, h1, ys, r, o, es, ep, h3, h4, h5, h6, fun y hy => ?_, h7⟩
  have go : ∀ {xs : List NE} {ys : List (NestedKey × Addr × Value)}, PairN xs ys → (∀ p ∈ xs, KeyAt H p.1 (.ref p.2.1) ∧ p.1.depth ≤ 8) → ∀ y ∈ ys, NestedIs h y.1 (.ref y.2.1) ∧ y.1.depth ≤ 8 := by
    intro xs ys r
    induction r with
    | nil => exact fun _ y hy => nomatch hy
    | @cons p q l m h t ih =>
      intro hk y hy
      rcases List.mem_cons.mp hy with rfl | hy
      · obtain ⟨k1, k2⟩ := hk p List.mem_cons_self
        rw [← h.1, ← h.2.1]
        exact ⟨nested_is ok k1 rfl, k2⟩
      · exact ih (fun p hp => hk p (List.mem_cons_of_mem _ hp)) y hy
  exact go r hk y hy
/-- what is at the key y in the dict a -/
def NGet (w : World) (H : Hp) (a : Addr) (y : V) (o : Option V) : Prop := ∃ xs k b, H a = some (DN w a xs) ∧ KeysOk H xs ∧ y = .ref b ∧ KeyAt H k (.ref b) ∧ k.depth ≤ 8 ∧ valN xs k = o
def NPut (w : World) (H : Hp) (a : Addr) (y v : V) (H' : Hp) : Prop := ∃ xs k b, H a = some (DN w a xs) ∧ KeysOk H xs ∧ y = .ref b ∧ KeyAt H k (.ref b) ∧ k.depth ≤ 8 ∧ xs.length < sizeLine ∧ H' = upd H a (DN w a (putX xs k b v))
theorem n_getItem {Q : Value → Shared → Prop} {y : V} (hu : A.units + 9 < cLine) (I : Inv X pins σ H s) (g : NGet X.w H a y (some v)) (ry : RelV y u) (h : ∀ w' s', Inv X pins σ H s' → RelV v w' → Q w' s') : wpAny (model X.prog X.w) A (getItem (.ref a) u) Q E s := by
  obtain ⟨xs, k, b, e, ko, rfl, hk, hd, l⟩ := g
  cases (show u = Value.ref b from ry)
  obtain ⟨z, hs, ys, rel, dd⟩ := dn_of I.hok e ko
  obtain ⟨w', hw, rw'⟩ := RelO.some_of (v := v) (o := (atKey ys k).map (·.2)) (by rw [← l]; exact rel.val k)
  obtain ⟨p, hp, hp2⟩ := Option.map_eq_some_iff.mp hw
  refine wpAny_getItem_heap (knd := nestedKind X.prog X.w) (show A.in1.units + 8 < cLine by show A.units + 1 + 8 < cLine; omega) ⟨nested_is I.hok hk rfl, hd⟩ dd hp ?_
  rw [hp2]
  exact h w' _ (I.tok _) rw'
theorem n_in {Q : Value → Shared → Prop} {y : V} {o : Option V} (hu : A.units + 9 < cLine) (I : Inv X pins σ H s) (g : NGet X.w H a y o) (ry : RelV y u) (h : ∀ s', Inv X pins σ H s' → Q (.bool o.isSome) s') : wpAny (model X.prog X.w) A (compareOp .In u (.ref a)) Q E s := by
  obtain ⟨xs, k, b, e, ko, rfl, hk, hd, l⟩ := g
  cases (show u = Value.ref b from ry)
  obtain ⟨z, hs, ys, rel, dd⟩ := dn_of I.hok e ko
  refine wpAny_in_heap (knd := nestedKind X.prog X.w) (show A.in1.units + 8 < cLine by show A.units + 1 + 8 < cLine; omega) ⟨nested_is I.hok hk rfl, hd⟩ hs dd ?_
  have q := (rel.val k).isSome_eq
  rw [Option.isSome_map] at q
  rw [← q, l]
  exact h _ (I.tok _)
theorem n_notIn {Q : Value → Shared → Prop} {y : V} {o : Option V} (hu : A.units + 9 < cLine) (I : Inv X pins σ H s) (g : NGet X.w H a y o) (ry : RelV y u) (h : ∀ s', Inv X pins σ H s' → Q (.bool (!o.isSome)) s') : wpAny (model X.prog X.w) A (compareOp .NotIn u (.ref a)) Q E s := by
  obtain ⟨xs, k, b, e, ko, rfl, hk, hd, l⟩ := g
  cases (show u = Value.ref b from ry)
  obtain ⟨z, hs, ys, rel, dd⟩ := dn_of I.hok e ko
  refine wpAny_notIn_heap (knd := nestedKind X.prog X.w) (show A.in1.units + 8 < cLine by show A.units + 1 + 8 < cLine; omega) ⟨nested_is I.hok hk rfl, hd⟩ hs dd ?_
  have q := (rel.val k).isSome_eq
  rw [Option.isSome_map] at q
  rw [← q, l]
  exact h _ (I.tok _)
theorem dn_new {P : Program} {w : World} {H' : Hp} {h' : Heap} {ys : List (NestedKey × Addr × Value)} (z : xs.length ≤ sizeLine) (hs : (a == sysModules) = false) (rel : PairN xs ys) (dd : h'.DictOfH (nestedKind P w) a ys) : ObjOk P w H' h' a (DN w a xs) := by
  obtain ⟨o, es, ep, h3, h4, h5, h6, _, h7⟩ := dd
  refine ⟨⟨hs, z, ys, rel, o, es, ep, h3, h4, h5, h6, h7⟩, ⟨o, h3⟩, fun h1 h2 ⟨k1, k2, ys, k3, o, es, ep, k4, k5⟩ st => ⟨k1, k2, ys, k3, o, es, ep, st _ k4, k5⟩⟩
theorem n_setItem {Q : Unit → Shared → Prop} {y : V} {H' : Hp} (hu : A.units + 9 < cLine) (I : Inv X pins σ H s) (g : NPut X.w H a y v H') (ry : RelV y u) (rv : RelV v r) (h : ∀ s', Inv X pins σ H' s' → Q () s') : wpAny (model X.prog X.w) A (setItem (.ref a) u r) Q E s := by
  obtain ⟨xs, k, b, e, ko, rfl, hk, hd, l, eH⟩ := g
  subst eH
  cases (show u = Value.ref b from ry)
  obtain ⟨z, hs, ys, rel, dd⟩ := dn_of I.hok e ko
  have hz : ys.length ≤ sizeLine := by rw [← rel.len]; exact z
  refine wpAny_setItem_heap (knd := nestedKind X.prog X.w) (hsz := hz) (show A.in1.units + 8 < cLine by show A.units + 1 + 8 < cLine; omega) ⟨nested_is I.hok hk rfl, hd⟩ dd fun h' dd' hs' => h _ ?_
  have he : ∃ q, h'.get? a = some q := let ⟨q, _, _, hq, _⟩ := dd'; ⟨q, hq⟩
  exact d_write I (by rw [e]; exact True.intro) hs' he (dn_new (by have := putX_len xs k b v; omega) hs (rel.put k b rv) dd')
end
/-! ### words for them -/
def tNGet (w : World) (td ty : TE) : TE := fun σ H Q => td σ H fun x H1 => ty σ H1 fun y H2 => ∃ a v, x = .ref a ∧ NGet w H2 a y (some v) ∧ Q v H2
def rNIn (w : World) (neg : Bool) : R2 := fun y x H Q => ∃ a o, x = .ref a ∧ NGet w H a y o ∧ Q (.bl (o.isSome != neg)) H
def sNPut (w : World) (td ty tv : TE) : TS := fun D σ H => tv σ H fun v H1 => td σ H1 fun x H2 => ty σ H2 fun y H3 => ∃ a H4, x = .ref a ∧ NPut w H3 a y v H4 ∧ D.nx σ H4
def tNNew (w : World) : TE := fun _ H Q => ∀ p, H p = none → Q (.ref p) (upd H p (DN w p []))
def tN1 (w : World) (tk tv : TE) : TE := fun σ H Q => ∀ p, H p = none → tk σ (upd H p (DN w p [])) fun y H1 => tv σ H1 fun v H2 => H2 p = some (DN w p []) ∧ ∃ k b, y = .ref b ∧ KeyAt H2 k (.ref b) ∧ k.depth ≤ 8 ∧ Q (.ref p) (upd H2 p (DN w p [(k, b, v)]))
section
variable {X : Cx} {o i e value : Expr} {pos pos' tpos : Pos} {td ty tv : TE}
theorem ngt_type {pins : List (Addr × Obj)} {σ : L2.St} {H : Hp} {s : Shared} {a : Addr} {y : V} {q : Option V} (I : Inv X pins σ H s) (g : NGet X.w H a y q) : s.TypeIs (.ref a) "dict" := by
  obtain ⟨xs, k, b, e, ko, rfl, hk, hd, l⟩ := g
  obtain ⟨_, _, _, _, dd⟩ := dn_of I.hok e ko
  exact dd.typeIs
theorem pe_nget (hu : X.A.units + 9 < cLine) (ho : PE X o td) (hi : PE X i ty) (hs : NoSl i) : PE X (.Subscript o i pos) (tNGet X.w td ty) := by
  refine ⟨fun pins s σ H Q I h => ?_⟩
  refine subD_of PySem.F.slot_dict_getitem.lookup hs (thn (ho.run pins s σ H _ I h) fun u s1 ⟨x, H1, I1, rx, q1⟩ => thn (hi.run pins s1 σ H1 _ I1 q1) fun iv s2 ⟨y, H2, I2, ry, a, v, ex, g, q2⟩ => ?_)
  subst ex
  cases (show u = Value.ref a from rx)
  exact ⟨ngt_type I2 g, n_getItem hu I2 g ry fun w' s3 I3 rw' => ⟨v, H2, I3, rw', q2⟩⟩
theorem op_inN (hu : X.A.units + 9 < cLine) : OpR X (compareOp .In) (rNIn X.w false) := fun pins s σ H y x u v Q I ry rx ⟨a, o, ex, g, q⟩ => by
  subst ex
  cases (show v = Value.ref a from rx)
  exact n_in hu I g ry fun s3 I3 => ⟨.bl o.isSome, H, I3, rfl, by simpa using q⟩
theorem op_notInN (hu : X.A.units + 9 < cLine) : OpR X (compareOp .NotIn) (rNIn X.w true) := fun pins s σ H y x u v Q I ry rx ⟨a, o, ex, g, q⟩ => by
  subst ex
  cases (show v = Value.ref a from rx)
  exact n_notIn hu I g ry fun s3 I3 => ⟨.bl (!o.isSome), H, I3, rfl, by simpa using q⟩
theorem ps_nput (hu : X.A.units + 9 < cLine) (ho : PE X o td) (hi : PE X i ty) (hv : PE X value tv) (hs : swapsWith value (some (.Subscript o i pos')) pos.line X.env = pure false) : PS X (.Assign [.Subscript o i pos'] value pos) (sNPut X.w td ty tv) := by
  refine ⟨fun pins s σ H D I h => ?_⟩
  refine wpAny_Assign_Subscript (thn (hv.run pins s σ H _ I h) fun r s1 ⟨v, H1, I1, rv, q1⟩ => thn (ho.run pins s1 σ H1 _ I1 q1) fun u s2 ⟨x, H2, I2, rx, q2⟩ => thn (hi.run pins s2 σ H2 _ I2 q2) fun iv s3 ⟨y, H3, I3, ry, a, H4, ex, g, q3⟩ => ?_) hs
  subst ex
  cases (show u = Value.ref a from rx)
  exact n_setItem hu I3 g ry rv fun s4 I4 => ⟨σ, H4, I4, q3⟩
theorem dn_empty {P : Program} {w : World} {H : Hp} (h : Heap) (hb : sysModules < h.objs.size) : ObjOk P w H (h.push { cls := .type "dict", data := .dict #[] }) h.objs.size (DN w h.objs.size []) :=
  dn_new (P := P) (Nat.zero_le _) (by simpa using Nat.ne_of_gt hb) .nil (Heap.DictOfH.new h)
theorem pe_nnew : PE X (.Dict [] [] pos) (tNNew X.w) := ⟨fun pins s σ H Q I h =>
  wpAny_Dict_empty ⟨.ref s.heap.objs.size, _, I.laid (a := s.heap.objs.size) (o := DN X.w s.heap.objs.size []) (t' := s.toks) (fun _ _ q => Heap.get?_push_of_some _ q) (Nat.le_refl _) (dn_empty s.heap I.big), rfl, h _ (I.hok.fresh (Nat.le_refl _))⟩⟩
theorem pe_n1 {ke : Expr} (hu : X.A.units + 9 < cLine) (hk : PE X ke ty) (hv : PE X value tv) : PE X (.Dict [some ke] [value] pos) (tN1 X.w ty tv) := by
  refine ⟨fun pins s σ H Q I h => ?_⟩
  have hn := I.hok.fresh (Nat.le_refl s.heap.objs.size)
  have I1 := I.laid (a := s.heap.objs.size) (o := DN X.w s.heap.objs.size []) (h' := s.heap.push { cls := .type "dict", data := .dict #[] }) (t' := s.toks) (fun _ _ q => Heap.get?_push_of_some _ q) (Nat.le_refl _) (dn_empty s.heap I.big)
  rw [arm_eval_Dict, zip_pairTrees [some ke] [value] X.env pos rfl rfl, dictDisplay_pairs (pairTrees [some ke] [value] X.env pos) (by simp [pairTrees]) (by simp [pairTrees])]
  refine wpAny_bind (wpAny_standAt (wpAny_bind (wpAny_subDictH (knd := nestedKind X.prog X.w) (show X.A.units + 8 < cLine by omega) (by simp [pairTrees]) ?_)))
  refine pairTrees_cons_walk (thn (hk.run pins _ σ _ _ I1 (h _ hn)) fun kv s2 ⟨y, H2, I2, ry, q2⟩ => thn (hv.run pins s2 σ H2 _ I2 q2) fun vv s3 ⟨v, H3, I3, rv, e, k, b, ey, ka, kd, q3⟩ => pairTrees_nil_walk ?_)
  subst ey
  cases (show kv = Value.ref b from ry)
  obtain ⟨z, hs, ys, rel, dd⟩ := dn_of I3.hok e (fun p hp => nomatch hp)
  cases rel
  refine ⟨[(k, b, vv)], ⟨rfl, rfl, ⟨nested_is I3.hok ka rfl, kd⟩, True.intro⟩, dd, fun h' tk dk hsb => wpAny_pure ⟨.ref s.heap.objs.size, _, ?_, rfl, q3⟩⟩
  have he : ∃ q, h'.get? s.heap.objs.size = some q := let ⟨q, _, _, hq, _⟩ := dk; ⟨q, hq⟩
  exact d_write I3 (by rw [e]; exact True.intro) hsb he (dn_new (P := X.prog) (by rw [sizeLine_eq]; show 1 ≤ 16777216; decide) hs (.cons ⟨rfl, rfl, rv⟩ .nil) dk)
end
/-! ### lifted -/
def keyB : D → Bool
  | .tup ds => match keysOf ds with
    | some ks => decide ((NestedKey.tup ks).depth ≤ 8)
    | none => false
  | _ => false
theorem keyB_some {d : D} (h : keyB d = true) : ∃ k, keyOf d = some k ∧ k.depth ≤ 8 ∧ ∃ ds, d = .tup ds := by
  cases d with
  | tup ds =>
    unfold keyB at h
    dsimp only at h
    cases e : keysOf ds with
    | none => rw [e] at h; cases h
    | some ks =>
      rw [e] at h
      exact ⟨.tup ks, by unfold keyOf; rw [e]; rfl, of_decide_eq_true h, ds, rfl⟩
  | _ => cases h
def getN (kvs : List (D × D)) (d : D) : Option D := (kvs.find? fun kv => decide (keyOf kv.1 = keyOf d)).map (·.2)
def putN (kvs : List (D × D)) (d e : D) : List (D × D) := if (getN kvs d).isSome then kvs.map (fun kv => if keyOf kv.1 = keyOf d then (kv.1, e) else kv) else kvs ++ [(d, e)]
section
variable {K : PySem.W.Frag} {F H : Hp} {ds : List (D × D)} {xs : List NE} {w : World}
theorem RepN.keys (r : RepN K F ds xs) (l : Le F H) : KeysOk H xs := by
  induction r with
  | nil => exact fun p hp => nomatch hp
  | cons hk dp rk rv _ ih =>
    intro p hp
    rcases List.mem_cons.mp hp with rfl | hp
    · exact ⟨key_at l hk rk, dp⟩
    · exact ih p hp
theorem RepN.val (r : RepN K F ds xs) {d : D} {k : NestedKey} (hk : keyOf d = some k) : (getN ds d = none → valN xs k = none) ∧ ∀ e, getN ds d = some e → ∃ x, valN xs k = some x ∧ Rep K F e x := by
  induction r with
  | nil => exact ⟨fun _ => rfl, fun e h => nomatch h⟩
  | @cons d' e' k' b x ds xs hk' dp rk rv _ ih =>
    unfold getN valN at ih ⊢
    rw [List.find?_cons, List.find?_cons]
    dsimp only
    have eq : decide (keyOf d' = keyOf d) = decide (k' = k) := by
      rw [hk', hk]
      simp
    rw [eq]
    cases decide (k' = k) with
    | true =>
      refine ⟨fun h => ?_, fun e h => ?_⟩
      · cases h
      · cases h
        exact ⟨x, rfl, rv⟩
    | false => exact ih
theorem RepN.len (r : RepN K F ds xs) : ds.length = xs.length := by
  induction r with
  | nil => rfl
  | cons _ _ _ _ _ ih => rw [List.length_cons, List.length_cons, ih]
theorem RepN.app {ds' : List (D × D)} {xs' : List NE} (r : RepN K F ds xs) (r' : RepN K F ds' xs') : RepN K F (ds ++ ds') (xs ++ xs') := by
  induction r with
  | nil => exact r'
  | cons a b c d _ ih => exact .cons a b c d ih
theorem RepN.put (r : RepN K F ds xs) {d e : D} {k : NestedKey} {b : Addr} {x : V} (hk : keyOf d = some k) (dp : k.depth ≤ 8) (rk : Rep K F d (.ref b)) (rv : Rep K F e x) : RepN K F (putN ds d e) (putX xs k b x) := by
  obtain ⟨h1, h2⟩ := r.val hk
  unfold putN putX
  cases g : getN ds d with
  | none =>
    rw [h1 g]
    exact r.app (.cons hk dp rk rv .nil)
  | some e0 =>
    obtain ⟨x0, h3, _⟩ := h2 e0 g
    rw [h3]
    show RepN K F (ds.map _) (xs.map _)
    clear h1 h2 g h3
    induction r with
    | nil => exact .nil
    | @cons d' e' k' b' x' ds xs hk' dp' rk' rv' _ ih =>
      rw [List.map_cons, List.map_cons]
      dsimp only
      by_cases q : k' = k
      · rw [if_pos (by rw [hk', hk, q]), if_pos q]
        exact .cons hk' dp' rk' rv ih
      · rw [if_neg (by rw [hk', hk]; simpa using q), if_neg q]
        exact .cons hk' dp' rk' rv' ih
end
def zNGet (w : World) (zd zk : ZE) : ZE := fun δ M Q => zd δ M fun x M1 => zk δ M1 fun d M2 => match x with | .v (.ref a) => ∃ kvs v, M2 a = some (.dN w a kvs) ∧ keyB d = true ∧ getN kvs d = some v ∧ Q v M2 | _ => False
def zNIn (w : World) (neg : Bool) : ZR2 := fun d x M Q => match x with | .v (.ref a) => ∃ kvs, M a = some (.dN w a kvs) ∧ keyB d = true ∧ Q (.v (.bl ((getN kvs d).isSome != neg))) M | _ => False
def zNPut (w : World) (zd zk zv : ZE) : ZS := fun D δ M => zv δ M fun v M1 => zd δ M1 fun x M2 => zk δ M2 fun d M3 => match x with
  | .v (.ref a) => ∃ kvs, M3 a = some (.dN w a kvs) ∧ keyB d = true ∧ kvs.length < sizeLine ∧ D.nx δ (mput M3 a (.dN w a (putN kvs d v))) | _ => False
def zNNew (w : World) : ZE := fun δ M Q => ∀ p, M p = none → Q (.v (.ref p)) (mput M p (.dN w p []))
def zN1 (w : World) (zk zv : ZE) : ZE := fun δ M Q => ∀ p, M p = none → zk δ (mput M p (.dN w p [])) fun d M1 => zv δ M1 fun e M2 => M2 p = some (.dN w p []) ∧ keyB d = true ∧ Q (.v (.ref p)) (mput M2 p (.dN w p [(d, e)]))
section
variable {K : PySem.W.Frag} {w0 : W3} {t u tv : TE} {z zk zv : ZE} {w : World}
theorem dn_rep {v : W3} {a : Addr} {kvs : List (D × D)} (s : Ok K v) (h : v.M a = some (.dN w a kvs)) : ∃ xs, v.H a = some (DN w a xs) ∧ RepN K v.F kvs xs ∧ KeysOk v.H xs := by
  obtain ⟨o, e1, e2⟩ := s.mu _ _ h
  cases e2 with
  | @dN _ _ _ xs r => exact ⟨xs, e1, r, r.keys s.sub⟩
theorem tup_ref {F : Hp} {ds : List D} {x : V} (r : Rep K F (.tup ds) x) : ∃ b, x = .ref b := by
  cases r
  exact ⟨_, rfl⟩
theorem le_nget (h1 : LE K w0 t z) (h2 : LE K w0 u zk) : LE K w0 (tNGet w t u) (zNGet w z zk) := fun v σ δ Qz Q l s rs c h =>
  h1 v σ δ _ _ l s rs (fun u1 d x l1 s1 r1 h3 => h2 u1 σ δ _ _ (l.tr l1) s1 (rs.le l1.le) (fun u2 e y l2 s2 r2 h4 => by
    split at h4
    · rename_i a
      obtain ⟨kvs, v', e1, kb, g, q⟩ := h4
      obtain ⟨xs, e2, rn, ko⟩ := dn_rep s2 e1
      obtain ⟨k, hk, hd, ds, rfl⟩ := keyB_some kb
      obtain ⟨b, rfl⟩ := tup_ref r2
      obtain ⟨y', g2, ry⟩ := (rn.val hk).2 _ g
      exact ⟨a, y', r1.v_inv, ⟨xs, k, b, e2, ko, rfl, key_at s2.sub hk r2, hd, g2⟩, (c.le (l1.tr l2)).go s2 ry q⟩
    · exact h4.elim) h3) h
theorem lr_nin {neg : Bool} : LR2 K (rNIn w neg) (zNIn w neg) := fun v x y d e Qz Q s rx ry c h => by
  unfold zNIn at h
  split at h
  · rename_i a
    obtain ⟨kvs, e1, kb, q⟩ := h
    obtain ⟨xs, e2, rn, ko⟩ := dn_rep s e1
    obtain ⟨k, hk, hd, ds, rfl⟩ := keyB_some kb
    obtain ⟨b, rfl⟩ := tup_ref rx
    refine ⟨a, valN xs k, ry.v_inv, ⟨xs, k, b, e2, ko, rfl, key_at s.sub hk rx, hd, rfl⟩, c.go s (.v _) ?_⟩
    have : (valN xs k).isSome = (getN kvs (.tup ds)).isSome := by
      cases g : getN kvs (.tup ds) with
      | none => rw [(rn.val hk).1 g]; rfl
      | some e0 => obtain ⟨x0, h3, _⟩ := (rn.val hk).2 e0 g; rw [h3]; rfl
    rw [this]
    exact q
  · exact h.elim
theorem ls_nput (h0 : LE K w0 tv zv) (h1 : LE K w0 t z) (h2 : LE K w0 u zk) : LS K w0 (sNPut w t u tv) (zNPut w z zk zv) := fun v σ δ Dz D l s rs c h =>
  h0 v σ δ _ _ l s rs (fun u0 e0 x0 l0 s0 r0 h3 => h1 u0 σ δ _ _ (l.tr l0) s0 (rs.le l0.le) (fun u1 d x l1 s1 r1 h3 => h2 u1 σ δ _ _ (l.tr (l0.tr l1)) s1 (rs.le (l0.tr l1).le) (fun u2 e y l2 s2 r2 h4 => by
    split at h4
    · rename_i a
      obtain ⟨kvs, e1, kb, hlen, q⟩ := h4
      obtain ⟨xs, e2, rn, ko⟩ := dn_rep s2 e1
      obtain ⟨k, hk, hd, ds, rfl⟩ := keyB_some kb
      obtain ⟨b, rfl⟩ := tup_ref r2
      have lw : Nx u2 ⟨u2.F, mput u2.M a (.dN w a (putN kvs (.tup ds) e0)), upd u2.H a (DN w a (putX xs k b x0))⟩ := nx_write e1
      refine ⟨a, _, r1.v_inv, ⟨xs, k, b, e2, ko, rfl, key_at s2.sub hk r2, hd, by rw [← rn.len]; exact hlen, rfl⟩, c.nx ⟨u2.F, mput u2.M a (.dN w a (putN kvs (.tup ds) e0)), upd u2.H a (DN w a (putX xs k b x0))⟩ δ σ ((l0.tr (l1.tr l2)).tr lw) ?_ (rs.le ((l0.tr (l1.tr l2)).tr lw).le) q⟩
      exact Sim.write s2 e1 (.dN (rn.put hk hd r2 (r0.le (l1.tr l2).le)))
    · exact h4.elim) h3) h3) h
theorem le_nnew : LE K w0 (tNNew w) (zNNew w) := fun v σ δ Qz Q l s rs c h => fun p hp => c.alloc s hp (.dN .nil) (h p (s.nM hp))
theorem le_n1 (h1 : LE K w0 t z) (h2 : LE K w0 u zv) : LE K w0 (tN1 w t u) (zN1 w z zv) := fun v σ δ Qz Q l s rs c h => fun p hp => by
  have la : Nx v ⟨v.F, mput v.M p (.dN w p []), upd v.H p (DN w p [])⟩ := nx_alloc s hp
  have sa : Ok K ⟨v.F, mput v.M p (.dN w p []), upd v.H p (DN w p [])⟩ := Sim.alloc s hp (.dN .nil)
  refine h1 ⟨v.F, mput v.M p (.dN w p []), upd v.H p (DN w p [])⟩ σ δ _ _ (l.tr la) sa (rs.le la.le) (fun u1 d x l1 s1 r1 h3 => h2 u1 σ δ _ _ (l.tr (la.tr l1)) s1 (rs.le (la.tr l1).le) (fun u2 e y l2 s2 r2 ⟨e1, kb, q⟩ => ?_) h3) (h p (s.nM hp))
  obtain ⟨xs, e2, rn, ko⟩ := dn_rep s2 e1
  cases rn
  obtain ⟨k, hk, hd, ds, rfl⟩ := keyB_some kb
  have r1' := r1.le l2.le
  obtain ⟨b, rfl⟩ := tup_ref r1'
  refine ⟨e2, k, b, rfl, key_at s2.sub hk r1', hd, ?_⟩
  have lw : Nx u2 ⟨u2.F, mput u2.M p (.dN w p [(.tup ds, e)]), upd u2.H p (DN w p [(k, b, y)])⟩ := nx_write e1
  exact c ⟨u2.F, mput u2.M p (.dN w p [(.tup ds, e)]), upd u2.H p (DN w p [(k, b, y)])⟩ _ _ (la.tr (l1.tr (l2.tr lw))) (Sim.write s2 e1 (.dN (.cons hk hd r1' r2 .nil))) (.v _) q
end
end Zl
namespace Zl
open PySem PySem.Spec PyProof.Rows L2 LamX

/-! ### a tuple taken apart while an exception is handled -/
section
open HotX
variable {prog : Program} {w : World} {A : Around} {E : Value → Shared → Prop} {s : Shared}
theorem tup_end_hot {it t x1 : Addr} {i : Nat} {items : Array Value} {Q : Option Value → Shared → Prop} (hot : HotAt A x1 s.heap) (hit : IsTupIter s.heap it t i) (ht : IsTup s.heap t items) (hx : items[i]? = none)
    (hQ : ∀ h', Heap.ExtBut it s.heap h' → Q none { s with heap := h' }) (ne : x1 ≠ it) : wpAny (model prog w) A (pyNext (.ref it)) Q E s := by
  obtain ⟨hh, o1, vs1, h1, d1, c1⟩ := hot
  obtain ⟨o, ho, hc, hd⟩ := id hit
  obtain ⟨ol, hol, _, nl, hdl⟩ := ht
  unfold pyNext
  apply wpAny_bind
  refine wpAny_attempt (wpAny_callSpecial?_slot (name := Str.ofString "__next__") hit.typeIs slot_tupleiter_next (wpAny_call_entry slot_tupleiter_next hit.typeIs entry_tupleiter_next ?_ (args_tupleiter_next _)))
  show wpAny _ _ (field (.ref it) 0 >>= _) _ _ s
  apply wpAny_bind
  refine wpAny_field ho hd (x := .ref t) rfl ?_
  show wpAny _ _ (if (Value.ref t == Value.none) = true then _ else _) _ _ s
  rw [if_neg (fun z : (Value.ref t == Value.none) = true => Bool.false_ne_true z)]
  show wpAny _ _ (field (.ref it) 1 >>= _) _ _ s
  apply wpAny_bind
  refine wpAny_field ho hd (x := .int i 0) rfl ?_
  show wpAny _ _ (seqItems? (.ref t) >>= _) _ _ s
  apply wpAny_bind
  refine wpAny_seqItems hol hdl ?_
  simp only [Int.toNat_natCast, hx]
  apply wpAny_bind
  apply wpAny_rule
  apply wpAny_bind
  refine wpAny_setField ho hd (by simp) ?_
  have u1 : (s.heap.update it (Obj.mapFields (·.setIfInBounds 0 .none))).get? x1 = some o1 := by
    rw [Heap.get?_update_other _ _ ne.symm]
    exact h1
  show wpAny _ _ (newExc (.type "StopIteration") [] >>= _) _ _ _
  apply wpAny_bind
  simp only [newExc, newTuple]
  apply wpAny_bind
  refine wpAny_newObj_type ?_ (by size_fits)
  refine wpAny_bind (m := firstArgMember _ _) (wpAny_of_eq (a := Value.none) (by first | rfl | (simp only [firstArgMember]; rfl)) ?_)
  refine wpAny_newObj_type ?_ (by size_fits)
  have u2 := Heap.get?_push_of_some { cls := .type "tuple", data := .seq #[] } u1
  refine raiseNew_hot ⟨hh, o1, vs1, Heap.get?_push_of_some _ (Heap.get?_push_of_some _ u1), d1, c1⟩ (Nat.ne_of_lt (Heap.lt_size (Heap.get?_push_of_some _ u1))) (Heap.get?_push_size _ rfl) rfl
    (by first | (simp; done) | (simp; omega) | (simp only [Array.size_append]; simp; omega)) ?_
  refine wpAny_bind (wpAny_isInstance (T := "StopIteration") (b := true) ⟨_, Heap.get?_update_self _ (Heap.get?_push_size _ rfl) rfl, rfl⟩ isSubtype_stop ?_)
  refine wpAny_pure (hQ _ fun b o nb e => ?_)
  have e1 : (s.heap.update it (Obj.mapFields (·.setIfInBounds 0 .none))).get? b = some o := by
    rw [Heap.get?_update_other _ _ (Ne.symm nb)]
    exact e
  rw [Heap.get?_update_other _ _ (Nat.ne_of_gt (Heap.lt_size (Heap.get?_push_of_some _ e1)))]
  exact Heap.get?_push_of_some _ (Heap.get?_push_of_some _ e1)
theorem unpack_hot {t x1 : Addr} {items : Array Value} {targets : List (Bool × (Value → Sem Unit))} {Q : Unit → Shared → Prop} (hot : HotAt A x1 s.heap) (ht : IsTup s.heap t items)
    (hn : targets.length = items.size) (hstar : targets.findIdx? (·.1) = none)
    (h : ∀ h', Heap.ExtBut s.heap.objs.size s.heap h' → wpAny (model prog w) A (assignInOrder (targets.map (·.2)) items.toList) Q E { s with heap := h' }) : wpAny (model prog w) A (unpack (.ref t) targets) Q E s := by
  have hlt : t ≠ s.heap.objs.size := by obtain ⟨o, ho, _⟩ := ht; exact Nat.ne_of_lt (Heap.lt_size ho)
  obtain ⟨hh, o1, vs1, h1, d1, c1⟩ := hot
  have xlt : x1 ≠ s.heap.objs.size := Nat.ne_of_lt (Heap.lt_size h1)
  unfold unpack
  rw [hn, hstar]
  apply wpAny_bind
  apply wpAny_holding
  unfold unpackItems
  apply wpAny_bind
  unfold notIterableAtAll
  refine wpAny_bind (wpAny_specialOf ht.typeIs slot_tuple_iter.lookup (wpAny_pure ?_))
  simp only [Bool.false_eq_true, if_false]
  refine wpAny_bind (wpAny_holding (iter_tuple ht ?_))
  refine wpAny_bind (wpAny_holding (draw_tuple hlt items.size 0 _ _ ⟨_, Heap.get?_push_size _ rfl, rfl, rfl⟩ (ht.push _) (by omega) fun h₁ hit₁ hs₁ => ?_))
  have hall : List.take items.size (List.drop 0 items.toList) = items.toList := by
    rw [List.drop_zero]
    exact List.take_of_length_le (by simp)
  rw [hall, if_neg (by simp)]
  have k1 : h₁.get? x1 = some o1 := hs₁.extBut x1 o1 xlt (Heap.get?_push_of_some _ h1)
  refine wpAny_bind (wpAny_holding (tup_end_hot ⟨hh, o1, vs1, k1, d1, c1⟩ hit₁ ((ht.push _).extBut hs₁.extBut hlt) (by simp) (fun h₂ he₂ => ?_) xlt))
  simp only [Option.isSome_none, Bool.false_eq_true, if_false]
  exact wpAny_pure (h h₂ fun b o hb e => he₂ b o hb (hs₁.extBut b o hb (Heap.get?_push_of_some _ e)))
end
/-- the context bears a handled exception whose context is None -/
theorem hot_suite {X : Cx} {a : Addr} {oe : Obj} {cls : Value} {d : Option Addr} {pn : List (Addr × Obj)} (hz : L2N.Zn cls d oe) (hf : ∃ vs, oe.data = .fields vs) : L2H.HotC (X.suite a ((a, oe) :: pn)) := by
  obtain ⟨vs, e⟩ := hf
  exact ⟨(a, oe), ⟨rfl, vs, e, hz.2.2 vs e⟩, List.mem_cons_self⟩
theorem hot_in {Y : Cx} {a : Addr} {oe : Obj} {cls : Value} {d : Option Addr} (hz : L2N.Zn cls d oe) (hf : ∃ vs, oe.data = .fields vs) (hA : Y.A.handled = some (.ref a)) (hp : (a, oe) ∈ Y.pn) : L2H.HotC Y := by
  obtain ⟨vs, e⟩ := hf
  exact ⟨(a, oe), ⟨hA, vs, e, hz.2.2 vs e⟩, hp⟩
theorem pg_tupH {X : Cx} {es : List Expr} {k : Nat} {t : TGs} {n : Nat} {pos : Pos} (hc : L2H.HotC X) (h : PGs X es t) (hn : (assignEach es X.env).length = n := by rfl) (hst : (assignEach es X.env).findIdx? (·.1) = none := by rfl) :
    PG X (.Tuple es k pos) (gTup X.K n t) := by
  constructor
  rintro pins s σ H v u Q I r ⟨a, xs, rfl, hq, hl, hw⟩
  cases r
  obtain ⟨its, rv, ht, hz⟩ := I.tuple hq
  obtain ⟨x1, hot⟩ := hc.at I
  rw [assign_Tuple]
  refine wpAny_bind (wpAny_standAt (unpack_hot hot ht (by simp [hn, ← hl, rv.length]) hst fun h' hx => ?_))
  have J : Inv X pins σ H { s with heap := h' } := I.kept (t' := s.toks) fun b o e => hx b o (Nat.ne_of_lt (Heap.lt_size e)) e
  exact h.run pins _ σ H xs _ Q J (by simpa using rv) hw
theorem room9 {k : Nat} {A : Around} (r : Room k A) : A.units + 9 < cLine := by have := r.un; omega
/-! ### isinstance of what is caught, whatever its class -/
def rIsXg (K : PySem.W.Frag) (cls : Value) (a : Addr) (d : Option Addr) : List V → Hp → VK → Prop := fun xs H Q => ∃ D, cls = .ref D ∧ XcC K D ∧ rIsX K D a d xs H Q
theorem call_isXg {X : Cx} {a : Addr} {oe : Obj} {cls : Value} {d : Option Addr} {pn : List (Addr × Obj)} (hz : L2N.Zn cls d oe) (hf : ∃ vs, oe.data = .fields vs) : CallR (X.suite a ((a, oe) :: pn)) (.builtin "isinstance") (rIsXg X.K cls a d) := by
  intro pins s σ H xs us Q I r ⟨D, e, C, hh⟩
  subst e
  exact call_isX C hz.zc hf pins s σ H xs us Q I r hh
def zIsXg (K : PySem.W.Frag) (C a : Addr) : ZRA := fun ds M Q => XcC K C ∧ zIsX K C a ds M Q
theorem u_isXg {K : PySem.W.Frag} {C a b : Addr} {d : D} {M : MS} {Q : ZQ} : zIsXg K C a [.v (.ref b), d] M Q = (XcC K C ∧ b = a ∧ ∃ u k, clD d = some u ∧ PySem.W.kitOne K (.ref C) u = some k ∧ Q (.v (.bl k)) M) := rfl
section
variable {K : PySem.W.Frag} {w0 : W3}
theorem le_isXg {a C : Addr} {d : Option Addr} {fs : List (Str × Zl.D)} {aa : TA} {za : ZA} (rx : XRep K w0.F d fs) (h1 : LA K w0 aa za) : LE K w0 (tCB (rIsXg K (.ref C) a d) aa) (zCB (zIsXg K C a) za) := fun w σ δ Qz Q l s rs c h =>
  h1 w σ δ _ _ l s rs (fun u ds xs lu su r ⟨h2, h3⟩ => by
    unfold zIsX at h3
    split at h3
    · obtain ⟨rfl, v, k, e1, e2, q⟩ := h3
      cases r with
      | cons r1 r => cases r with
        | cons r2 r =>
          cases r
          refine ⟨C, rfl, h2, _, v, k, by rw [r1.v_inv], clD_rep r2 e1, e2, ?_, (c.le lu).go su (.v _) q⟩
          cases rx with
          | none => exact .inl rfl
          | some hF rF => exact .inr ⟨_, _, rfl, su.sub _ _ ((l.tr lu).le _ _ hF)⟩
    · exact h3.elim) h
/-! ### pop(0) -/
def zPopAt : D → ZRA := fun d es M Q => match d, es with
  | .v (.ref a), [.v (.int i)] => ∃ ds e, i = 0 ∧ M a = some (.lst (e :: ds)) ∧ Q e (mput M a (.lst ds))
  | _, _ => False
theorem lrm_popAt : LRM K rPopAt zPopAt := fun w x xs d ds Qz Q s rx r c h => by
  unfold zPopAt at h
  split at h
  · rename_i a i
    obtain ⟨fs, e, rfl, e1, q⟩ := h
    obtain ⟨o, e2, e3⟩ := s.mu _ _ e1
    cases e3 with
    | lst r' =>
      cases r with
      | cons r0 r =>
        cases r
        cases r' with
        | @cons _ y _ ys ry r' =>
          refine ⟨a, y :: ys, 0, 0, y, rx.v_inv, by rw [r0.v_inv], e2, by decide, by decide, ?_, rfl, c ⟨w.F, mput w.M a (.lst fs), upd w.H a (.lst ys)⟩ _ _ (nx_write e1) (Sim.write s e1 (.lst r')) ry q⟩
          unfold seqIndex?
          simp
  · exact h.elim
end
/-! ### words for the walk -/
section
variable {w : World} {δ : ZSt} {M : MS} {Q : ZQ} {D1 : ZEnds} {z zk zv : ZE} {zd : ZE}
def nGetZ (w : World) (x d : D) (M : MS) (Q : ZQ) : Prop := match x with | .v (.ref a) => ∃ kvs v, M a = some (.dN w a kvs) ∧ keyB d = true ∧ getN kvs d = some v ∧ Q v M | _ => False
theorem u_nget : zNGet w zd zk δ M Q = zd δ M fun x M1 => zk δ M1 fun d M2 => nGetZ w x d M2 Q := rfl
theorem e_nget {a : Addr} {d : D} : nGetZ w (.v (.ref a)) d M Q = ∃ kvs, M a = some (.dN w a kvs) ∧ keyB d = true ∧ ∃ v, getN kvs d = some v ∧ Q v M := by
  show (∃ kvs v, M a = some (.dN w a kvs) ∧ keyB d = true ∧ getN kvs d = some v ∧ Q v M) = _
  simp only [exists_and_left]
theorem e_nin {a : Addr} {d : D} {neg : Bool} : zNIn w neg d (.v (.ref a)) M Q = ∃ kvs, M a = some (.dN w a kvs) ∧ keyB d = true ∧ Q (.v (.bl ((getN kvs d).isSome != neg))) M := rfl
def nPutZ (w : World) (x d v : D) (M : MS) (Qn : MS → Prop) : Prop := match x with | .v (.ref a) => ∃ kvs, M a = some (.dN w a kvs) ∧ keyB d = true ∧ kvs.length < sizeLine ∧ Qn (mput M a (.dN w a (putN kvs d v))) | _ => False
theorem u_nput : zNPut w zd zk zv D1 δ M = zv δ M fun v M1 => zd δ M1 fun x M2 => zk δ M2 fun d M3 => nPutZ w x d v M3 (D1.nx δ) := rfl
theorem e_nput {a : Addr} {d v : D} {Qn : MS → Prop} : nPutZ w (.v (.ref a)) d v M Qn = ∃ kvs, M a = some (.dN w a kvs) ∧ keyB d = true ∧ kvs.length < sizeLine ∧ Qn (mput M a (.dN w a (putN kvs d v))) := rfl
theorem u_nnew : zNNew w δ M Q = ∀ p, M p = none → Q (.v (.ref p)) (mput M p (.dN w p [])) := rfl
theorem u_n1 : zN1 w zk zv δ M Q = ∀ p, M p = none → zk δ (mput M p (.dN w p [])) fun d M1 => zv δ M1 fun e M2 => M2 p = some (.dN w p []) ∧ keyB d = true ∧ Q (.v (.ref p)) (mput M2 p (.dN w p [(d, e)])) := rfl
theorem u_lamW {P : Addr} {q : Str} {zw : ZWd} {zl : ZX → ZE} : zLamW P q zw zl δ M Q = (M P = some (.tbl q) ∧ zw (fun E M' Q' => zl E δ M' Q') M Q) := rfl
theorem u_act {f : Addr} {za : ZX → MS → ZQ → Prop} {Wz : ZW} : zAct f za Wz δ M Q = (δ[0]? = some (some (.v (.ref f))) ∧ za (fun C gs M' => Wz C gs δ M') M Q) := rfl
theorem e_popAt {a : Addr} {i : Int} : zPopAt (.v (.ref a)) [.v (.int i)] M Q = ∃ ds, ∃ e, i = 0 ∧ M a = some (.lst (e :: ds)) ∧ Q e (mput M a (.lst ds)) := rfl
end
/-! ### keys of whole numbers -/
abbrev kI (i : Int) : D := .v (.int i)
theorem keyB_2 {i j : Int} : keyB (.tup [.v (.int i), .v (.int j)]) = true := id (Eq.refl true)
theorem keyOf_2 {i j : Int} : keyOf (.tup [.v (.int i), .v (.int j)]) = some (.tup [.num i, .num j]) := rfl
theorem getN_nil {d : D} : getN [] d = none := rfl
theorem putN_len {kvs : List (D × D)} {d e : D} : (putN kvs d e).length ≤ kvs.length + 1 := by
  unfold putN
  split
  · rw [List.length_map]; omega
  · rw [List.length_append]; exact Nat.le_refl _
theorem putN_new {kvs : List (D × D)} {d e : D} (h : getN kvs d = none) : putN kvs d e = kvs ++ [(d, e)] := by
  unfold putN
  rw [h]
  rfl
theorem getN_app {kvs : List (D × D)} {d e c : D} : getN (kvs ++ [(d, e)]) c = (getN kvs c).or (if keyOf d = keyOf c then some e else none) := by
  unfold getN
  rw [List.find?_append]
  cases h : kvs.find? (fun kv => decide (keyOf kv.1 = keyOf c)) with
  | some p => rfl
  | none =>
    rw [List.find?_cons]
    dsimp only
    by_cases q : keyOf d = keyOf c
    · rw [decide_eq_true q, if_pos q]
      rfl
    · rw [decide_eq_false q, if_neg q]
      rfl
/-! ### lists that may change; while; what is kept -/
section
variable {M : MS} {Q : ZQ} {δ : ZSt}
theorem e_lenM {a : Addr} : zLen [.v (.ref a)] M Q = ∃ n, lenD M (.v (.ref a)) = some n ∧ Q (.v (.int (n : Nat))) M := rfl
theorem lenD_lst {a : Addr} {ds : List D} (h : M a = some (.lst ds)) : lenD M (.v (.ref a)) = some ds.length := by
  unfold lenD seqOf
  simp only [h]
theorem e_tupM {a : Addr} : zTuple [.v (.ref a)] M Q = ∃ es, seqOf M (.v (.ref a)) = some es ∧ Q (.tup es) M := rfl
theorem seqOf_lst {a : Addr} {ds : List D} (h : M a = some (.lst ds)) : seqOf M (.v (.ref a)) = some ds := by
  unfold seqOf
  simp only [h]
theorem u_bm {r : D → ZRA} {ze : ZE} {za : ZA} : zBM r ze za δ M Q = ze δ M fun d M1 => (∃ a ds, d = .v (.ref a) ∧ M1 a = some (.lst ds)) ∧ za δ M1 fun es M2 => r d es M2 Q := rfl
theorem u_bm0 {r : D → ZRA} {ze : ZE} : zBM0 r ze δ M Q = ze δ M fun d M1 => (∃ a ds, d = .v (.ref a) ∧ M1 a = some (.lst ds)) ∧ r d [] M1 Q := rfl
theorem e_append {a : Addr} {e : D} : zAppend (.v (.ref a)) [e] M Q = ∃ ds, M a = some (.lst ds) ∧ ds.length < sizeLine ∧ Q (.v .non) (mput M a (.lst (ds ++ [e]))) := rfl
theorem e_extend {a : Addr} {fs : List D} : zExtend (.v (.ref a)) [.lst fs] M Q = ∃ ds, M a = some (.lst ds) ∧ ds.length + fs.length ≤ sizeLine ∧ Q (.v .non) (mput M a (.lst (ds ++ fs))) := rfl
theorem e_pop {a : Addr} : zPop (.v (.ref a)) [] M Q = ∃ ds, ∃ e, M a = some (.lst (ds ++ [e])) ∧ Q e (mput M a (.lst ds)) := rfl
theorem e_min2 {i j : Int} : zMin2 [.v (.int i), .v (.int j)] M Q = Q (.v (.int (if j < i then j else i))) M := rfl
theorem e_max2 {i j : Int} : zMax2 [.v (.int i), .v (.int j)] M Q = Q (.v (.int (if j > i then j else i))) M := rfl
theorem zwhile {c : ZT} {z : ZS} {D : ZEnds} (W : Nat → ZSt → MS → Prop) (h0 : ∃ m, W m δ M) (hs : ∀ (m : Nat) (δ : ZSt) (M : MS) (k : ZSt → MS → Prop), W m δ M → (∀ δ M m', m' < m → W m' δ M → k δ M) →
    c δ M fun b M1 => if b = true then z { D with nx := k, ct := k, bk := D.nx } δ M1 else D.nx δ M1) : zWhile c z D δ M :=
  ⟨W, h0, fun m δ M hw => hs m δ M _ hw fun δ M m' l h => ⟨m', l, h⟩⟩
end
/-- what may change stands as it was, apart from what is new -/
def Kp (M M' : MS) : Prop := ∀ a m, M a = some m → M' a = some m
theorem Kp.rf (M : MS) : Kp M M := fun _ _ h => h
theorem Kp.tr {M M1 M2 : MS} (a : Kp M M1) (b : Kp M1 M2) : Kp M M2 := fun x m h => b x m (a x m h)
theorem Kp.put {M M' : MS} {p : Addr} {o : MO} (a : Kp M M') (h : M p = none) : Kp M (mput M' p o) := fun x m e => by
  rw [mput_ne (fun q => by rw [q, h] at e; cases e)]
  exact a x m e
/-- the same with the hand at h drawn from -/
def Hk (h : Addr) (M M' : MS) : Prop := Hd M' h ∧ ∀ a m, a ≠ h → M a = some m → M' a = some m
theorem Hx.k {h : Addr} {M M' : MS} (x : Hx h M M') : Hk h M M' := ⟨x.1, fun a m n e => by rw [x.2 a n]; exact e⟩
theorem Hk.rf {h : Addr} {M : MS} (k : Hd M h) : Hk h M M := ⟨k, fun _ _ _ e => e⟩
theorem Hk.tr {h : Addr} {M M1 M2 : MS} (a : Hk h M M1) (b : Hk h M1 M2) : Hk h M M2 := ⟨b.1, fun x m n e => b.2 x m n (a.2 x m n e)⟩
theorem Kp.hd {M M' : MS} {h : Addr} (a : Kp M M') (k : Hd M h) : Hd M' h := by
  obtain ⟨c, l, dg, m, n, e, r⟩ := k
  exact ⟨c, l, dg, m, n, a _ _ e, r⟩
theorem Kp.hk {M M' : MS} {h : Addr} (a : Kp M M') (k : Hd M h) : Hk h M M' := ⟨a.hd k, fun x m _ e => a x m e⟩
theorem Hd.put_ne {M : MS} {h p : Addr} {o : MO} (k : Hd M h) (n : p ≠ h) : Hd (mput M p o) h := by
  obtain ⟨c, l, dg, m, n', e, r⟩ := k
  exact ⟨c, l, dg, m, n', by rw [mput_ne (Ne.symm n)]; exact e, r⟩
theorem Hd.ne {M : MS} {h p : Addr} (k : Hd M h) (n : M p = none) : p ≠ h := fun q => by
  obtain ⟨c, l, dg, m, n', e, r⟩ := k
  rw [q, e] at n
  cases n
theorem Hk.put {h p : Addr} {M M' : MS} {o : MO} (a : Hk h M M') (n : M p = none) (nh : p ≠ h) : Hk h M (mput M' p o) := ⟨a.1.put_ne nh, fun x m nx e => by
  rw [mput_ne (fun q => by rw [q, n] at e; cases e)]
  exact a.2 x m nx e⟩
/-! ### a list taken apart -/
def zgUnl (n : Nat) (gs : ZGs) : ZG := fun d δ M Qn => match d with | .lst ds => ds.length = n ∧ gs ds δ M Qn | _ => False
theorem e_gunl {n : Nat} {gs : ZGs} {ds : List D} {δ : ZSt} {M : MS} {Qn : ZSt → MS → Prop} : zgUnl n gs (.lst ds) δ M Qn = (ds.length = n ∧ gs ds δ M Qn) := rfl
theorem lg_unl {K : PySem.W.Frag} {w0 : W3} {n : Nat} {gs : TGs} {gzs : ZGs} (h1 : LGs K w0 gs gzs) : LG K w0 (gUnl K n gs) (zgUnl n gzs) := fun w σ δ x d Nz N l s rs r c h => by
  cases d with
  | lst ds =>
    obtain ⟨a, xs, rfl, q, r'⟩ := r.lst_inv
    exact ⟨a, xs, rfl, sqL_le s.sub (SqL.of q), by rw [← r'.len]; exact h.1, h1 w σ δ xs ds Nz N l s rs r' c h.2⟩
  | _ => exact h.elim
/-! ### plain data, flags too, by depth -/
inductive Pd : Nat → D → Prop
  | non {n : Nat} : Pd n (.v .non)
  | bl {n : Nat} {b : Bool} : Pd n (.v (.bl b))
  | int {n : Nat} {i : Int} : Pd n (.v (.int i))
  | str {n : Nat} {x : Str} (h : PyData.strOk x = true) : Pd n (.v (.str x))
  | tup {n : Nat} {ds : List D} (hl : ds.length ≤ 16777216) (h : ∀ d ∈ ds, Pd n d) : Pd (n + 1) (.tup ds)
  | lst {n : Nat} {ds : List D} (hl : ds.length ≤ 16777216) (h : ∀ d ∈ ds, Pd n d) : Pd (n + 1) (.lst ds)
theorem Pd.mono {n m : Nat} {d : D} (h : Pd n d) (l : n ≤ m) : Pd m d := by
  induction h generalizing m with
  | non => exact .non
  | bl => exact .bl
  | int => exact .int
  | str h => exact .str h
  | tup hl h ih =>
    cases m with
    | zero => omega
    | succ m => exact .tup hl fun d hd => ih d hd (by omega)
  | lst hl h ih =>
    cases m with
    | zero => omega
    | succ m => exact .lst hl fun d hd => ih d hd (by omega)
theorem Pl.pd {n : Nat} {d : D} (h : Pl n d) : Pd n d := by
  induction h with
  | non => exact .non
  | int => exact .int
  | str h => exact .str h
  | tup hl h ih => exact .tup hl ih
  | lst hl h ih => exact .lst hl ih
theorem pd_row {n : Nat} {xs : List Int} (h : xs.length ≤ 16777216) : Pd (n + 1) (rowD xs) := (pl_row h).pd
section
variable {M : MS} {Q : ZQ} {d e : D}
theorem e_neS (h1 : nb d = true) (hd : dpD d ≤ 64) : zNe d d M Q ↔ Q (.v (.bl false)) M := by
  unfold zNe
  rw [(eqD_iff h1 h1).mpr rfl]
  exact ⟨fun h => h.2.2, fun h => ⟨nb_ok h1 hd, nb_ok h1 hd, h⟩⟩
theorem e_neF (h1 : nb d = true) (h2 : nb e = true) (hd : dpD d ≤ 64) (he : dpD e ≤ 64) (ne : d ≠ e) : zNe d e M Q ↔ Q (.v (.bl true)) M := by
  unfold zNe
  have q : eqD d e = false := by
    cases hh : eqD d e with
    | false => rfl
    | true => exact absurd ((eqD_iff h1 h2).mp hh) ne
  rw [q]
  exact ⟨fun h => h.2.2, fun h => ⟨nb_ok h1 hd, nb_ok h2 he, h⟩⟩
end
end Zl
namespace Zl
open PySem PySem.Spec PyProof.Rows L2 HotX

/-! ### list comprehensions while an exception is handled -/
section
variable {prog : Program} {w : World} {A : Around} {E : Value → Shared → Prop} {s : Shared}
theorem lst_end_hot {it l x1 : Addr} {i : Nat} {items : Array Value} {Q : Option Value → Shared → Prop} (hot : HotAt A x1 s.heap) (hit : s.heap.IsListIter it l i) (hl : s.heap.IsList l items) (hx : items[i]? = none)
    (hQ : ∀ h', Heap.ExtBut it s.heap h' → Q none { s with heap := h' }) (ne : x1 ≠ it) : wpAny (model prog w) A (pyNext (.ref it)) Q E s := by
  obtain ⟨hh, o1, vs1, h1, d1, c1⟩ := hot
  obtain ⟨o, ho, hc, hd⟩ := id hit
  obtain ⟨ol, hol, _, nl, hdl⟩ := hl
  unfold pyNext
  apply wpAny_bind
  refine wpAny_attempt (wpAny_callSpecial?_slot (name := Str.ofString "__next__") hit.typeIs slot_listiter_next (wpAny_call_entry slot_listiter_next hit.typeIs entry_listiter_next ?_ (args_listiter_next _)))
  show wpAny _ _ (field (.ref it) 0 >>= _) _ _ s
  apply wpAny_bind
  refine wpAny_field ho hd (x := .ref l) rfl ?_
  show wpAny _ _ (if (Value.ref l == Value.none) = true then _ else _) _ _ s
  rw [if_neg (fun z : (Value.ref l == Value.none) = true => Bool.false_ne_true z)]
  show wpAny _ _ (field (.ref it) 1 >>= _) _ _ s
  apply wpAny_bind
  refine wpAny_field ho hd (x := .int i 0) rfl ?_
  show wpAny _ _ (seqItems? (.ref l) >>= _) _ _ s
  apply wpAny_bind
  refine wpAny_seqItems hol hdl ?_
  simp only [Int.toNat_natCast, hx]
  apply wpAny_bind
  apply wpAny_rule
  apply wpAny_bind
  refine wpAny_setField ho hd (by simp) ?_
  have u1 : (s.heap.update it (Obj.mapFields (·.setIfInBounds 0 .none))).get? x1 = some o1 := by
    rw [Heap.get?_update_other _ _ ne.symm]
    exact h1
  show wpAny _ _ (newExc (.type "StopIteration") [] >>= _) _ _ _
  apply wpAny_bind
  simp only [newExc, newTuple]
  apply wpAny_bind
  refine wpAny_newObj_type ?_ (by size_fits)
  refine wpAny_bind (m := firstArgMember _ _) (wpAny_of_eq (a := Value.none) (by first | rfl | (simp only [firstArgMember]; rfl)) ?_)
  refine wpAny_newObj_type ?_ (by size_fits)
  refine raiseNew_hot ⟨hh, o1, vs1, Heap.get?_push_of_some _ (Heap.get?_push_of_some _ u1), d1, c1⟩ (Nat.ne_of_lt (Heap.lt_size (Heap.get?_push_of_some _ u1))) (Heap.get?_push_size _ rfl) rfl
    (by first | (simp; done) | (simp; omega) | (simp only [Array.size_append]; simp; omega)) ?_
  refine wpAny_bind (wpAny_isInstance (T := "StopIteration") (b := true) ⟨_, Heap.get?_update_self _ (Heap.get?_push_size _ rfl) rfl, rfl⟩ isSubtype_stop ?_)
  refine wpAny_pure (hQ _ fun b o nb e => ?_)
  have e1 : (s.heap.update it (Obj.mapFields (·.setIfInBounds 0 .none))).get? b = some o := by
    rw [Heap.get?_update_other _ _ (Ne.symm nb)]
    exact e
  rw [Heap.get?_update_other _ _ (Nat.ne_of_gt (Heap.lt_size (Heap.get?_push_of_some _ e1)))]
  exact Heap.get?_push_of_some _ (Heap.get?_push_of_some _ e1)
end
/-- the block's context, the handled exception pinned -/
abbrev blkH (X : Cx) (p : Addr × Obj) (s : Shared) (H : Hp) (scope : Scope) (cenv : Env) (fp : List Addr) : Cx := (X.blk s H scope cenv fp).tr [p] fun _ _ => False
theorem addF {α : Type} {t : Sem α} {Q Q' : α → Shared → Prop} {M : Model} {A : Around} {E : Value → Shared → Prop} {s : Shared} (h : wpAny M A t Q (fun _ _ => False) s) (hQ : ∀ a s, Q a s → Q' a s) : wpAny M A t Q' E s := wpAny_mono h hQ fun _ _ z => z.elim
/-- a list walked -/
def iLst (K : PySem.W.Frag) (te : TE) : TI := fun σ H R => te σ H fun x H1 => ∃ a, x = .ref a ∧ (∃ xs, SqL K H1 a xs) ∧ R (Itl K a) H1
section
variable {X : Cx} {p : Addr × Obj}
theorem lcH_core {pins : List (Addr × Obj)} {s : Shared} {σ : L2.St} {H : Hp} {Q : VK} {elt tg iter : Expr} {ifs : List Expr} {scope : Scope} {own : List (Str × Nat)} {pos pos' : Pos} {ti : TE} {g : TG} {tt : TT} {te : TE} {use : Option (Value → Sem Unit)} {Qf : Value → Shared → Prop}
    (hot : L2H.Hot1 X.A p) (hpn : p ∈ X.pn) (hN : X.N.Nodup) (I : Inv X pins σ H s) (hi : PE X iter ti) (ok : BlkOk X.N X.env.scope scope own)
    (hg : ∀ (s : Shared) (H : Hp) (C : Addr) (cl : List (Str × Addr)) (fp : List Addr), PG (blkH X p s H scope (compEnvC scope cl C X.env) fp) tg g)
    (ht : ∀ (s : Shared) (H : Hp) (C : Addr) (cl : List (Str × Addr)) (fp : List Addr), PTs (blkH X p s H scope (compEnvC scope cl C X.env) fp) ifs tt)
    (he : ∀ (s : Shared) (H : Hp) (C : Addr) (cl : List (Str × Addr)) (fp : List Addr), PE (blkH X p s H scope (compEnvC scope cl C X.env) fp) elt te) (hs : ∀ x, foldedSetIterable iter X.env x = pure x)
    (h : tLc (iLst X.K ti) g tt te (own.map (·.2)) σ H Q)
    (hRR : ∀ D C s' m H', Inv X pins σ H' s' → Q (.ref D) H' → s'.heap.Ns C m → FpOk X pins H' C → compPost (model X.prog X.w) X.A X.xe use Qf (.ref D) C (.ok .next) s') :
    wpAny (model X.prog X.w) X.A (comprehension (.ListComp elt [⟨tg, iter, ifs, 0⟩] scope pos) scope X.env pos' (newList []) false (eval iter X.env) use) Qf X.xe s := by
  have cap : ∀ y ∈ scope.names, y.2 = .free → ∃ c, X.env.cells.lookup y.1 = some c := by
    intro y hy e
    rcases ok.free y hy e with k | k
    · exact I.ok.has _ (.inl k)
    · exact I.ok.has _ (.inr k)
  apply wpAny_comprehension_free (use := use) rfl hs (closure_ok cap) ok.kind (fun y hy e => by rw [ok.uniq y hy, e])
  refine thn (hi.run pins s σ H _ I h) ?_
  rintro xv s1 ⟨x, H1, I1, r1, a, rfl, ⟨xs0, hq0⟩, q⟩
  cases r1
  obtain ⟨its0, rv0, l0, _⟩ := I1.list hq0
  refine wpAny_pyIter_list l0.isList ?_
  generalize hit : s1.heap.objs.size = it
  have itn : H1 it = none := I1.hok.fresh (Nat.le_of_eq hit)
  generalize hs2 : ({ s1 with heap := s1.heap.push _ } : Shared) = s2
  have k2 : ∀ b o, s1.heap.get? b = some o → s2.heap.get? b = some o := fun b o e => by
    rw [← hs2]
    exact Heap.get?_push_of_some _ e
  have I2 : Inv X pins σ H1 s2 := by
    rw [← hs2]
    exact I1.kept (t' := s1.toks) fun b o e => Heap.get?_push_of_some _ e
  have t2 : s2.heap.IsListIter it a 0 := by
    rw [← hs2, ← hit]
    exact ⟨_, Heap.get?_push_size _ rfl, rfl, rfl⟩
  have f2 : FpOk X pins H1 it := I1.fpOk (Nat.le_of_eq hit) itn
  refine wpAny_newObj_type (newEnv_comp ?_) (by show 0 ≤ sizeLine; decide)
  generalize hD : s2.heap.objs.size = D
  obtain ⟨W, ⟨m0, w0⟩, turn⟩ := q D (I2.hok.fresh (Nat.le_of_eq hD))
  generalize hs3 : ({ s2 with heap := s2.heap.push { cls := .type "list", data := .seq ([] : List Value).toArray } } : Shared) = s3
  have h3 : s3.heap = s2.heap.push { cls := .type "list", data := .seq ([] : List Value).toArray } := by rw [← hs3]
  have I3 : Inv X pins σ (upd H1 D (.lst [])) s3 := by
    rw [← hs3]
    refine I2.laid (t' := s2.toks) (fun b o e => Heap.get?_push_of_some _ e) (Nat.le_of_eq hD) ⟨Nat.zero_le _, [], 0, .nil, ?_⟩
    rw [← hD]
    exact Heap.get?_push_size _ rfl
  have itlt : it < s2.heap.objs.size := by
    obtain ⟨o, e, _⟩ := t2
    exact Heap.lt_size e
  have f3 : ∀ b ∈ [it], FpOk X pins (upd H1 D (.lst [])) b ∧ b < s3.heap.objs.size := by
    intro b hb
    cases List.mem_singleton.mp hb
    refine ⟨⟨?_, f2.2⟩, by rw [h3, Heap.size_push]; exact Nat.lt_succ_of_lt itlt⟩
    rw [upd_ne (by rw [← hD]; exact Nat.ne_of_lt itlt)]
    exact itn
  have t3 : s3.heap.IsListIter it a 0 := t2.at fun o e => by rw [h3]; exact Heap.get?_push_of_some _ e
  have p3 := I3.pin p (List.mem_append_left _ hpn)
  have plt : p.1 < s3.heap.objs.size := Heap.lt_size p3.1
  have I4 := block_start I3 ok hN f3
  have pg := hg s3 (upd H1 D (.lst [])) s3.heap.objs.size (cellsFrom (s3.heap.objs.size + 1) scope.names (cloFrom X.env.cells scope.names [])) [it]
  have pt := ht s3 (upd H1 D (.lst [])) s3.heap.objs.size (cellsFrom (s3.heap.objs.size + 1) scope.names (cloFrom X.env.cells scope.names [])) [it]
  have pe := he s3 (upd H1 D (.lst [])) s3.heap.objs.size (cellsFrom (s3.heap.objs.size + 1) scope.names (cloFrom X.env.cells scope.names [])) [it]
  show codeAny _ _ (.compStart (.ListComp elt [⟨tg, iter, ifs, 0⟩] scope pos) 0 (.ref it) (.ref D) (compEnvC scope (cellsFrom (s3.heap.objs.size + 1) scope.names (cloFrom X.env.cells scope.names [])) s3.heap.objs.size X.env)) (compPost (model X.prog X.w) X.A X.xe use Qf (.ref D) s3.heap.objs.size) { s3 with heap := pushCells (s3.heap.push { cls := .type "dict", data := .dict #[] }) scope.names }
  generalize hce : compEnvC scope (cellsFrom (s3.heap.objs.size + 1) scope.names (cloFrom X.env.cells scope.names [])) s3.heap.objs.size X.env = ce at I4 pg pt pe ⊢
  have cL : ce.locals = s3.heap.objs.size := by subst hce; rfl
  have n3 : (upd H1 D (.lst [])) it = none := (f3 it (List.mem_singleton.mpr rfl)).1.1
  generalize hH3 : upd H1 D (.lst []) = H3 at I3 I4 pg pt pe w0 n3 f3 p3
  generalize hs4 : ({ s3 with heap := pushCells (s3.heap.push { cls := .type "dict", data := .dict #[] }) scope.names } : Shared) = s4 at I4 ⊢
  have k4 : ∀ b o, s3.heap.get? b = some o → s4.heap.get? b = some o := fun b o e => by
    rw [← hs4]
    exact pushCells_keeps _ _ _ _ (Heap.get?_push_of_some _ e)
  have t4 : s4.heap.IsListIter it a 0 := t3.at fun o e => k4 _ _ e
  -- the exception stands pinned within the block
  have J4 : Inv (blkH X p s3 H3 scope ce [it]) [] (wipe σ (own.map (·.2))) H3 s4 := by
    refine (Inv.pins_of (pins' := [p]) I4 fun q hq => ?_).toTry _
    cases List.mem_singleton.mp hq
    refine ⟨k4 _ _ p3.1, p3.2.1, ?_, fun z => ?_, p3.2.2.2.2⟩
    · show p.1 ≠ ce.locals
      rw [cL]
      exact Nat.ne_of_lt plt
    · exact (List.mem_cons.mp (I3.stkSub _ z)).elim p3.2.2.1 p3.2.2.2.1
  have pit : p.1 ≠ it := (f3 it (List.mem_singleton.mpr rfl)).1.2.2.2.2.2 p (List.mem_append_left _ hpn)
  have stat : ∀ {σ' : L2.St} {H' : Hp} {s' : Shared}, Inv (blkH X p s3 H3 scope ce [it]) [] σ' H' s' → H' it = none → FpOk (blkH X p s3 H3 scope ce [it]) [] H' it := by
    intro σ' H' s' J n
    refine ⟨n, (J.ok.exf it (List.mem_singleton.mpr rfl)).1, J.ok.exfs it (List.mem_singleton.mpr rfl), .inl (List.mem_singleton.mpr rfl), fun x c e => (J.ok.exf it (List.mem_singleton.mpr rfl)).2 x c e, fun q hq => ?_⟩
    rw [List.append_nil] at hq
    cases List.mem_singleton.mp hq
    exact pit
  have hotJ : ∀ {σ' : L2.St} {H' : Hp} {s' : Shared} {pl : List (Addr × Obj)}, Inv (blkH X p s3 H3 scope ce [it]) pl σ' H' s' → HotAt X.A p.1 s'.heap := by
    intro σ' H' s' pl J
    obtain ⟨hh, v1, e1, c1⟩ := hot
    exact ⟨hh, p.2, v1, (J.pin p (List.mem_append_left _ (List.mem_singleton.mpr rfl))).1, e1, c1⟩
  have loop : codeAny (model X.prog X.w) X.A (.compLoop (.ListComp elt [⟨tg, iter, ifs, 0⟩] scope pos) 0 (.ref it) (.ref D) ce) (compPost (model X.prog X.w) X.A X.xe use Qf (.ref D) s3.heap.objs.size) s4 := by
    refine compLoop_any (fun n s' => ∃ i H', Inv (blkH X p s3 H3 scope ce [it]) [] (wipe σ (own.map (·.2))) H' s' ∧ s'.heap.IsListIter it a i ∧ H' it = none ∧ W i n H') ?_ m0 ⟨0, H3, J4, t4, n3, w0⟩
    rintro n s5 ⟨i, H5, J5, t5, n5, w5⟩
    obtain ⟨g0, g1, g2, g3, g4, g5⟩ := stat J5 n5
    rcases turn i n H5 w5 with ⟨⟨xs, hq, hx⟩, qq⟩ | ⟨⟨xs, x, hq, hx⟩, Nx, hNx, step⟩
    · obtain ⟨its, rv, pl, hz⟩ := J5.list hq
      have hl := rv.length
      refine addF (lst_end_hot (hotJ J5) t5 pl.isList (Q := fun r s6 => r = none ∧ Inv (blkH X p s3 H3 scope ce [it]) [] (wipe σ (own.map (·.2))) H5 s6) (by simp; omega) (fun h' eb => ⟨rfl, J5.turned (t' := s5.toks) (fun b o hb e => eb b o hb e) g0 g1 g3 g4 g5⟩) pit) ?_
      rintro r s6 ⟨rfl, J6⟩
      have I7 : Inv X pins σ H5 s6 := by
        refine I3.call' (ch := [it]) J6.os J6.base J6.hok J6.bare fun b hb => ?_
        have z := (f3 b hb).1
        exact ⟨z.2.2.2.1, z.2.1, z.2.2.2.2.1, z.2.2.2.2.2⟩
      have nC : H5 s3.heap.objs.size = none := by
        have z : H5 ce.locals = none := J6.free
        rw [cL] at z
        exact z
      obtain ⟨m, hn, _⟩ := J6.loc
      have hn : s6.heap.Ns ce.locals m := hn
      rw [cL] at hn
      exact hRR D s3.heap.objs.size s6 m H5 I7 qq hn (I3.fpOk (Nat.le_refl _) nC)
    · obtain ⟨its, rv, pl, hz⟩ := J5.list hq
      obtain ⟨u, hu, ru⟩ := rv.get hx
      refine addF (wpAny_pyNext_list_item t5 pl.isList (x := u) (by simpa using hu) (Q := fun r s6 => r = some u ∧ Inv (blkH X p s3 H3 scope ce [it]) [] (wipe σ (own.map (·.2))) H5 s6 ∧ s6.heap.IsListIter it a (i + 1)) fun h' t6 sb => ⟨rfl, J5.turned (t' := s5.toks) (fun b o hb e => (sb.2 b hb).trans e) g0 g1 g3 g4 g5, t6⟩) ?_
      rintro r s6 ⟨rfl, J6, t6⟩
      obtain ⟨oi, ei, ci, di⟩ := id t6
      refine go_of ei ci di (by decide) ?_
      have J6' := J6.pinned (fp := [it]) (fun b hb => by cases List.mem_singleton.mp hb; exact stat J6 n5) (fun b hb => by cases List.mem_singleton.mp hb; exact ⟨oi, ei, fun v z => by rw [di] at z; cases z⟩)
      refine addF (pg.run _ s6 _ H5 x u _ J6' ru (step x H5 ⟨rfl, fun ys hy => by rw [J5.list_inj hy hq]; exact hx⟩)) ?_
      rintro _ s8 ⟨σ8, H8, J8, hw8, q8⟩
      refine addF (pt.run _ s8 σ8 H8 _ J8 q8) ?_
      rintro b s9 ⟨H9, J9, q9⟩
      have fin : ∀ {s' : Shared} {H' : Hp}, Inv (blkH X p s3 H3 scope ce [it]) ([] ++ pinsAt [it] s6.heap) σ8 H' s' → Nx H' →
          ∃ m, m < n ∧ ∃ i H', Inv (blkH X p s3 H3 scope ce [it]) [] (wipe σ (own.map (·.2))) H' s' ∧ s'.heap.IsListIter it a i ∧ H' it = none ∧ W i m H' := by
        intro s' H' J' nx
        obtain ⟨m', hm, w'⟩ := hNx H' nx
        have z := J'.pin (it, oi) (List.mem_append_right _ (List.mem_append_right _ (mem_pinsAt (List.mem_singleton.mpr rfl) ei)))
        have hl : (wipe σ (own.map (·.2))).length = σ8.length := by rw [← hw8, wipe_length]
        refine ⟨m', hm, i + 1, H', (J'.unpinned (pins := [])).weak hl (fun j v e => ?_), ⟨oi, z.1, ci, di⟩, z.2.1, w'⟩
        rw [← hw8] at e
        exact (wipe_some e).1
      cases b with
      | false =>
        simp only [Bool.false_eq_true, if_false] at q9 ⊢
        exact fin J9 q9
      | true =>
        simp only [if_true] at q9 ⊢
        refine addF (pe.run _ s9 σ8 H9 _ J9 q9) ?_
        rintro z s10 ⟨yv, H10, J10, r10, acc, hD10, hz10, nx⟩
        exact app_ok (X := blkH X p s3 H3 scope ce [it]) J10 hD10 hz10 r10 fun s11 J11 => fin J11 nx
  exact codeAny_compStart_list loop (wpAny_pyIter_listiter t4 loop)
/-- name = [..], the name a local, within an except suite -/
theorem ps_setLcH {i : Nat} {y : Str} {py : Pos} {elt tg iter : Expr} {ifs : List Expr} {scope : Scope} {own : List (Str × Nat)} {pos spos : Pos} {ti : TE} {g : TG} {tt : TT} {te : TE}
    (hot : L2H.Hot1 X.A p) (hpn : p ∈ X.pn) (hN : X.N.Nodup) (hy : X.N[i]? = some y) (hyl : X.env.scope.names.lookup y = some .local)
    (hsw : swapsWith (.ListComp elt [⟨tg, iter, ifs, 0⟩] scope pos) (some (.Name y py)) spos.line X.env = pure true) (hi : PE X iter ti) (ok : BlkOk X.N X.env.scope scope own)
    (hg : ∀ (s : Shared) (H : Hp) (C : Addr) (cl : List (Str × Addr)) (fp : List Addr), PG (blkH X p s H scope (compEnvC scope cl C X.env) fp) tg g)
    (ht : ∀ (s : Shared) (H : Hp) (C : Addr) (cl : List (Str × Addr)) (fp : List Addr), PTs (blkH X p s H scope (compEnvC scope cl C X.env) fp) ifs tt)
    (he : ∀ (s : Shared) (H : Hp) (C : Addr) (cl : List (Str × Addr)) (fp : List Addr), PE (blkH X p s H scope (compEnvC scope cl C X.env) fp) elt te) (hs : ∀ x, foldedSetIterable iter X.env x = pure x := by intro _; rfl) :
    PS X (.Assign [.Name y py] (.ListComp elt [⟨tg, iter, ifs, 0⟩] scope pos) spos) (tAsg (tLc (iLst X.K ti) g tt te (own.map (·.2))) (gName i)) := by
  constructor
  intro pins s σ H D I h
  rw [exec_Assign_Name_used _ _ _ _ hsw]
  apply wpAny_bind
  apply wpAny_standAt
  apply wpAny_bind
  show wpAny _ X.A (do let _ ← comprehension (.ListComp elt [⟨tg, iter, ifs, 0⟩] scope pos) scope X.env (firstIterPos [⟨tg, iter, ifs, 0⟩] pos) (newList []) false (eval iter X.env) (some (assign (.Name y py) X.env))) _ _ s
  have h2 : tLc (iLst X.K ti) g tt te (own.map (·.2)) σ H (fun x H1 => gName i x σ H1 D.nx) := h
  refine wpAny_bind (thn (lcH_core (Qf := fun _ s' => SP X pins D .next s') hot hpn hN I hi ok hg ht he hs h2 ?_) fun _ s' hq => wpAny_pure (wpAny_pure hq))
  intro L C s' m H' I' q hn f
  show wpAny _ _ (assign (.Name y py) X.env (.ref L)) _ _ _
  refine wpAny_assign_Name (store_ok2 (v := V.ref L) I' hN hy (.inl hyl) rfl ?_ (.inr hyl))
  rintro s2 I2 ⟨b, sb, ha⟩
  obtain ⟨f0, f1, f2, f3, f4, f5⟩ := f
  have hCb : C ≠ b := by
    rcases ha with z | z
    · rw [z]; exact f1
    · exact fun e => f4 y b z e.symm
  exact ⟨m, hn.sameBut sb hCb, fun h3 sb3 => ⟨_, H', I2.turned (t' := s2.toks) (fun b o hb e => (sb3.2 b hb).trans e) f0 f1 f3 f4 f5, q⟩⟩
end
theorem hot1_of {A : Around} {a : Addr} {oe : Obj} {cls : Value} {d : Option Addr} (hz : L2N.Zn cls d oe) (hf : ∃ vs, oe.data = .fields vs) (hA : A.handled = some (.ref a)) : L2H.Hot1 A (a, oe) := by
  obtain ⟨vs, e⟩ := hf
  exact ⟨hA, vs, e, hz.2.2 vs e⟩
def zLstI (z : ZE) : ZI := fun δ M Q => z δ M fun d M1 => match d with | .lst ds => Q ds M1 | .rd ds => Q ds M1 | _ => False
theorem u_lstI {z : ZE} {δ : ZSt} {M : MS} {QA : List D → MS → Prop} : zLstI z δ M QA = z δ M fun d M1 => match d with | .lst ds => QA ds M1 | .rd ds => QA ds M1 | _ => False := rfl
theorem li_lst {K : PySem.W.Frag} {w0 : W3} {te : TE} {ze : ZE} (h1 : LE K w0 te ze) : LI K w0 (iLst K te) (zLstI ze) := fun w σ δ Qz R l s rs c h =>
  h1 w σ δ _ _ l s rs (fun w1 d x l1 s1 r1 h2 => by
    cases d with
    | lst ds =>
      obtain ⟨a, xs, rfl, q, r⟩ := r1.lst_inv
      exact ⟨a, rfl, ⟨xs, sqL_le s1.sub (SqL.of q)⟩, c w1 _ ds l1 s1 (jok_list (SqL.of q) r) h2⟩
    | rd ds =>
      obtain ⟨a, xs, rfl, q, r⟩ := r1.rd_inv
      exact ⟨a, rfl, ⟨xs, sqL_le s1.sub q⟩, c w1 _ ds l1 s1 (jok_list q r) h2⟩
    | _ => exact h2.elim) h
end Zl
namespace Zl
open PySem PySem.Spec PyProof.Rows L2

/-! ### dicts whose keys are ints and texts -/
def kD : D → Option Key
  | .v (.int i) => some (.inl i)
  | .v (.str x) => some (.inr x)
  | _ => none
def dK : Key → D
  | .inl i => .v (.int i)
  | .inr x => .v (.str x)
def valD (kvs : List (Key × D)) (k : Key) : Option D := (kvs.find? fun kv => decide (kv.1 = k)).map (·.2)
def putKD (kvs : List (Key × D)) (k : Key) (d : D) : List (Key × D) := if (valD kvs k).isSome then kvs.map (fun kv => if kv.1 = k then (kv.1, d) else kv) else kvs ++ [(k, d)]
section
variable {K : PySem.W.Frag} {F : Hp} {kvs : List (Key × D)} {xs : List (Key × V)}
theorem kD_rep {d : D} {x : V} {k : Key} (r : Rep K F d x) (h : kD d = some k) : x = kV k := by
  unfold kD at h
  split at h
  · cases h; exact r.v_inv
  · cases h; exact r.v_inv
  · cases h
theorem dK_rep {k : Key} : Rep K F (dK k) (kV k) := by
  cases k with
  | inl i => exact .v _
  | inr x => exact .v _
theorem RepK.val {k : Key} (r : RepK K F kvs xs) : (valD kvs k = none → valV xs k = none) ∧ ∀ d, valD kvs k = some d → ∃ x, valV xs k = some x ∧ Rep K F d x := by
  induction kvs generalizing xs with
  | nil => cases r; exact ⟨fun _ => rfl, fun d h => nomatch h⟩
  | cons p kvs ih =>
    cases r with
    | @cons k' d x _ xs h r =>
      unfold valD valV at ih ⊢
      rw [List.find?_cons, List.find?_cons]
      dsimp only
      cases decide (k' = k) with
      | true => exact ⟨fun h' => (by cases h'), fun e he => (by cases he; exact ⟨x, rfl, h⟩)⟩
      | false => exact ih r
theorem RepK.valO {k : Key} (r : RepK K F kvs xs) : (valV xs k).isSome = (valD kvs k).isSome := by
  cases e : valD kvs k with
  | none => rw [r.val.1 e]; rfl
  | some d => obtain ⟨x, h, _⟩ := r.val.2 d e; rw [h]; rfl
theorem RepK.app {kvs' : List (Key × D)} {xs' : List (Key × V)} (r : RepK K F kvs xs) (r' : RepK K F kvs' xs') : RepK K F (kvs ++ kvs') (xs ++ xs') := by
  induction kvs generalizing xs with
  | nil => cases r; exact r'
  | cons p kvs ih =>
    cases r with
    | cons h r => exact .cons h (ih r)
theorem RepK.mapPut {k : Key} {d : D} {x : V} (h : Rep K F d x) : ∀ {kvs : List (Key × D)} {xs : List (Key × V)}, RepK K F kvs xs → RepK K F (kvs.map fun kv => if kv.1 = k then (kv.1, d) else kv) (xs.map fun kv => if kv.1 = k then (kv.1, x) else kv)
  | [], _, .nil => .nil
  | _, _, @RepK.cons _ _ k' d' x' kvs xs h' r => by
    rw [List.map_cons, List.map_cons]
    by_cases q : k' = k
    · subst q
      rw [if_pos rfl, if_pos rfl]
      exact .cons h (RepK.mapPut h r)
    · rw [if_neg q, if_neg q]
      exact .cons h' (RepK.mapPut h r)
theorem RepK.put {k : Key} {d : D} {x : V} (r : RepK K F kvs xs) (h : Rep K F d x) : RepK K F (putKD kvs k d) (putK xs k x) := by
  have e1 := r.valO (k := k)
  unfold putKD putK
  rw [valV_any, e1]
  split
  · exact RepK.mapPut h r
  · exact r.app (.cons h .nil)
theorem RepK.get {i : Nat} {k : Key} {v : V} (r : RepK K F kvs xs) (e : xs[i]? = some (k, v)) : ∃ d, kvs[i]? = some (k, d) ∧ Rep K F d v := by
  induction kvs generalizing xs i with
  | nil => cases r; simp at e
  | cons p kvs ih =>
    cases r with
    | @cons k' d' x' _ xs h' r =>
      cases i with
      | zero => simp at e; obtain ⟨rfl, rfl⟩ := e; exact ⟨d', rfl, h'⟩
      | succ i => rw [List.getElem?_cons_succ] at e ⊢; exact ih r e
end
/-- what the dict d is now -/
def dctOf (M : MS) : D → Option (List (Key × D))
  | .dct kvs => some kvs
  | .v (.ref a) => match M a with | some (.dct kvs) => some kvs | _ => none
  | _ => none
theorem dct_rd {K : PySem.W.Frag} {w : W3} {d : D} {x : V} {kvs : List (Key × D)} (s : Ok K w) (r : Rep K w.F d x) (h : dctOf w.M d = some kvs) : ∃ a xs, x = .ref a ∧ Rd w.H a (.dK xs) ∧ RepK K w.F kvs xs := by
  unfold dctOf at h
  split at h
  · cases h
    obtain ⟨a, o, xs, e, q, r⟩ := r.dct_inv
    exact ⟨a, xs, e, .inr ⟨o, s.sub _ _ q⟩, r⟩
  · split at h
    · cases h
      rename_i _ a _ e
      obtain ⟨o, e1, e2⟩ := s.mu _ _ e
      cases e2 with
      | dct r' => exact ⟨a, _, r.v_inv, .inl e1, r'⟩
    · cases h
  · cases h
def zDGet (zd zk : ZE) : ZE := fun δ M Q => zd δ M fun x M1 => zk δ M1 fun d M2 => ∃ kvs k v, dctOf M2 x = some kvs ∧ kD d = some k ∧ valD kvs k = some v ∧ Q v M2
def rDIn (neg : Bool) : R2 := fun y x H Q => ∃ a o, x = .ref a ∧ DGet H a y o ∧ Q (.bl (o.isSome != neg)) H
def zDIn (neg : Bool) : ZR2 := fun d x M Q => ∃ kvs k, dctOf M x = some kvs ∧ kD d = some k ∧ Q (.v (.bl ((valD kvs k).isSome != neg))) M
def zDPut (zd zk zv : ZE) : ZS := fun D δ M => zv δ M fun v M1 => zd δ M1 fun x M2 => zk δ M2 fun d M3 => match x with
  | .v (.ref a) => ∃ kvs k, M3 a = some (.dct kvs) ∧ kD d = some k ∧ kvs.length < sizeLine ∧ D.nx δ (mput M3 a (.dct (putKD kvs k v))) | _ => False
section
variable {X : Cx}
theorem op_inD (hu : X.A.units + 9 < cLine) : OpR X (compareOp .In) (rDIn false) := fun pins s σ H y x u v Q I ry rx ⟨a, o, ex, g, q⟩ => by
  subst ex
  cases (show v = Value.ref a from rx)
  exact d_in (by omega) I g ry fun s3 I3 => ⟨.bl o.isSome, H, I3, rfl, by simpa using q⟩
theorem op_notInD (hu : X.A.units + 9 < cLine) : OpR X (compareOp .NotIn) (rDIn true) := fun pins s σ H y x u v Q I ry rx ⟨a, o, ex, g, q⟩ => by
  subst ex
  cases (show v = Value.ref a from rx)
  exact d_notIn (by omega) I g ry fun s3 I3 => ⟨.bl (!o.isSome), H, I3, rfl, by simpa using q⟩
end
section
variable {K : PySem.W.Frag} {w0 : W3} {t u tv : TE} {z zk zv : ZE}
theorem le_dget (h1 : LE K w0 t z) (h2 : LE K w0 u zk) : LE K w0 (tDGet t u) (zDGet z zk) := fun v σ δ Qz Q l s rs c h =>
  h1 v σ δ _ _ l s rs (fun u1 d x l1 s1 r1 h3 => h2 u1 σ δ _ _ (l.tr l1) s1 (rs.le l1.le) (fun u2 e y l2 s2 r2 ⟨kvs, k, v', e1, ek, e2, q⟩ => by
    obtain ⟨a, xs, ex, hr, rr⟩ := dct_rd s2 (r1.le l2.le) e1
    obtain ⟨y', g2, ry⟩ := rr.val.2 _ e2
    exact ⟨a, y', ex, .inl ⟨xs, k, hr, kD_rep r2 ek, g2.symm⟩, (c.le (l1.tr l2)).go s2 ry q⟩) h3) h
theorem lr_din {neg : Bool} : LR2 K (rDIn neg) (zDIn neg) := fun v x y d e Qz Q s rx ry c ⟨kvs, k, e1, ek, q⟩ => by
  obtain ⟨a, xs, ex, hr, rr⟩ := dct_rd s ry e1
  refine ⟨a, valV xs k, ex, .inl ⟨xs, k, hr, kD_rep rx ek, rfl⟩, c.go s (.v _) ?_⟩
  rw [rr.valO]
  exact q
theorem ls_dput (h0 : LE K w0 tv zv) (h1 : LE K w0 t z) (h2 : LE K w0 u zk) : LS K w0 (sDPut t u tv) (zDPut z zk zv) := fun v σ δ Dz D l s rs c h =>
  h0 v σ δ _ _ l s rs (fun u0 e0 x0 l0 s0 r0 h3 => h1 u0 σ δ _ _ (l.tr l0) s0 (rs.le l0.le) (fun u1 d x l1 s1 r1 h3 => h2 u1 σ δ _ _ (l.tr (l0.tr l1)) s1 (rs.le (l0.tr l1).le) (fun u2 e y l2 s2 r2 h4 => by
    split at h4
    · rename_i a
      obtain ⟨kvs, k, e1, ek, hlen, q⟩ := h4
      obtain ⟨o, e2, e3⟩ := s2.mu _ _ e1
      cases e3 with
      | @dct _ xs rr =>
        have lw : Nx u2 ⟨u2.F, mput u2.M a (.dct (putKD kvs k e0)), upd u2.H a (.dK (putK xs k x0))⟩ := nx_write e1
        refine ⟨a, _, r1.v_inv, .inl ⟨xs, k, e2, kD_rep r2 ek, by rw [← rr.len]; exact hlen, rfl⟩, c.nx ⟨u2.F, mput u2.M a (.dct (putKD kvs k e0)), upd u2.H a (.dK (putK xs k x0))⟩ δ σ ((l0.tr (l1.tr l2)).tr lw) ?_ (rs.le ((l0.tr (l1.tr l2)).tr lw).le) q⟩
        exact Sim.write s2 e1 (.dct (rr.put (r0.le (l1.tr l2).le)))
    · exact h4.elim) h3) h3) h
end
def zSet (z : ZE) : ZE := fun δ M Q => z δ M fun d M1 => match d with
  | .v (.ref a) => ∃ ds, M1 a = some (.lst ds) ∧ Q (.lst ds) (mdel M1 a)
  | _ => False
theorem le_set {K : PySem.W.Frag} {w0 : W3} {t : TE} {z : ZE} (h1 : LE K w0 t z) : LE K w0 t (zSet z) := fun w σ δ Qz Q l s rs c h =>
  h1 w σ δ _ _ l s rs (fun u d x lu su r h2 => by
    split at h2
    · rename_i a
      obtain ⟨ds, e1, q⟩ := h2
      obtain ⟨o, e2, e3⟩ := su.mu _ _ e1
      cases e3 with
      | @lst _ xs rr =>
        obtain ⟨n1, s1⟩ := settled (o' := .lst xs) su e1 e2
        have eH : upd u.H a (.lst xs) = u.H := by
          funext b
          unfold upd
          split
          · rename_i q; rw [q, e2]
          · rfl
        have ex := r.v_inv
        subst ex
        rw [← eH]
        exact c ⟨upd u.F a (.lst xs), mdel u.M a, upd u.H a (.lst xs)⟩ _ _ (lu.tr n1) s1 (.lst upd_same (rr.le n1.le)) q
    · exact h2.elim) h
/-- for k in d, d data -/
def iKeysZ (td : TE) : TI := fun σ H R => td σ H fun x H1 => ∃ d o kvs, x = .ref d ∧ H1 d = some (.frz o (.dK kvs)) ∧ R (Itk d o kvs) H1
theorem pi_keysZ {X : Cx} {tg e : Expr} {td : TE} (he : PE X e td) : PI X tg e (iKeysZ td) := by
  refine ⟨fun pins s σ H R I h => ?_⟩
  refine thn (he.run pins s σ H _ I h) fun u s1 ⟨x, H1, I1, rx, d, o, kvs, ex, hd, q⟩ => ?_
  subst ex
  obtain rfl : u = Value.ref d := rx
  obtain ⟨hs, hgd, hx, es, ep, vs, hdt, hsz, kv, hm⟩ := I1.frzK hd
  refine iter_keys hs hgd hx hdt (pi_one (tk := s1.toks) I1 _ (turn_keys _ hdt) ⟨_, Heap.get?_push_size _ rfl, rfl, ?_⟩ q)
  rw [hsz] <;> rfl
def zKeysI (z : ZE) : ZI := fun δ M Q => z δ M fun d M1 => match d with | .dct kvs => Q (kvs.map fun kv => dK kv.1) M1 | _ => False
theorem li_keysZ {K : PySem.W.Frag} {w0 : W3} {te : TE} {ze : ZE} (h1 : LE K w0 te ze) : LI K w0 (iKeysZ te) (zKeysI ze) := fun w σ δ Qz R l s rs c h =>
  h1 w σ δ _ _ l s rs (fun w1 d x l1 s1 r1 h2 => by
    cases d with
    | dct kvs =>
      obtain ⟨a, o, xs, rfl, q, r⟩ := r1.dct_inv
      have len := r.len
      refine ⟨a, o, xs, rfl, s1.sub _ _ q, c w1 _ _ l1 s1 (fun u lu su => ?_) h2⟩
      have hu := su.sub _ _ (lu.le _ _ q)
      refine ⟨fun i hi => ?_, ⟨hu, by rw [List.length_map]; omega⟩⟩
      rw [List.length_map] at hi
      refine ⟨⟨hu, by omega⟩, fun y H2 ⟨eH, k, v, ek, ey⟩ => ?_⟩
      obtain ⟨d', e1, _⟩ := r.get ek
      refine ⟨u, dK k, eH.symm, rfl, Nx.rf u, su, by rw [List.getElem?_map, e1]; rfl, by rw [ey]; exact dK_rep⟩
    | _ => exact h2.elim) h
end Zl
namespace Zl
open PySem PySem.Spec PyProof.Rows L2 LamX NdefX

/-! ### a def within a def, handed to a class that calls it -/
section
variable {X : Cx} {pins : List (Addr × Obj)} {σ : L2.St} {H : Hp} {s : Shared}
theorem ndef_made {c P : Addr} {name : Str} {params : Arguments} {body : List Stmt} {scope : Scope} {pos : Pos} {E : Value → Shared → Prop} {Q : Value → Shared → Prop} (I : Inv X pins σ H s)
    (TB : TabB X.base X.mg c P) (hcode : X.env.code = .ref c) (hT : TabS H P (X.env.qual ++ name)) (hfree : ∀ y ∈ scope.names, y.2 = .free → ∃ c, X.env.cells.lookup y.1 = some c)
    (h : ∀ (f c' : Addr) (H1 : Hp) (s' : Shared), Inv X pins σ (upd H1 f (FnO f ⟨name, X.env.qual ++ name, params, body, scope, cloFrom X.env.cells scope.names [], c'⟩)) s' → Made P (X.env.qual ++ name) H H1 c' → H1 f = none →
      H1 c' = some (CodeO c' (X.env.qual ++ name)) → Q (.ref f) s') :
    wpAny (model X.prog X.w) X.A (makeFunction name (X.env.qual ++ name) params (.stmts body) scope X.env [] [] [] pos pos.line) Q E s := by
  obtain ⟨ps, hP, ht, ha⟩ := hT
  have bP : s.heap.BuiltinsAt X.mg P := TB.bm.keeps I.bk
  have hP' : s.heap.get? P = some { cls := .none, data := .fields ps } := I.hok P _ hP
  cases hc : codeAmong pos ps.toList with
  | none =>
    refine PySem.W.makeFunction_K (mg := X.mg) (c := c) (P := P) (ps := ps) (closure_ok hfree) I.ok.glob (I.mod.glob.keeps I.bk) hcode (TB.code.keeps I.bk) hP' ht hc TB.gP bP fun c' ctv doc h' tk hx hge hlt hrec htb => ?_
    obtain ⟨c2, oc, vs, t, e2, hoc, hd, hv⟩ := hrec
    cases e2
    have nC : H c' = none := I.hok.fresh hge
    have I1 := inv_table (t' := tk) (more := #[rawInt pos.line, rawInt pos.col, .ref c']) (h' := h') I hP (fun b o hb e => hx b o hb e) htb hge ⟨oc, vs, t, hoc, hd, hv⟩
    have eL : (ps ++ #[rawInt pos.line, rawInt pos.col, .ref c']).toList = ps.toList ++ [rawInt pos.line, rawInt pos.col, .ref c'] := by simp
    have nF := I1.hok.fresh (Nat.le_refl _)
    have I2 := inv_fn (F := ⟨name, X.env.qual ++ name, params, body, scope, cloFrom X.env.cells scope.names [], c'⟩) (t' := tk) (doc := doc) (pm := (X.mg "__name__").getD .none) (ctv := ctv) I1 rfl
    refine h h'.objs.size c' _ _ I2 (.inr ⟨ps, _, hP, nC, rfl, ?_, fun p' cv e => ?_⟩) nF upd_same
    · rw [eL]
      exact PySem.TriplesOk_snoc _ _ _ _ ht
    · rw [eL] at e
      exact among_app _ ht e
  | some cv =>
    obtain ⟨c', e, hco⟩ := ha pos cv hc
    subst e
    refine PySem.W.makeFunction_hit (mg := X.mg) (c := c) (P := P) (ps := ps) (closure_ok hfree) I.ok.glob (I.mod.glob.keeps I.bk) hcode (TB.code.keeps I.bk) hP' ht hc bP fun ctv doc h' tk hx hsz => ?_
    have I1 : Inv X pins σ H { s with heap := h', toks := tk } := I.kept hx
    have nF : H h'.objs.size = none := I1.hok.fresh (Nat.le_refl _)
    have I2 := inv_fn (F := ⟨name, X.env.qual ++ name, params, body, scope, cloFrom X.env.cells scope.names [], c'⟩) (t' := tk) (doc := doc) (pm := (X.mg "__name__").getD .none) (ctv := ctv) I1 rfl
    exact h h'.objs.size c' H _ I2 (.inl ⟨rfl, ps, pos, hP, hc⟩) nF hco
end
def tNd (P : Addr) (q : Str) (i : Nat) (mk : Addr → NF) (T : Addr → Addr → TS) : TS := fun D σ H => TabS H P q ∧ ∀ (H1 : Hp) (c' f : Addr), Made P q H H1 c' → H1 f = none → T f c' D (σ.set i (some (.ref f))) (upd H1 f (FnO f (mk c')))
section
variable {X : Cx}
theorem pss_nd {st : Stmt} {rest : List Stmt} {c P : Addr} {name : Str} {pos : Pos} {i : Nat} {T : Addr → Addr → TS} (hst : st = .FunctionDef name (C8.fnArgs st) (C8.fnBody st) [] none [] (C8.fnScope st) none name pos)
    (TB : TabB X.base X.mg c P) (hcode : X.env.code = .ref c)
    (hfree : ∀ y ∈ (C8.fnScope st).names, y.2 = .free → X.env.scope.names.lookup y.1 = some .cell ∨ X.env.scope.names.lookup y.1 = some .free) (hd0 : (C8.fnArgs st).defaults = []) (hk0 : (C8.fnArgs st).kw_defaults = []) (ha : annTrees (C8.fnArgs st) none X.env = [])
    (hN : X.N.Nodup) (hi : X.N[i]? = some name) (hx : Loc X.env.scope name) (hf : X.fn name = true ∨ X.env.scope.names.lookup name = some .local) (hr : ∀ f c', PSs X rest (T f c')) :
    PSs X (st :: rest) (tNd P (X.env.qual ++ name) i (NF.of st name (X.env.qual ++ name) (cloFrom X.env.cells (C8.fnScope st).names [])) T) := by
  have one : PS X st (fun D σ H => TabS H P (X.env.qual ++ name) ∧ ∀ (H1 : Hp) (c' f : Addr), Made P (X.env.qual ++ name) H H1 c' → H1 f = none → D.nx (σ.set i (some (.ref f))) (upd H1 f (FnO f (NF.of st name (X.env.qual ++ name) (cloFrom X.env.cells (C8.fnScope st).names []) c')))) := by
    rw [hst]
    refine ⟨fun pins s σ H D I h => ?_⟩
    obtain ⟨hT, h⟩ := h
    have hq : qualnameIn X.env name name = X.env.qual ++ name := by
      have hk : X.env.kindOf name = some .local ∨ X.env.kindOf name = some .cell := hx
      unfold qualnameIn
      rcases hk with k | k <;> rw [k] <;> first | rfl | exact if_neg (by decide)
    refine PySem.W.nestDef_K hd0 hk0 ha ?_
    rw [hq]
    have hfr : ∀ y ∈ (C8.fnScope st).names, y.2 = .free → ∃ c, X.env.cells.lookup y.1 = some c := fun y hy e => (hfree y hy e).elim (fun z => I.ok.has _ (.inl z)) fun z => I.ok.has _ (.inr z)
    refine ndef_made I TB hcode hT hfr fun f c' H1 s' I1 mk f0 c1 => ?_
    exact store_ok I1 hN hi hx (v := .ref f) rfl (fun s'' J => ⟨_, _, J, h H1 c' f mk f0⟩) hf
  have two : PSs X rest (fun D σ H => ∃ f c', T f c' D σ H) := ⟨fun pins s σ H D I ⟨f, c', h⟩ => (hr f c').run pins s σ H D I h⟩
  refine ⟨fun pins s σ H D I h => ?_⟩
  exact (pss_cons one two).run pins s σ H D I ⟨h.1, fun H1 c' f mk hf => ⟨f, c', h.2 H1 c' f mk hf⟩⟩
end
def zNd (P : Addr) (q : Str) (i : Nat) (zT : Addr → ZS) : ZS := fun D δ M => M P = some (.tbl q) ∧ ∀ f, M f = none → zT f D (δ.set i (some (.v (.ref f)))) M
section
variable {K : PySem.W.Frag} {w0 : W3}
theorem ls_nd {P : Addr} {q : Str} {i : Nat} {mk : Addr → NF} {T : Addr → Addr → TS} {zT : Addr → ZS}
    (hT : ∀ (w1 : W3) (f c' : Addr), Nx w0 w1 → w1.F f = some (FnO f (mk c')) → w1.F c' = some (CodeO c' q) → LS K w1 (T f c') (zT f)) : LS K w0 (tNd P q i mk T) (zNd P q i zT) := fun w σ δ Dz D l s rs c h => by
  obtain ⟨h1, h2⟩ := h
  obtain ⟨o, e1, e2⟩ := s.mu _ _ h1
  cases e2 with
  | @tbl _ ps tk r =>
    have fP : w.F P = none := by
      cases e : w.F P with
      | none => rfl
      | some o => rw [s.dis _ _ e] at h1; cases h1
    refine ⟨⟨ps, e1, tk, fun pos cv e => let ⟨c0, a, b⟩ := r pos cv e; ⟨c0, a, s.sub _ _ b⟩⟩, fun H1 c' f mkk hf => ?_⟩
    have go : ∀ u : W3, Nx w u → Ok K u → u.F c' = some (CodeO c' q) → u.M = w.M → u.H = H1 → T f c' D (σ.set i (some (.ref f))) (upd H1 f (FnO f (mk c'))) := fun u lu su cu eM eH => by
      subst eH
      have n1 : Nx u ⟨upd u.F f (FnO f (mk c')), u.M, upd u.H f (FnO f (mk c'))⟩ := nx_new su hf
      have s1 : Ok K ⟨upd u.F f (FnO f (mk c')), u.M, upd u.H f (FnO f (mk c'))⟩ := su.freeze hf
      have lw := lu.tr n1
      refine hT ⟨upd u.F f (FnO f (mk c')), u.M, upd u.H f (FnO f (mk c'))⟩ f c' (l.tr lw) upd_same ?_ _ _ _ _ _ (Nx.rf _) s1 ((rs.le lw.le).set (.v _) i) (c.le lw) ?_
      · exact n1.le _ _ cu
      · show zT f Dz _ u.M
        rw [eM]
        refine h2 f ?_
        rw [← eM]
        exact su.nM hf
    rcases mkk with ⟨rfl, ps', pos, a1, a2⟩ | ⟨ps', more, a1, a2, rfl, a3, a4⟩
    · rw [e1] at a1
      cases a1
      obtain ⟨c0, b1, b2⟩ := r pos _ a2
      cases b1
      exact go w (Nx.rf w) s b2 rfl rfl
    · rw [e1] at a1
      cases a1
      have fc := s.nF a2
      have mc := s.nM a2
      refine go ⟨upd w.F c' (CodeO c' q), w.M, upd (upd w.H P (.tbl (ps ++ more))) c' (CodeO c' q)⟩ ⟨Le.put fc, fun a o ea nt na => ?_⟩ ⟨fun a o ea => ?_, fun a o ea => ?_, fun a m ea => ?_⟩ upd_same rfl rfl
      · have n1 : a ≠ c' := fun z => by rw [z, a2] at ea; cases ea
        have n2 : a ≠ P := fun z => by rw [z, e1] at ea; cases ea; exact nt _ rfl
        refine ⟨?_, na, fun f0 => ?_⟩
        · show upd (upd w.H P _) c' _ a = _
          rw [upd_ne n1, upd_ne n2]
          exact ea
        · show upd w.F c' _ a = _
          rw [upd_ne n1]
          exact f0
      · show upd (upd w.H P _) c' _ a = _
        have ea' : upd w.F c' (CodeO c' q) a = some o := ea
        by_cases n1 : a = c'
        · subst n1
          rw [upd_same] at ea' ⊢
          exact ea'
        · rw [upd_ne n1] at ea'
          rw [upd_ne n1, upd_ne (fun z => by rw [z, fP] at ea'; cases ea')]
          exact s.sub _ _ ea'
      · have ea' : upd w.F c' (CodeO c' q) a = some o := ea
        by_cases n1 : a = c'
        · rw [n1]
          exact mc
        · rw [upd_ne n1] at ea'
          exact s.dis _ _ ea'
      · have n1 : a ≠ c' := fun z => by
          have ea' : w.M a = some m := ea
          rw [z, mc] at ea'
          cases ea'
        by_cases n2 : a = P
        · subst n2
          have em : m = .tbl q := by
            have ea' : w.M a = some m := ea
            rw [h1] at ea'
            cases ea'
            rfl
          subst em
          refine ⟨.tbl (ps ++ more), by show upd (upd w.H a _) c' _ a = _; rw [upd_ne n1, upd_same], .tbl a3 fun pos cv e => ?_⟩
          rcases a4 pos cv e with e | e
          · obtain ⟨c0, b1, b2⟩ := r pos cv e
            exact ⟨c0, b1, Le.put fc _ _ b2⟩
          · exact ⟨c', e, upd_same⟩
        · obtain ⟨o, b1, b2⟩ := s.mu _ _ ea
          exact ⟨o, by show upd (upd w.H P _) c' _ a = _; rw [upd_ne n1, upd_ne n2]; exact b1, b2.le (Le.put fc)⟩
end
/-! ### what it promises, by what its cells hold -/
abbrev ZFp := List D → ZSp
inductive RepC (K : PySem.W.Frag) (F : Hp) : List D → List (Option V) → Prop
  | nil : RepC K F [] []
  | cons {d : D} {x : V} {ds : List D} {xs : List (Option V)} (h : Rep K F d x) (r : RepC K F ds xs) : RepC K F (d :: ds) (some x :: xs)
theorem RepC.le {K : PySem.W.Frag} {F G : Hp} (l : Le F G) {ds : List D} {xs : List (Option V)} (h : RepC K F ds xs) : RepC K G ds xs := by
  induction h with
  | nil => exact .nil
  | cons h _ ih => exact .cons (h.le l) ih
theorem RepC.len {K : PySem.W.Frag} {F : Hp} {ds : List D} {xs : List (Option V)} (h : RepC K F ds xs) : ds.length = xs.length := by
  induction h with
  | nil => rfl
  | cons h _ ih => rw [List.length_cons, List.length_cons, ih]
theorem RepC.get {K : PySem.W.Frag} {F : Hp} {ds : List D} {xs : List (Option V)} (h : RepC K F ds xs) {i : Nat} {d : D} (e : ds[i]? = some d) : ∃ x, xs[i]? = some (some x) ∧ Rep K F d x := by
  induction h generalizing i with
  | nil => simp at e
  | cons h _ ih =>
    cases i with
    | zero => simp at e; subst e; exact ⟨_, rfl, h⟩
    | succ i => rw [List.getElem?_cons_succ] at e ⊢; exact ih e
def spN (K : PySem.W.Frag) (zn : ZFp) (ws : List (Option V)) : Sp := fun vs H Q E => ∃ (w : W3) (cs ds : List D) (Qz : ZQ) (Ez : ZX), w.H = H ∧ Ok K w ∧ RepC K w.F cs ws ∧ Reps K w.F ds vs ∧ CtE K w Qz Q ∧ CtX K w Ez E ∧ zn cs ds w.M Qz Ez
theorem RepS.startF {K : PySem.W.Frag} {F : Hp} {ds cs : List D} {vs : List V} {ws : List (Option V)} (h : Reps K F ds vs) (g : RepC K F cs ws) (N : List Str) :
    RepS K F (ds.map some ++ (cs.map some ++ List.replicate (N.length - ds.length - cs.length) none)) (startF N vs ws) := by
  have l1 := h.len
  have l2 := g.len
  unfold NdefX.startF
  refine ⟨by simp [l1, l2], fun i d e => ?_⟩
  by_cases q : i < ds.length
  · rw [List.getElem?_append_left (by rw [List.length_map]; exact q), List.getElem?_map] at e
    rw [List.getElem?_append_left (by rw [List.length_map, ← l1]; exact q), List.getElem?_map]
    cases e1 : ds[i]? with
    | none => rw [e1] at e; cases e
    | some d' =>
      rw [e1] at e
      cases e
      obtain ⟨y, e2, e3⟩ := h.get e1
      exact ⟨y, by rw [e2]; rfl, e3⟩
  · rw [List.getElem?_append_right (by rw [List.length_map]; omega), List.length_map] at e
    rw [List.getElem?_append_right (by rw [List.length_map]; omega), List.length_map, ← l1]
    by_cases q2 : i - ds.length < cs.length
    · rw [List.getElem?_append_left (by rw [List.length_map]; exact q2), List.getElem?_map] at e
      rw [List.getElem?_append_left (by omega)]
      cases e1 : cs[i - ds.length]? with
      | none => rw [e1] at e; cases e
      | some d' =>
        rw [e1] at e
        cases e
        exact g.get e1
    · rw [List.getElem?_append_right (by rw [List.length_map]; omega), List.getElem?_replicate] at e
      split at e <;> cases e
theorem zokN {P : Program} {w : World} {K : PySem.W.Frag} {mg : Str → Option Value} {base : Heap} {st : Stmt} {name qual : Str} {N ps fr : List Str} {k : Nat} {zn : ZFp} (S : NScope N ps fr (C8.fnScope st))
    (hbd : ∀ (F : NF), F.params = C8.fnArgs st → ∀ (doc pm ctv : Value) (us : List Value), us.length = ps.length → bindArgs (F.fd doc pm ctv) ⟨us, []⟩ = pure (ps.zip us)) (hl : ∀ cs ds M Q E, zn cs ds M Q E → ds.length = ps.length)
    (hb : ∀ (cl : List (Str × Addr)) (f c' : Addr) (A : Around) (outer : List Env) (s : Shared) (H : Hp) (E : XK) (w0 : W3) (Ez : ZX), Room k (A.deeper (envF (NF.of st name qual cl c') f s.heap.objs.size)) → CtW K w0 (WBz Ez) (WB E) →
      ∃ (t : TS) (z : ZS), PSs (ncx (L2N.CX P w) P w K mg base N (NF.of st name qual cl c') f A outer s H E) (C8.fnBody st) t ∧ LS K w0 t z ∧
        ∀ cs ds Qz, cs.length = fr.length → zn cs ds w0.M Qz Ez → z { nx := fun _ M' => Qz (.v .non) M', rt := Qz } (ds.map some ++ (cs.map some ++ List.replicate (N.length - ds.length - cs.length) none)) w0.M) :
    ∀ (cl : List (Str × Addr)) (f c' : Addr), NOk P w K mg base (L2N.CX P w) (k + 1) f (NF.of st name qual cl c') ps fr (spN K zn) := fun cl f c' => by
  refine nok_of (N := N) S (hbd _ rfl) (fun ws vs H Q E h => ?_) fun A outer s H vs ws Q E hr hf hc hl h => ?_
  · obtain ⟨w, cs, ds, Qz, Ez, rfl, ok, rc, r, _, _, h⟩ := h
    rw [← r.len]
    exact hl _ _ _ _ _ h
  · obtain ⟨w0, cs, ds, Qz, Ez, rfl, ok, rc, r, cq, cx, h⟩ := h
    obtain ⟨t, z, hp, hz, hh⟩ := hb cl f c' A outer s w0.H E w0 Ez hr (ctW_of cx)
    exact ⟨t, hp, hz w0 _ _ { nx := fun _ M' => Qz (.v .non) M', rt := Qz } _ (Nx.rf w0) ok (RepS.startF r rc N) ⟨fun u δ σ lu su ru q => cq u _ _ lu su (.v _) q, cq, fun _ _ _ _ _ _ q => q, fun _ _ _ _ _ _ q => q⟩ (hh cs ds Qz (by rw [rc.len]; exact hl) h)⟩
/-! ### called by the def that got it -/
def LP (K : PySem.W.Frag) (w0 : W3) (tl : Sp) (zo : ZSp) : Prop := ∀ w ds vs Qz Q Ez E, Nx w0 w → Ok K w → Reps K w.F ds vs → CtE K w Qz Q → CtX K w Ez E → zo ds w.M Qz Ez → tl vs w.H Q E
def tAcN (i : Nat) (f : Addr) (G : Hp → Prop) (tl : Sp) (W : WX) (t : TA) : TE := fun σ H Q => σ[i]? = some (some (.ref f)) ∧ G H ∧ t σ H fun vs H1 => tl vs H1 Q fun c d H2 => W c d σ H2
def zAcN (i : Nat) (f : Addr) (zo : ZSp) (Wz : ZW) (za : ZA) : ZE := fun δ M Q => δ[i]? = some (some (.v (.ref f))) ∧ za δ M fun ds M1 => zo ds M1 Q fun C fs M2 => Wz C fs δ M2
theorem le_acN {K : PySem.W.Frag} {w0 : W3} {i : Nat} {f : Addr} {G : Hp → Prop} {tl : Sp} {zo : ZSp} {W : WX} {Wz : ZW} {t : TA} {za : ZA} (hW : CtW K w0 Wz W) (hG : ∀ w, Nx w0 w → Ok K w → G w.H) (hl : LP K w0 tl zo) (ha : LA K w0 t za) : LE K w0 (tAcN i f G tl W t) (zAcN i f zo Wz za) := fun w σ δ Qz Q l s rs c h => by
  obtain ⟨h1, h2⟩ := h
  obtain ⟨x, e1, r⟩ := rs.get i _ h1
  have ex := r.v_inv
  subst ex
  exact ⟨e1, hG w l s, ha w σ δ _ _ l s rs (fun u ds xs lu su r q => hl u ds xs Qz Q _ _ (l.tr lu) su r (c.le lu) (fun v C d fs lv sv rx qx => hW v C d fs δ σ (l.tr (lu.tr lv)) sv (rs.le (lu.tr lv).le) rx qx) q) h2⟩
def ActN (Z : Cx) (a : Str) (i : Nat) (f : Addr) (G : Hp → Prop) (tl : Sp) : Prop := ∀ (W : WX) (e : Expr) (es : List Expr) (t : TA) (p1 p2 : Pos), L2N.Takes Z W → PA Z (e :: es) t →
  starEach (e :: es) Z.env = (false, eval e Z.env) :: starEach es Z.env → (backTo p2 (starEach es Z.env)).any (·.1) = false → PE Z (.Call (.Name a p1) (e :: es) [] p2) (tAcN i f G tl W t)
section
variable {X : Cx} {pins : List (Addr × Obj)} {σ : L2.St} {H : Hp} {s : Shared}
theorem cells_keep {cl : List (Str × Addr)} {fr : List Str} {ws : List (Option V)} (C : CellsAt cl fr ws X.s_0.heap X.H_0) (hx : X.ex = []) (I : Inv X pins σ H s) : CellsAt cl fr ws s.heap H := by
  have nx : ∀ c, c ∉ X.ex := fun c z => by rw [hx] at z; cases z
  have kp : ∀ y c, cl.lookup y = some c → ∀ v, X.s_0.heap.IsCell c v → s.heap.IsCell c v := fun y c e v ⟨o, ho, hd⟩ => by
    obtain ⟨sl, q⟩ := I.base.any ho (C.all y c e).1 (nx c)
    exact ⟨_, q, hd⟩
  refine ⟨C.len, fun y c e => ?_, C.inj, fun i y e => ?_⟩
  · obtain ⟨n, v, z⟩ := C.all y c e
    refine ⟨?_, v, kp y c e v z⟩
    obtain ⟨o, ho, _⟩ := z
    exact I.base.free c o ho n (nx c)
  · obtain ⟨c, hc, hv⟩ := C.has i y e
    refine ⟨c, hc, fun v ev => ?_⟩
    obtain ⟨u, r, z⟩ := hv v ev
    exact ⟨u, r, kp y c hc _ z⟩
theorem act_of {F : NF} {ps fr : List Str} {ws : List (Option V)} {a : Str} {i k j : Nat} {f : Addr} {sp : List (Option V) → Sp} (Fn : NOk X.prog X.w X.K X.mg X.base (L2N.CX X.prog X.w) k f F ps fr sp) (hr : Room j X.A) (hk : k ≤ j) (hex : X.ex = [])
    (C : CellsAt F.cl fr ws X.s_0.heap X.H_0) (hN : X.N[i]? = some a) (hv : Vis X.env.scope a) (hd : (a == ("__debug__" : Str)) = false := by decide) (hcd : (a == ("__classdict__" : Str)) = false := by decide) :
    ActN X a i f (fun H => H f = some (FnO f F)) (fun vs H Q E => H f = some (FnO f F) ∧ H F.c = some (CodeO F.c F.qual) ∧ sp ws vs H Q E) := by
  intro W e es t p1 p2 tk ha he hpl
  refine ⟨fun pins s σ H Q I h => ?_⟩
  obtain ⟨hs, hg, ht⟩ := h
  refine wpAny_Call_Name_kw (thn ((pe_var (pos := p1) hN hv hd hcd).run pins s σ H (fun v H1 => v = .ref f ∧ H1 = H) I ⟨.ref f, hs, rfl, rfl⟩) fun u s1 ⟨v, H1, I1, r1, q1⟩ => ?_)
  obtain ⟨ev, eH⟩ := q1
  subst ev
  rw [eH] at I1
  obtain rfl : u = Value.ref f := r1
  have fn0 : PySem.W.FnAt f s1.heap := fnAt_of I1 hg
  refine PySem.W.callWith_F (first := []) fn0 (thn (ha.run p2 pins s1 σ H _ I1 ht) fun us s2 ⟨vs, H2, I2, r, h1, h2, q⟩ => ⟨fnAt_of I2 h1, ?_⟩) he hpl
  show wpAny _ _ (call (.ref f) us) _ _ _
  refine wpAny_call (codeAny_mono (Fn.run X.A X.stack s2 H2 us vs ws Q (WE W σ) (hr.mono hk) I2.env0 h1 h2 (cells_keep C hex I2) r q) fun r s' hq => ?_)
  cases r with
  | error e => exact L2N.passAt tk σ pins _ _ e s' I2 hq
  | ok fl =>
    cases fl with
    | ret u => exact I2.after hq
    | next => exact False.elim hq
    | brk => exact False.elim hq
    | cont => exact False.elim hq
end
/-! ### the class that gets it -/
abbrev ZGp := Addr → ZSp → ZSp
structure GrowAt (P : Program) (w : World) (K : PySem.W.Frag) (mg : Str → Option Value) (base : Heap) (k : Nat) (x : Str) (C : Addr) (zg : ZGp) : Prop where
  ex : ∃ (fi : Addr) (fd : FuncData) (name qual : Str) (params : Arguments) (body : List Stmt) (sc : Scope) (N ps : List Str) (a : Str) (i : Nat),
    FunD K name qual params body sc [] [] fi fd ∧ Mk K C fi ∧ mg x = some (.ref C) ∧ L2.Binds K fd ps [] ∧ FnScope N ps sc ∧ N[i]? = some a ∧ Vis sc a ∧ (a == ("__debug__" : Str)) = false ∧ (a == ("__classdict__" : Str)) = false ∧
    (∀ f zo ds M Q E, zg f zo ds M Q E → ds.length = ps.length) ∧
    ∀ (cdv : Value) (A : Around) (outer : List Env) (s : Shared) (f : Addr) (G : Hp → Prop) (tl : Sp) (w0 : W3) (zo : ZSp) (Q : VK) (Qz : ZQ) (E : XK) (Ez : ZX) (vs : List V) (ds : List D), Room k (A.deeper (envOfC qual sc s.heap.objs.size fi cdv)) →
      ActN (cxOf (L2N.CX P w) P w K mg base N qual sc fi cdv A outer s w0.H E) a i f G tl → (∀ w, Nx w0 w → Ok K w → G w.H) → LP K w0 tl zo → Ok K w0 → Reps K w0.F ds vs → CtE K w0 Qz Q → CtX K w0 Ez E → zg f zo ds w0.M Qz Ez →
      ∃ t, PSs (cxOf (L2N.CX P w) P w K mg base N qual sc fi cdv A outer s w0.H E) body t ∧ t { nx := fun _ H' => Q .non H', rt := Q } (L2.start N vs) w0.H
section
variable {P : Program} {w : World} {K : PySem.W.Frag} {mg : Str → Option Value} {base : Heap}
theorem zokG {x C : Str} {Ca : Addr} {st : Stmt} {qual : Str} {N ps : List Str} {k i : Nat} {zg : ZGp} {a : Str} {fi : Addr} {fd : FuncData} (F : FunD K "__init__" qual (defArgs st) (defBody st) (defScope st) [] [] fi fd) (M : Mk K Ca fi) (hm : mg x = some (.ref Ca)) (b : L2.Binds K fd ps [])
    (S : FnScope N ps (defScope st)) (hl : ∀ f zo ds M Q E, zg f zo ds M Q E → ds.length = ps.length) (hN : N[i]? = some a) (hv : Vis (defScope st) a)
    (hb : ∀ (cdv : Value) (A : Around) (outer : List Env) (s : Shared) (H : Hp) (E : XK) (w0 : W3) (Ez : ZX) (f : Addr) (G : Hp → Prop) (tl : Sp) (zo : ZSp), Room k (A.deeper (envOfC qual (defScope st) s.heap.objs.size fi cdv)) → CtW K w0 (WBz Ez) (WB E) →
      ActN (cxOf (L2N.CX P w) P w K mg base N qual (defScope st) fi cdv A outer s H E) a i f G tl → (∀ w, Nx w0 w → Ok K w → G w.H) → LP K w0 tl zo →
      ∃ (t : TS) (z : ZS), PSs (cxOf (L2N.CX P w) P w K mg base N qual (defScope st) fi cdv A outer s H E) (defBody st) t ∧ LS K w0 t z ∧
        ∀ ds Qz, zg f zo ds w0.M Qz Ez → z { nx := fun _ M' => Qz (.v .non) M', rt := Qz } (zstart N.length ds) w0.M)
    (hd : (a == ("__debug__" : Str)) = false := by decide) (hcd : (a == ("__classdict__" : Str)) = false := by decide) : GrowAt P w K mg base k x Ca zg := by
  refine ⟨⟨fi, fd, _, _, _, _, _, N, ps, a, i, F, M, hm, b, S, hN, hv, hd, hcd, hl, fun cdv A outer s f G tl w0 zo Q Qz E Ez vs ds hr act hG lp ok r cq cx h => ?_⟩⟩
  obtain ⟨t, z, hp, hz, hh⟩ := hb cdv A outer s w0.H E w0 Ez f G tl zo hr (ctW_of cx) act hG lp
  exact ⟨t, hp, hz w0 _ _ { nx := fun _ M' => Qz (.v .non) M', rt := Qz } _ (Nx.rf w0) ok (RepS.start r N.length) ⟨fun u δ σ lu su ru q => cq u _ _ lu su (.v _) q, cq, fun _ _ _ _ _ _ q => q, fun _ _ _ _ _ _ q => q⟩ (hh ds Qz h)⟩
end
def tMkF (K : PySem.W.Frag) (C : Addr) (zg : ZGp) (zn : ZFp) (F : NF) (f : Addr) (js : List Nat) (W : WX) (t : TA) : TE := fun σ H Q => t σ H fun vs H1 => ∃ (w : W3) (cs ds : List D) (Qz : ZQ) (Ez : ZX), w.H = H1 ∧ Ok K w ∧ w.F f = some (FnO f F) ∧ w.F F.c = some (CodeO F.c F.qual) ∧
  RepC K w.F cs (js.map (slotAt σ)) ∧ Reps K w.F ds vs ∧ CtE K w Qz Q ∧ CtX K w Ez (fun c d H2 => W c d σ H2) ∧
  ∀ x dx, w.M x = none → zg f (zn cs) (.v (.ref x) :: ds) (mput w.M x (.ins C dx [])) (fun d M2 => d = .v .non ∧ Qz (.v (.ref x)) M2) Ez
section
variable {X : Cx} {x : Str} {C : Addr} {k kf : Nat} {zg : ZGp} {zn : ZFp} {F : NF} {f : Addr} {js : List Nat} {W : WX} {t : TA} {psn fr : List Str} {e : Expr} {es : List Expr} {p pos : Pos}
theorem zc_mkF (d : GrowAt X.prog X.w X.K X.mg X.base k x C zg) (Fn : NOk X.prog X.w X.K X.mg X.base (L2N.CX X.prog X.w) kf f F psn fr (spN X.K zn)) (hkf : kf ≤ k) (hr : Room (k + 2) X.A) (hg : Gl X x) (tk : L2N.Takes X W) (cp : X.Ok → Caps X F.cl fr js)
    (ha : PA X (e :: es) t) (hdb : (x == ("__debug__" : Str)) = false := by decide) (he : starEach (e :: es) X.env = (false, eval e X.env) :: starEach es X.env := by rfl) (hpl : (backTo pos (starEach es X.env)).any (·.1) = false := by rfl) :
    PE X (.Call (.Name x p) (e :: es) [] pos) (tMkF X.K C zg zn F f js W t) := by
  obtain ⟨fi, fd, name, qual, params, body, sc, N, ps, a, i, FD, M, hm, b, S, hN, hv, hd, hcd, hlen, hbody⟩ := d.ex
  refine ⟨fun pins s σ H Q I hh => wpAny_Call_Name_kw (ld_glob I hg hm (PySem.W.callWith_K (h₀ := X.base) I.ok.mod.kin M.kp (thn (ha.run pos pins s σ H _ I hh) fun us s1 ⟨vs, H1, I1, r, q⟩ => ⟨I1.kIn, ?_⟩) he hpl) hdb)⟩
  obtain ⟨w0, cs, ds, Qz, Ez, rfl, ok, hf, hc, rc, rd, cq, cx, hq⟩ := q
  have h0 : w0.H (s1.heap.objs.size + 1) = none := I1.hok.fresh (Nat.le_succ _)
  have h1 : w0.H s1.heap.objs.size = none := I1.hok.fresh (Nat.le_refl _)
  have I2 := Inv.made (C := C) I1
  have C2 := cells_of I2 (cp I2.ok)
  obtain ⟨n2, s2⟩ := made_nx (C := C) ok h0 h1 (Nat.ne_of_lt (Nat.lt_succ_self _))
  have r2 : Vals (V.ref (s1.heap.objs.size + 1) :: vs) (Value.ref (s1.heap.objs.size + 1) :: us) := .cons rfl r
  have hq' := hq (s1.heap.objs.size + 1) s1.heap.objs.size (ok.nM h0)
  have hl : (V.ref (s1.heap.objs.size + 1) :: vs).length = ps.length := by
    have := hlen _ _ _ _ _ _ hq'
    rw [← this, List.length_cons, List.length_cons, rd.len]
  obtain ⟨oc, od, dV, kV, doc, pm, an, cdv, ct, osl, rfl, lk, hcdv, _, _⟩ := FD.ex
  have bb := b { s1 with heap := (s1.heap.push PySem.W.emptyDict).push (PySem.W.instObj C s1.heap.objs.size) } (Value.ref (s1.heap.objs.size + 1) :: us) I2.kIn (by rw [List.append_nil, ← r2.length]; exact hl)
  rw [List.append_nil] at bb
  have hr1 : Room (k + 1) (X.A.under (.builtin "type.__call__" ⟨.ref C :: us, []⟩)) := hr.make C us []
  have rc' : codeAny (model X.prog X.w) (X.A.under (.builtin "type.__call__" ⟨.ref C :: us, []⟩)) (.call (.ref fi) ⟨.ref (s1.heap.objs.size + 1) :: us, []⟩)
      (CR (L2N.CX X.prog X.w) X.stack X.prog X.w (upd (upd w0.H s1.heap.objs.size (.own (s1.heap.objs.size + 1))) (s1.heap.objs.size + 1) (.ins C s1.heap.objs.size []))
        { s1 with heap := (s1.heap.push PySem.W.emptyDict).push (PySem.W.instObj C s1.heap.objs.size) } (fun v H2 => v = .non ∧ Q (.ref (s1.heap.objs.size + 1)) H2) (fun c d H3 => W c d σ H3))
      { s1 with heap := (s1.heap.push PySem.W.emptyDict).push (PySem.W.instObj C s1.heap.objs.size) } := by
    refine run_ofS (N := N) (ps := ps) (us := Value.ref (s1.heap.objs.size + 1) :: us) (vs := V.ref (s1.heap.objs.size + 1) :: vs) lk hcdv S hr1 (I2.env0.make C us []) bb r2 hl fun hr' => ?_
    refine hbody cdv _ X.stack _ f (fun H => H f = some (FnO f F)) (fun vs H Q E => H f = some (FnO f F) ∧ H F.c = some (CodeO F.c F.qual) ∧ spN X.K zn (js.map (slotAt σ)) vs H Q E)
      ⟨w0.F, mput w0.M (s1.heap.objs.size + 1) (.ins C s1.heap.objs.size []), upd (upd w0.H s1.heap.objs.size (.own (s1.heap.objs.size + 1))) (s1.heap.objs.size + 1) (.ins C s1.heap.objs.size [])⟩ (zn cs) (fun v H2 => v = .non ∧ Q (.ref (s1.heap.objs.size + 1)) H2)
      (fun d M2 => d = .v .non ∧ Qz (.v (.ref (s1.heap.objs.size + 1))) M2) _ Ez _ (.v (.ref (s1.heap.objs.size + 1)) :: ds) hr' ?_ ?_ ?_ s2 (.cons (.v _) rd) ?_ (cx.le n2) hq'
    · exact act_of (X := cxOf (L2N.CX X.prog X.w) X.prog X.w X.K X.mg X.base N qual sc fi cdv _ X.stack _ _ _) Fn hr' hkf rfl C2 hN hv hd hcd
    · exact fun w lw sw => sw.sub _ _ (lw.le _ _ hf)
    · exact fun w ds' vs' Qz' Q' Ez' E' lw sw rr cq' cx' hz => ⟨sw.sub _ _ (lw.le _ _ hf), sw.sub _ _ (lw.le _ _ hc), w, cs, ds', Qz', Ez', rfl, sw, rc.le lw.le, rr, cq', cx', hz⟩
    · exact fun u d x lu su rx ⟨e1, q⟩ => by
        subst e1
        exact ⟨rx.v_inv, cq u _ _ (n2.tr lu) su (.v _) q⟩
  refine wpAny_call (make_map (f := fi) I1.kIn M.makes M.init (beq_iff_eq.mp M.fn) (codeAny_mono rc' fun r s' hq' => ?_))
  cases r with
  | error er => exact L2N.passAt tk σ pins _ _ er s' I2 hq'
  | ok fl =>
    cases fl with
    | ret u =>
      obtain ⟨v, H', I3, rv, ev, q3⟩ := I2.after hq'
      subst ev
      exact ⟨rv, ⟨V.ref (s1.heap.objs.size + 1), H', I3, rfl, q3⟩⟩
    | next => exact False.elim hq'
    | brk => exact False.elim hq'
    | cont => exact False.elim hq'
end
def zMkF (C : Addr) (zg : ZGp) (zn : ZFp) (f : Addr) (js : List Nat) (Wz : ZW) (za : ZA) : ZE := fun δ M Q => za δ M fun ds M1 => ∃ cs : List D, js.map (fun j => δ[j]?) = cs.map (fun c => some (some c)) ∧
  ∀ x dx, M1 x = none → zg f (zn cs) (.v (.ref x) :: ds) (mput M1 x (.ins C dx [])) (fun d M2 => d = .v .non ∧ Q (.v (.ref x)) M2) fun C' fs M2 => Wz C' fs δ M2
theorem repC_of {K : PySem.W.Frag} {F : Hp} {δ : ZSt} {σ : L2.St} (rs : RepS K F δ σ) : ∀ {js : List Nat} {cs : List D}, js.map (fun j => δ[j]?) = cs.map (fun c => some (some c)) → RepC K F cs (js.map (slotAt σ))
  | [], [], _ => .nil
  | j :: js, c :: cs, h => by
    rw [List.map_cons, List.map_cons] at h
    obtain ⟨x, e, r⟩ := rs.get j c (List.cons.inj h).1
    rw [List.map_cons, slotAt_of e]
    exact .cons r (repC_of rs (List.cons.inj h).2)
  | [], _ :: _, h => by cases h
  | _ :: _, [], h => by cases h
theorem le_mkF {K : PySem.W.Frag} {w0 : W3} {C : Addr} {zg : ZGp} {zn : ZFp} {F : NF} {f : Addr} {js : List Nat} {W : WX} {Wz : ZW} {t : TA} {za : ZA} (hW : CtW K w0 Wz W) (hf : w0.F f = some (FnO f F)) (hc : w0.F F.c = some (CodeO F.c F.qual)) (ha : LA K w0 t za) :
    LE K w0 (tMkF K C zg zn F f js W t) (zMkF C zg zn f js Wz za) := fun w σ δ Qz Q l s rs c h =>
  ha w σ δ _ _ l s rs (fun u ds xs lu su r ⟨cs, e, q⟩ => ⟨u, cs, ds, Qz, _, rfl, su, lu.le _ _ (l.le _ _ hf), lu.le _ _ (l.le _ _ hc), repC_of (rs.le lu.le) e, r, c.le lu, fun v C d fs lv sv rx qx => hW v C d fs δ σ (l.tr (lu.tr lv)) sv (rs.le (lu.tr lv).le) rx qx, q⟩) h
end Zl
namespace Zl
open PySem PySem.Spec PyProof.Rows L2 LamX NdefX

/-! ### words for what is new: one step each -/
theorem room1 {k : Nat} {A : Around} (r : Room k A) : A.units + 1 < cLine := by have := r.un; omega
def dGetZ (x d : D) (M : MS) (Q : ZQ) : Prop := ∃ kvs k v, dctOf M x = some kvs ∧ kD d = some k ∧ valD kvs k = some v ∧ Q v M
def dPutZ (x d v : D) (M : MS) (Qn : MS → Prop) : Prop := match x with | .v (.ref a) => ∃ kvs k, M a = some (.dct kvs) ∧ kD d = some k ∧ kvs.length < sizeLine ∧ Qn (mput M a (.dct (putKD kvs k v))) | _ => False
def setZ (d : D) (M : MS) (Q : ZQ) : Prop := match d with | .v (.ref a) => ∃ ds, M a = some (.lst ds) ∧ Q (.lst ds) (mdel M a) | _ => False
def lkZ (d : D) (M : MS) (Q : ZQ) : Prop := match d with | .v (.ref a) => ∃ kvs, M a = some (.dct kvs) ∧ Q (.dct kvs) (mdel M a) | _ => False
section
variable {δ : ZSt} {M : MS} {Q : ZQ} {QA : List D → MS → Prop} {D1 : ZEnds} {zd zk zv z : ZE} {za : ZA}
theorem u_dget : zDGet zd zk δ M Q = zd δ M fun x M1 => zk δ M1 fun d M2 => dGetZ x d M2 Q := rfl
theorem dctOf_ref {a : Addr} {kvs : List (Key × D)} : (dctOf M (.v (.ref a)) = some kvs) = (M a = some (.dct kvs)) := by
  unfold dctOf
  cases e : M a with
  | none => simp [e]
  | some m => cases m <;> simp [e]
theorem e_dgetM {a : Addr} {i : Int} : dGetZ (.v (.ref a)) (.v (.int i)) M Q = ∃ kvs, M a = some (.dct kvs) ∧ ∃ v, valD kvs (.inl i) = some v ∧ Q v M := by
  unfold dGetZ
  simp only [dctOf_ref, kD, Option.some.injEq, exists_eq_left', exists_and_left]
theorem e_dgetD {kvs : List (Key × D)} {i : Int} : dGetZ (.dct kvs) (.v (.int i)) M Q = ∃ v, valD kvs (.inl i) = some v ∧ Q v M := by
  unfold dGetZ
  simp only [dctOf, kD, Option.some.injEq, exists_eq_left', exists_and_left]
theorem e_dinM {a : Addr} {i : Int} {neg : Bool} : zDIn neg (.v (.int i)) (.v (.ref a)) M Q = ∃ kvs, M a = some (.dct kvs) ∧ Q (.v (.bl ((valD kvs (.inl i)).isSome != neg))) M := by
  unfold zDIn
  simp only [dctOf_ref, kD, Option.some.injEq, exists_eq_left', exists_and_left]
theorem e_dinD {kvs : List (Key × D)} {i : Int} {neg : Bool} : zDIn neg (.v (.int i)) (.dct kvs) M Q = Q (.v (.bl ((valD kvs (.inl i)).isSome != neg))) M := by
  unfold zDIn
  simp only [dctOf, kD, Option.some.injEq, exists_eq_left', exists_and_left]
theorem u_dput : zDPut zd zk zv D1 δ M = zv δ M fun v M1 => zd δ M1 fun x M2 => zk δ M2 fun d M3 => dPutZ x d v M3 (D1.nx δ) := rfl
theorem e_dput {a : Addr} {i : Int} {v : D} {Qn : MS → Prop} : dPutZ (.v (.ref a)) (.v (.int i)) v M Qn = ∃ kvs, M a = some (.dct kvs) ∧ kvs.length < sizeLine ∧ Qn (mput M a (.dct (putKD kvs (.inl i) v))) := by
  unfold dPutZ
  simp only [kD, Option.some.injEq, exists_eq_left', exists_and_left]
theorem u_keysI : zKeysI z δ M QA = z δ M fun d M1 => match d with | .dct kvs => QA (kvs.map fun kv => dK kv.1) M1 | _ => False := rfl
theorem u_set : zSet z δ M Q = z δ M fun d M1 => setZ d M1 Q := rfl
theorem e_set {a : Addr} : setZ (.v (.ref a)) M Q = ∃ ds, M a = some (.lst ds) ∧ Q (.lst ds) (mdel M a) := rfl
theorem u_lk : zLk z δ M Q = z δ M fun d M1 => lkZ d M1 Q := rfl
theorem e_lk {a : Addr} : lkZ (.v (.ref a)) M Q = ∃ kvs, M a = some (.dct kvs) ∧ Q (.dct kvs) (mdel M a) := rfl
theorem u_nd {P : Addr} {q : Str} {i : Nat} {zT : Addr → ZS} : zNd P q i zT D1 δ M = (M P = some (.tbl q) ∧ ∀ f, M f = none → zT f D1 (δ.set i (some (.v (.ref f)))) M) := rfl
theorem u_acN {i : Nat} {f : Addr} {zo : ZSp} {Wz : ZW} : zAcN i f zo Wz za δ M Q = (δ[i]? = some (some (.v (.ref f))) ∧ za δ M fun ds M1 => zo ds M1 Q fun C fs M2 => Wz C fs δ M2) := rfl
theorem u_mkF {C : Addr} {zg : ZGp} {zn : ZFp} {f : Addr} {js : List Nat} {Wz : ZW} : zMkF C zg zn f js Wz za δ M Q = za δ M fun ds M1 => ∃ cs : List D, js.map (fun j => δ[j]?) = cs.map (fun c => some (some c)) ∧
  ∀ x dx, M1 x = none → zg f (zn cs) (.v (.ref x) :: ds) (mput M1 x (.ins C dx [])) (fun d M2 => d = .v .non ∧ Q (.v (.ref x)) M2) fun C' fs M2 => Wz C' fs δ M2 := rfl
end
theorem mdel_ne {M : MS} {a b : Addr} (h : b ≠ a) : mdel M a b = M b := if_neg h
theorem mdel_same {M : MS} {a : Addr} : mdel M a a = none := if_pos rfl
/-- the name of a def made in the def x -/
abbrev qN (x n : Str) : Str := (x ++ ".<locals>.") ++ n
theorem Hd.del_ne {M : MS} {h p : Addr} (k : Hd M h) (n : p ≠ h) : Hd (mdel M p) h := by
  obtain ⟨c, l, dg, m, n', e, r⟩ := k
  exact ⟨c, l, dg, m, n', by rw [mdel_ne (Ne.symm n)]; exact e, r⟩
/-! ### dicts with int keys -/
theorem valD_cons {k k' : Key} {d : D} {kvs : List (Key × D)} : valD ((k', d) :: kvs) k = if k' = k then some d else valD kvs k := by
  unfold valD
  rw [List.find?_cons]
  by_cases q : k' = k
  · simp [q]
  · simp [q]
theorem valD_nil {k : Key} : valD [] k = none := rfl
theorem valD_map {α : Type} {f : α → Int} {g : α → D} {i : Int} : ∀ {l : List α}, valD (l.map fun a => (.inl (f a), g a)) (.inl i) = (l.find? fun a => decide (f a = i)).map g
  | [] => rfl
  | a :: l => by
    rw [List.map_cons, valD_cons, List.find?_cons]
    by_cases q : f a = i
    · simp [q]
    · have q2 : ¬ (Sum.inl (f a) : Key) = Sum.inl i := fun z => q (Sum.inl.inj z)
      rw [if_neg q2, valD_map]
      simp [q]
theorem putKD_new {k : Key} {d : D} {kvs : List (Key × D)} (h : valD kvs k = none) : putKD kvs k d = kvs ++ [(k, d)] := by
  unfold putKD
  rw [h]
  rfl
/-! ### pop(k) -/
def zPopI : D → ZRA := fun d es M Q => match d, es with
  | .v (.ref a), [.v (.int i)] => ∃ ds e, ∃ k : Nat, i = (k : Int) ∧ k < 2 ^ 62 ∧ M a = some (.lst ds) ∧ ds[k]? = some e ∧ Q e (mput M a (.lst (ds.eraseIdx k)))
  | _, _ => False
theorem reps_erase {K : PySem.W.Frag} {F : Hp} : ∀ {ds : List D} {xs : List V} (k : Nat), Reps K F ds xs → Reps K F (ds.eraseIdx k) (xs.eraseIdx k)
  | _, _, k, .nil => by rw [List.eraseIdx_nil, List.eraseIdx_nil]; exact .nil
  | _, _, 0, .cons _ r => r
  | _, _, k + 1, .cons h r => by rw [List.eraseIdx_cons_succ, List.eraseIdx_cons_succ]; exact .cons h (reps_erase k r)
theorem lrm_popI {K : PySem.W.Frag} : LRM K rPopAt zPopI := fun w x xs d ds Qz Q s rx r c h => by
  unfold zPopI at h
  split at h
  · rename_i a i
    obtain ⟨fs, e, k, rfl, hk, e1, e0, q⟩ := h
    obtain ⟨o, e2, e3⟩ := s.mu _ _ e1
    cases e3 with
    | @lst _ ys r' =>
      cases r with
      | cons r0 r =>
        cases r
        obtain ⟨y, ey, ry⟩ := r'.get e0
        have lt := (List.getElem?_eq_some_iff.mp ey).1
        refine ⟨a, ys, k, k, y, rx.v_inv, by rw [r0.v_inv], e2, by omega, by omega, ?_, ey, c ⟨w.F, mput w.M a (.lst (fs.eraseIdx k)), upd w.H a (.lst (ys.eraseIdx k))⟩ _ _ (nx_write e1) (Sim.write s e1 (.lst (reps_erase k r'))) ry q⟩
        unfold seqIndex?
        simp
        omega
  · exact h.elim
theorem e_popI {a : Addr} {i : Int} {M : MS} {Q : ZQ} : zPopI (.v (.ref a)) [.v (.int i)] M Q = ∃ ds e, ∃ k : Nat, i = (k : Int) ∧ k < 2 ^ 62 ∧ M a = some (.lst ds) ∧ ds[k]? = some e ∧ Q e (mput M a (.lst (ds.eraseIdx k))) := rfl
/-- all but what stands at x is as it was, apart from what is new -/
def Kx (x : Addr) (M M' : MS) : Prop := ∀ a m, a ≠ x → M a = some m → M' a = some m
theorem Kx.rf {x : Addr} {M : MS} : Kx x M M := fun _ _ _ e => e
theorem Kx.put {x p : Addr} {M M' : MS} {o : MO} (k : Kx x M M') (h : M p = none) : Kx x M (mput M' p o) := fun a m n e => by
  rw [mput_ne (fun q => by rw [q, h] at e; cases e)]
  exact k a m n e
theorem Kx.own {x : Addr} {M M' : MS} {o : MO} (k : Kx x M M') : Kx x M (mput M' x o) := fun a m n e => by
  rw [mput_ne n]
  exact k a m n e
theorem Kp.del {M M' : MS} {p : Addr} (k : Kp M M') (h : M p = none) : Kp M (mdel M' p) := fun a m e => by
  rw [mdel_ne (fun q => by rw [q, h] at e; cases e)]
  exact k a m e
end Zl
set_option linter.all false
namespace K07
open PySem PySem.Spec PyProof.Rows L2 Zl NdefX
local macro_rules | `(tactic| walk_at "z") => `(tactic| simp only [
  ↓u_ret, ↓u_retN, ↓u_seq, ↓u_asg, ↓u_ifs, ↓u_drop, ↓u_next, ↓u_break, ↓u_cont, ↓u_never, ↓u_c, ↓u_op, ↓u_un, ↓u_nil, ↓u_cons, ↓u_tup, ↓u_lst, ↓u_lstM, ↓u_cb, ↓u_and, ↓u_or, ↓u_not, ↓u_yes, ↓u_if, ↓u_call, ↓u_make, ↓u_aug, 
  ↓u_gsub, ↓u_for, ↓u_lc, ↓u_lcM, ↓u_par, ↓u_par3, ↓u_tupRg1, ↓u_tupRg2, ↓u_lstRg1, ↓u_lstRg1M, ↓u_seqI, ↓u_rng1, ↓u_rng2, ↓u_enum, ↓u_zip, ↓u_sl, ↓u_nopart, ↓u_part, ↓u_cutT, ↓u_cutL, ↓u_cutR, ↓u_revT, ↓u_dnew, ↓u_dnewM, ↓u_d1, 
  ↓u_fld, ↓u_sfld, ↓u_rz, ↓u_xo, ↓u_x0, ↓u_WB, ↓u_W0, ↓u_try, ↓u_xf, ↓u_isXc, ↓u_isXg, ↓u_nget, ↓u_nput, ↓u_nnew, ↓u_n1, ↓u_lamW, ↓u_act, ↓u_bm, ↓u_bm0, ↓u_dget, ↓u_dput, ↓u_keysI, ↓u_set, ↓u_lk, ↓u_nd, ↓u_acN, ↓u_mkF, ↓u_d1M, 
  ↓u_lstI, ↓u_nx, ↓u_rt, ↓u_bk, ↓u_ct, ↓u_var0, ↓u_varS, ↓u_gn0, ↓u_gn1, ↓u_gn2, ↓u_gn3, ↓u_gn4, ↓u_gn5, ↓u_gn6, ↓u_gn7, ↓u_gn8, ↓u_gn9, ↓u_gn10, ↓u_gn11, ↓u_gn12, ↓u_gn13, ↓u_gn14, ↓u_gn15, ↓u_gn16, ↓u_gn17, ↓u_gn18, ↓u_gn19, 
  ↓u_gn20, ↓u_gn21, ↓u_gn22, ↓u_gn23, ↓e_bT, ↓e_andV, ↓e_orV, ↓e_notV, ↓e_chain, ↓onB_bl, ↓e_I0, ↓e_I, ↓e_U, ↓e_addI, ↓e_addS, ↓e_addT, ↓e_addL, ↓e_mulI, ↓e_mulL, ↓e_mulT, ↓e_ixT, ↓e_ixL, ↓e_ixM, ↓e_setM, ↓e_isN, ↓e_isNotN, 
  ↓e_eqI, ↓e_neI, ↓e_eqB, ↓e_neB, ↓e_lenT, ↓e_lenL, ↓e_lenR, ↓e_intI, ↓e_absI, ↓e_tupL, ↓e_tupT, ↓e_lstL, ↓e_lstT, ↓e_gtup, ↓e_gcons, ↓e_gnil, ↓e_isi_int, ↓e_isi_bool, ↓e_isi_tuple, ↓e_isi_list, ↓e_isi_str, ↓e_isi_dict, 
  ↓e_isi_tl, ↓e_allM, ↓e_anyM, ↓e_gunl, ↓e_nget, ↓e_nin, ↓e_nput, ↓e_popAt, ↓e_popI, ↓e_lenM, ↓e_tupM, ↓e_append, ↓e_extend, ↓e_pop, ↓e_min2, ↓e_max2, ↓e_dgetM, ↓e_dgetD, ↓e_dinM, ↓e_dinD, ↓e_dput, ↓e_set, ↓e_lk, ↓reduceIte, 
  reduceCtorEq, if_true, if_false, Bool.false_eq_true, decide_eq_true_eq, Bool.not_eq_true', decide_eq_false_iff_not, Bool.not_true, Bool.not_false, zstart, zwipe, List.map_cons, List.map_nil, List.length_cons, List.length_nil, 
  Nat.reduceAdd, Nat.reduceSub, List.replicate_succ, List.replicate_zero, List.cons_append, List.nil_append, List.append_nil, List.getElem?_cons_zero, List.getElem?_cons_succ, List.set_cons_zero, List.set_cons_succ, 
  Option.some.injEq, exists_eq_left', exists_eq_left, exists_eq_right, true_and, and_true, List.cons.injEq, D.v.injEq, V.int.injEq, V.bl.injEq, V.ref.injEq, V.str.injEq, List.zip_cons_cons, List.zip_nil_left, MO.lst.injEq, 
  MO.ins.injEq, MO.dN.injEq, MO.tbl.injEq, MO.dct.injEq, keyB_2, mput_same, mput_mput, exists_and_left, e_at0, e_at1, e_at2, e_at3, e_at4, e_at5, e_atn, e_set0, e_set1, e_set2, e_set3, e_set4, cmul_r, cmul_l, cmul_mod, cdw, cdw2, 
  cpow18, cpow11, ten18, ten11, beq_self_eq_true, decide_true, decide_false, Bool.true_eq_false, isI_t, nice_non, nice_bl, nice_int, nice_str, nice_tup, nice_lst, nice_rd, nice_dct, tn_non, tn_bl, tn_int, tn_str, tn_tup, tn_lst, 
  tn_rd, tn_dct, isT_tt, isT_ll, isT_ii, isT_bb, isT_bi, isT_ss, isT_dd, isT_tl, isT_lt, isT_it, isT_il, isT_ib, isT_nt, isT_nl, isT_ni, isT_nb, isT_st, isT_sl, isT_si, isT_sb, isT_ti, isT_tb, isT_li, isT_lb, isT_di, isT_db, 
  isT_dt, isT_dl, isT_bt, isT_bl, Bool.or_false, Bool.or_true, Bool.false_or, Bool.true_or, Bool.false_and, Bool.true_and, Bool.and_true, Bool.and_false, Int.reduceLT, Int.reduceLE, Int.reduceNeg, Nat.reduceLT, Nat.reduceLeDiff, 
  sizeLine_eq, Int.reduceAdd, Int.reduceSub, Int.reduceMul, isNon_e0, isNon_e1, isNon_e2, isNon_e3, List.reverse_cons, List.reverse_nil])
local macro_rules | `(tactic| walk_at "zh") => `(tactic| simp only [
  ↓u_ret, ↓u_retN, ↓u_seq, ↓u_asg, ↓u_ifs, ↓u_drop, ↓u_next, ↓u_break, ↓u_cont, ↓u_never, ↓u_c, ↓u_op, ↓u_un, ↓u_nil, ↓u_cons, ↓u_tup, ↓u_lst, ↓u_lstM, ↓u_cb, ↓u_and, ↓u_or, ↓u_not, ↓u_yes, ↓u_if, ↓u_call, ↓u_make, ↓u_aug, 
  ↓u_gsub, ↓u_for, ↓u_lc, ↓u_lcM, ↓u_par, ↓u_par3, ↓u_tupRg1, ↓u_tupRg2, ↓u_lstRg1, ↓u_lstRg1M, ↓u_seqI, ↓u_rng1, ↓u_rng2, ↓u_enum, ↓u_zip, ↓u_sl, ↓u_nopart, ↓u_part, ↓u_cutT, ↓u_cutL, ↓u_cutR, ↓u_revT, ↓u_dnew, ↓u_dnewM, ↓u_d1, 
  ↓u_fld, ↓u_sfld, ↓u_rz, ↓u_xo, ↓u_x0, ↓u_WB, ↓u_W0, ↓u_try, ↓u_xf, ↓u_isXc, ↓u_isXg, ↓u_nget, ↓u_nput, ↓u_nnew, ↓u_n1, ↓u_lamW, ↓u_act, ↓u_bm, ↓u_bm0, ↓u_dget, ↓u_dput, ↓u_keysI, ↓u_set, ↓u_lk, ↓u_nd, ↓u_acN, ↓u_mkF, ↓u_d1M, 
  ↓u_lstI, ↓u_nx, ↓u_rt, ↓u_bk, ↓u_ct, ↓u_var0, ↓u_varS, ↓u_gn0, ↓u_gn1, ↓u_gn2, ↓u_gn3, ↓u_gn4, ↓u_gn5, ↓u_gn6, ↓u_gn7, ↓u_gn8, ↓u_gn9, ↓u_gn10, ↓u_gn11, ↓u_gn12, ↓u_gn13, ↓u_gn14, ↓u_gn15, ↓u_gn16, ↓u_gn17, ↓u_gn18, ↓u_gn19, 
  ↓u_gn20, ↓u_gn21, ↓u_gn22, ↓u_gn23, ↓e_bT, ↓e_andV, ↓e_orV, ↓e_notV, ↓e_chain, ↓onB_bl, ↓e_I0, ↓e_I, ↓e_U, ↓e_addI, ↓e_addS, ↓e_addT, ↓e_addL, ↓e_mulI, ↓e_mulL, ↓e_mulT, ↓e_ixT, ↓e_ixL, ↓e_ixM, ↓e_setM, ↓e_isN, ↓e_isNotN, 
  ↓e_eqI, ↓e_neI, ↓e_eqB, ↓e_neB, ↓e_lenT, ↓e_lenL, ↓e_lenR, ↓e_intI, ↓e_absI, ↓e_tupL, ↓e_tupT, ↓e_lstL, ↓e_lstT, ↓e_gtup, ↓e_gcons, ↓e_gnil, ↓e_isi_int, ↓e_isi_bool, ↓e_isi_tuple, ↓e_isi_list, ↓e_isi_str, ↓e_isi_dict, 
  ↓e_isi_tl, ↓e_allM, ↓e_anyM, ↓e_gunl, ↓e_nget, ↓e_nin, ↓e_nput, ↓e_popAt, ↓e_popI, ↓e_lenM, ↓e_tupM, ↓e_append, ↓e_extend, ↓e_pop, ↓e_min2, ↓e_max2, ↓e_dgetM, ↓e_dgetD, ↓e_dinM, ↓e_dinD, ↓e_dput, ↓e_set, ↓e_lk, ↓reduceIte, 
  reduceCtorEq, if_true, if_false, Bool.false_eq_true, decide_eq_true_eq, Bool.not_eq_true', decide_eq_false_iff_not, Bool.not_true, Bool.not_false, zstart, zwipe, List.map_cons, List.map_nil, List.length_cons, List.length_nil, 
  Nat.reduceAdd, Nat.reduceSub, List.replicate_succ, List.replicate_zero, List.cons_append, List.nil_append, List.append_nil, List.getElem?_cons_zero, List.getElem?_cons_succ, List.set_cons_zero, List.set_cons_succ, 
  Option.some.injEq, exists_eq_left', exists_eq_left, exists_eq_right, true_and, and_true, List.cons.injEq, D.v.injEq, V.int.injEq, V.bl.injEq, V.ref.injEq, V.str.injEq, List.zip_cons_cons, List.zip_nil_left, MO.lst.injEq, 
  MO.ins.injEq, MO.dN.injEq, MO.tbl.injEq, MO.dct.injEq, keyB_2, mput_same, mput_mput, exists_and_left, e_at0, e_at1, e_at2, e_at3, e_at4, e_at5, e_atn, e_set0, e_set1, e_set2, e_set3, e_set4, cmul_r, cmul_l, cmul_mod, cdw, cdw2, 
  cpow18, cpow11, ten18, ten11, beq_self_eq_true, decide_true, decide_false, Bool.true_eq_false, isI_t, nice_non, nice_bl, nice_int, nice_str, nice_tup, nice_lst, nice_rd, nice_dct, tn_non, tn_bl, tn_int, tn_str, tn_tup, tn_lst, 
  tn_rd, tn_dct, isT_tt, isT_ll, isT_ii, isT_bb, isT_bi, isT_ss, isT_dd, isT_tl, isT_lt, isT_it, isT_il, isT_ib, isT_nt, isT_nl, isT_ni, isT_nb, isT_st, isT_sl, isT_si, isT_sb, isT_ti, isT_tb, isT_li, isT_lb, isT_di, isT_db, 
  isT_dt, isT_dl, isT_bt, isT_bl, Bool.or_false, Bool.or_true, Bool.false_or, Bool.true_or, Bool.false_and, Bool.true_and, Bool.and_true, Bool.and_false, Int.reduceLT, Int.reduceLE, Int.reduceNeg, Nat.reduceLT, Nat.reduceLeDiff, 
  sizeLine_eq, Int.reduceAdd, Int.reduceSub, Int.reduceMul, isNon_e0, isNon_e1, isNon_e2, isNon_e3, List.reverse_cons, List.reverse_nil, *])
def top (i : Nat) : Stmt := PySem.Challenge.pw_slipcaught_k07_whole_check_signs.main.body.getD i (.Pass ⟨0, 0, 0, 0⟩)
def d__law_hand : He.DefD := ⟨("_law_hand", none), "_law_hand", "_law_hand", defArgs (top 38), defBody (top 38), defScope (top 38), [], []⟩
def d__law_draw : He.DefD := ⟨("_law_draw", none), "_law_draw", "_law_draw", defArgs (top 39), defBody (top 39), defScope (top 39), [], []⟩
def d__law_any : He.DefD := ⟨("_law_any", none), "_law_any", "_law_any", defArgs (top 40), defBody (top 40), defScope (top 40), [], []⟩
def d_is_int : He.DefD := ⟨("is_int", none), "is_int", "is_int", defArgs (top 1), defBody (top 1), defScope (top 1), [], []⟩
def d_is_within : He.DefD := ⟨("is_within", none), "is_within", "is_within", defArgs (top 2), defBody (top 2), defScope (top 2), [], []⟩
def d_are_within : He.DefD := ⟨("are_within", none), "are_within", "are_within", defArgs (top 3), defBody (top 3), defScope (top 3), [], []⟩
def d_is_row : He.DefD := ⟨("is_row", none), "is_row", "is_row", defArgs (top 4), defBody (top 4), defScope (top 4), [], []⟩
def d_BadScheme___init__ : He.DefD := ⟨("BadScheme", some "__init__"), "__init__", "BadScheme.__init__", defArgs (inClass (top 9) 0), defBody (inClass (top 9) 0), defScope (inClass (top 9) 0), [], []⟩
def d_check_size : He.DefD := ⟨("check_size", none), "check_size", "check_size", defArgs (top 21), defBody (top 21), defScope (top 21), [], []⟩
def d_is_step : He.DefD := ⟨("is_step", none), "is_step", "is_step", defArgs (top 22), defBody (top 22), defScope (top 22), [], []⟩
def d_Scheme___init__ : He.DefD := ⟨("Scheme", some "__init__"), "__init__", "Scheme.__init__", defArgs (inClass (top 23) 0), defBody (inClass (top 23) 0), defScope (inClass (top 23) 0), [], []⟩
def d_check_scheme : He.DefD := ⟨("check_scheme", none), "check_scheme", "check_scheme", defArgs (top 24), defBody (top 24), defScope (top 24), [], []⟩
def d_check_row : He.DefD := ⟨("check_row", none), "check_row", "check_row", defArgs (top 25), defBody (top 25), defScope (top 25), [], []⟩
def d_led_on : He.DefD := ⟨("led_on", none), "led_on", "led_on", defArgs (top 26), defBody (top 26), defScope (top 26), [], []⟩
def d_is_right : He.DefD := ⟨("is_right", none), "is_right", "is_right", defArgs (top 27), defBody (top 27), defScope (top 27), [], []⟩
def d_Growing___init__ : He.DefD := ⟨("Growing", some "__init__"), "__init__", "Growing.__init__", defArgs (inClass (top 28) 0), defBody (inClass (top 28) 0), defScope (inClass (top 28) 0), [], []⟩
def d_weighted : He.DefD := ⟨("weighted", none), "weighted", "weighted", defArgs (top 29), defBody (top 29), defScope (top 29), [], []⟩
def d_check_table : He.DefD := ⟨("check_table", none), "check_table", "check_table", defArgs (top 31), defBody (top 31), defScope (top 31), [], []⟩
def d_by_table : He.DefD := ⟨("by_table", none), "by_table", "by_table", defArgs (top 30), defBody (top 30), defScope (top 30), [], []⟩
def d_signs_of : He.DefD := ⟨("signs_of", none), "signs_of", "signs_of", defArgs (top 32), defBody (top 32), defScope (top 32), [], []⟩
def d_check_signs : He.DefD := ⟨("check_signs", none), "check_signs", "check_signs", defArgs (top 33), defBody (top 33), defScope (top 33), [], []⟩
def d_first_incomplete : He.DefD := ⟨("first_incomplete", none), "first_incomplete", "first_incomplete", defArgs (top 34), defBody (top 34), defScope (top 34), [], []⟩
def d_is_complete : He.DefD := ⟨("is_complete", none), "is_complete", "is_complete", defArgs (top 35), defBody (top 35), defScope (top 35), [], []⟩
def d_incomplete : He.DefD := ⟨("incomplete", none), "incomplete", "incomplete", defArgs (top 36), defBody (top 36), defScope (top 36), [], []⟩
def d__law_is : He.DefD := ⟨("_law_is", none), "_law_is", "_law_is", defArgs (top 41), defBody (top 41), defScope (top 41), [], []⟩
def d__law_drawn : He.DefD := ⟨("_law_drawn", none), "_law_drawn", "_law_drawn", defArgs (top 42), defBody (top 42), defScope (top 42), [], []⟩
def d__law_made : He.DefD := ⟨("_law_made", none), "_law_made", "_law_made", defArgs (top 43), defBody (top 43), defScope (top 43), [], []⟩
def d__law_led : He.DefD := ⟨("_law_led", none), "_law_led", "_law_led", defArgs (top 44), defBody (top 44), defScope (top 44), [], []⟩
def d__law_row : He.DefD := ⟨("_law_row", none), "_law_row", "_law_row", defArgs (top 45), defBody (top 45), defScope (top 45), [], []⟩
def d__law_reached : He.DefD := ⟨("_law_reached", none), "_law_reached", "_law_reached", defArgs (top 46), defBody (top 46), defScope (top 46), [], []⟩
def d__law_signs : He.DefD := ⟨("_law_signs", none), "_law_signs", "_law_signs", defArgs (top 47), defBody (top 47), defScope (top 47), [], []⟩
def d__law_first : He.DefD := ⟨("_law_first", none), "_law_first", "_law_first", defArgs (top 48), defBody (top 48), defScope (top 48), [], []⟩
def d__law_case_right : He.DefD := ⟨("_law_case_right", none), "_law_case_right", "_law_case_right", defArgs (top 49), defBody (top 49), defScope (top 49), [], []⟩
def d__law_table : He.DefD := ⟨("_law_table", none), "_law_table", "_law_table", defArgs (top 50), defBody (top 50), defScope (top 50), [], []⟩
def d_law : He.DefD := ⟨("law", none), "law", "law", defArgs (top 51), defBody (top 51), defScope (top 51), [], []⟩
/-! ### what of the module the proofs lean on -/
def tf : List He.Defn := [("weighted", none)]
def tq (x : Str) : Str := (([("weighted", qN "weighted" "onward")] : List (Str × Str)).lookup x).getD (qL x)
def ts (K : PySem.W.Frag) : List (Addr × Addr × Str) := tf.map fun p => (He.codeOf K p, He.tabOf K (He.codeOf K p), tq p.1)
structure Tx (K : PySem.W.Frag) (mg : Str → Option Value) (base : Heap) : Prop where
  a_Scheme : mg "Scheme" = some (.ref (He.ga K "Scheme"))
  a_Growing : mg "Growing" = some (.ref (He.ga K "Growing"))
  a_BadScheme : mg "BadScheme" = some (.ref (He.ga K "BadScheme"))
  d__law_hand : FunAt K mg "_law_hand" "_law_hand" (top 38) ["script"]
  d__law_draw : FunAt K mg "_law_draw" "_law_draw" (top 39) ["hand", "many"]
  d__law_any : FunAt K mg "_law_any" "_law_any" (top 40) ["hand", "some"]
  d_is_int : FunAt K mg "is_int" "is_int" (top 1) ["thing"]
  d_is_within : FunAt K mg "is_within" "is_within" (top 2) ["thing", "low", "high"]
  d_are_within : FunAt K mg "are_within" "are_within" (top 3) ["thing", "low", "high"]
  d_is_row : FunAt K mg "is_row" "is_row" (top 4) ["size", "thing"]
  xi_BadScheme : ∃ (f : Addr) (fd : FuncData), FunD K "__init__" "BadScheme.__init__" (defArgs (inClass (top 9) 0)) (defBody (inClass (top 9) 0)) (defScope (inClass (top 9) 0)) [] [] f fd ∧ PySem.W.findIn K (.ref (He.ga K "BadScheme")) "__init__" = some (some (.ref f)) ∧ PySem.W.typeIn K (.ref f) = some (.type "function") ∧ L2.Binds K fd ["self", "part", "at"] []
  d_check_size : FunAt K mg "check_size" "check_size" (top 21) ["size"]
  d_is_step : FunAt K mg "is_step" "is_step" (top 22) ["size", "many", "thing"]
  in_Scheme : ∃ (f : Addr) (fd : FuncData), FunD K "__init__" "Scheme.__init__" (defArgs (inClass (top 23) 0)) (defBody (inClass (top 23) 0)) (defScope (inClass (top 23) 0)) [] [] f fd ∧ Mk K (He.ga K "Scheme") f ∧ L2.Binds K fd ["self", "size", "steps", "right"] []
  d_check_scheme : FunAt K mg "check_scheme" "check_scheme" (top 24) ["thing"]
  d_check_row : FunAt K mg "check_row" "check_row" (top 25) ["size", "thing"]
  d_led_on : FunAt K mg "led_on" "led_on" (top 26) ["scheme", "stand", "row"]
  d_is_right : FunAt K mg "is_right" "is_right" (top 27) ["scheme", "thing"]
  in_Growing : ∃ (f : Addr) (fd : FuncData), FunD K "__init__" "Growing.__init__" (defArgs (inClass (top 28) 0)) (defBody (inClass (top 28) 0)) (defScope (inClass (top 28) 0)) [] [] f fd ∧ Mk K (He.ga K "Growing") f ∧ L2.Binds K fd ["self", "size", "first", "onward", "most"] []
  d_weighted : FunAtC K mg "weighted" "weighted" (top 29) ["size", "weights", "modulus", "rest"]
  b_weighted : LamX.TabB base mg (Zl.tC K "weighted") (tP K "weighted")
  d_check_table : FunAt K mg "check_table" "check_table" (top 31) ["size", "table"]
  d_by_table : FunAt K mg "by_table" "by_table" (top 30) ["size", "table"]
  d_signs_of : FunAt K mg "signs_of" "signs_of" (top 32) ["scheme", "stand"]
  d_check_signs : FunAt K mg "check_signs" "check_signs" (top 33) ["scheme", "row"]
  d_first_incomplete : FunAt K mg "first_incomplete" "first_incomplete" (top 34) ["scheme"]
  d_is_complete : FunAt K mg "is_complete" "is_complete" (top 35) ["scheme"]
  d_incomplete : FunAt K mg "incomplete" "incomplete" (top 36) ["scheme"]
  d__law_is : FunAt K mg "_law_is" "_law_is" (top 41) ["thing", "due"]
  d__law_drawn : FunAt K mg "_law_drawn" "_law_drawn" (top 42) ["hand", "most"]
  d__law_made : FunAt K mg "_law_made" "_law_made" (top 43) ["parts"]
  d__law_led : FunAt K mg "_law_led" "_law_led" (top 44) ["parts", "row"]
  d__law_row : FunAt K mg "_law_row" "_law_row" (top 45) ["hand", "size", "most"]
  d__law_reached : FunAt K mg "_law_reached" "_law_reached" (top 46) ["parts"]
  d__law_signs : FunAt K mg "_law_signs" "_law_signs" (top 47) ["parts", "stand"]
  d__law_first : FunAt K mg "_law_first" "_law_first" (top 48) ["parts"]
  d__law_case_right : FunAt K mg "_law_case_right" "_law_case_right" (top 49) ["hand", "scheme", "parts"]
  d__law_table : FunAt K mg "_law_table" "_law_table" (top 50) ["hand", "size"]
  d_law : FunAt K mg "law" "law" (top 51) ["script"]
  c_Scheme : Cls K (He.ga K "Scheme")
  s_Scheme : InsC K (He.ga K "Scheme")
  na_Scheme_size : NoAttr K (He.ga K "Scheme") "size"
  na_Scheme_steps : NoAttr K (He.ga K "Scheme") "steps"
  na_Scheme_right : NoAttr K (He.ga K "Scheme") "right"
  c_Growing : Cls K (He.ga K "Growing")
  s_Growing : InsC K (He.ga K "Growing")
  na_Growing_places : NoAttr K (He.ga K "Growing") "places"
  na_Growing_number_of : NoAttr K (He.ga K "Growing") "number_of"
  na_Growing_steps : NoAttr K (He.ga K "Growing") "steps"
  o_BadScheme : OexC K (He.ga K "BadScheme")
  x_BadScheme : XcC K (He.ga K "BadScheme") ∧ XfC K (He.ga K "BadScheme")
  na_BadScheme_part : NoAttr K (He.ga K "BadScheme") "part"
  na_BadScheme_at : NoAttr K (He.ga K "BadScheme") "at"
  f_abs : mg "abs" = none
  f_all : mg "all" = none
  f_bool : mg "bool" = none
  f_enumerate : mg "enumerate" = none
  f_int : mg "int" = none
  f_isinstance : mg "isinstance" = none
  f_len : mg "len" = none
  f_list : mg "list" = none
  f_range : mg "range" = none
  f_tuple : mg "tuple" = none
  f_zip : mg "zip" = none
  g_LEAST_SIZE : ∃ t, mg "LEAST_SIZE" = some (.int (2) t)
  g_MOST_MODULUS : ∃ t, mg "MOST_MODULUS" = some (.int (100) t)
  g_MOST_SIZE : ∃ t, mg "MOST_SIZE" = some (.int (12) t)
  g_MOST_STANDS : ∃ t, mg "MOST_STANDS" = some (.int (200) t)
  g_MOST_WEIGHT : ∃ t, mg "MOST_WEIGHT" = some (.int (200) t)
  g_MOST_WEIGHTS : ∃ t, mg "MOST_WEIGHTS" = some (.int (12) t)
theorem sc__law_hand : FnScope ["script", "cells", "cell"] ["script"] (defScope (top 38)) := ⟨rfl, rfl, rfl, by decide +kernel, rfl, by decide +kernel, by decide +kernel⟩
theorem sc__law_draw : FnScope ["hand", "many", "cell", "digit", "number"] ["hand", "many"] (defScope (top 39)) := ⟨rfl, rfl, rfl, by decide +kernel, rfl, by decide +kernel, by decide +kernel⟩
theorem sc__law_any : FnScope ["hand", "some"] ["hand", "some"] (defScope (top 40)) := ⟨rfl, rfl, rfl, by decide +kernel, rfl, by decide +kernel, by decide +kernel⟩
theorem sc_is_int : FnScope ["thing"] ["thing"] (defScope (top 1)) := ⟨rfl, rfl, rfl, by decide +kernel, rfl, by decide +kernel, by decide +kernel⟩
theorem sc_is_within : FnScope ["thing", "low", "high"] ["thing", "low", "high"] (defScope (top 2)) := ⟨rfl, rfl, rfl, by decide +kernel, rfl, by decide +kernel, by decide +kernel⟩
theorem sc_are_within : FnScope ["thing", "low", "high", "part"] ["thing", "low", "high"] (defScope (top 3)) := ⟨rfl, rfl, rfl, by decide +kernel, rfl, by decide +kernel, by decide +kernel⟩
theorem sc_is_row : FnScope ["size", "thing"] ["size", "thing"] (defScope (top 4)) := ⟨rfl, rfl, rfl, by decide +kernel, rfl, by decide +kernel, by decide +kernel⟩
theorem sc_BadScheme___init__ : FnScope ["self", "part", "at"] ["self", "part", "at"] (defScope (inClass (top 9) 0)) := ⟨rfl, rfl, rfl, by decide +kernel, rfl, by decide +kernel, by decide +kernel⟩
theorem sc_check_size : FnScope ["size"] ["size"] (defScope (top 21)) := ⟨rfl, rfl, rfl, by decide +kernel, rfl, by decide +kernel, by decide +kernel⟩
theorem sc_is_step : FnScope ["size", "many", "thing", "part"] ["size", "many", "thing"] (defScope (top 22)) := ⟨rfl, rfl, rfl, by decide +kernel, rfl, by decide +kernel, by decide +kernel⟩
theorem sc_Scheme___init__ : FnScope ["self", "size", "steps", "right", "at", "step", "stand"] ["self", "size", "steps", "right"] (defScope (inClass (top 23) 0)) := ⟨rfl, rfl, rfl, by decide +kernel, rfl, by decide +kernel, by decide +kernel⟩
theorem sc_check_scheme : FnScope ["thing"] ["thing"] (defScope (top 24)) := ⟨rfl, rfl, rfl, by decide +kernel, rfl, by decide +kernel, by decide +kernel⟩
theorem sc_check_row : FnScope ["size", "thing"] ["size", "thing"] (defScope (top 25)) := ⟨rfl, rfl, rfl, by decide +kernel, rfl, by decide +kernel, by decide +kernel⟩
theorem sc_led_on : FnScope ["scheme", "stand", "row", "sign"] ["scheme", "stand", "row"] (defScope (top 26)) := ⟨rfl, rfl, rfl, by decide +kernel, rfl, by decide +kernel, by decide +kernel⟩
theorem sc_is_right : FnScope ["scheme", "thing"] ["scheme", "thing"] (defScope (top 27)) := ⟨rfl, rfl, rfl, by decide +kernel, rfl, by decide +kernel, by decide +kernel⟩
theorem sc_Growing___init__ : FnScope ["self", "size", "first", "onward", "most", "at", "row", "sign", "later"] ["self", "size", "first", "onward", "most"] (defScope (inClass (top 28) 0)) := ⟨rfl, rfl, rfl, by decide +kernel, rfl, by decide +kernel, by decide +kernel⟩
def nst_weighted_onward : Stmt := (defBody (top 29)).getD 5 (.Pass ⟨0, 0, 0, 0⟩)
theorem nsc_weighted_onward : NScope ["place", "sign", "weights", "modulus"] ["place", "sign"] ["weights", "modulus"] (C8.fnScope nst_weighted_onward) := nscope_by (by decide +kernel)
theorem sc_weighted : FnScope ["size", "weights", "modulus", "rest", "weight", "onward", "grown", "right", "at", "place"] ["size", "weights", "modulus", "rest"] (defScope (top 29)) := ⟨rfl, rfl, rfl, by decide +kernel, rfl, by decide +kernel, by decide +kernel⟩
theorem sc_check_table : FnScope ["size", "table", "at", "row"] ["size", "table"] (defScope (top 31)) := ⟨rfl, rfl, rfl, by decide +kernel, rfl, by decide +kernel, by decide +kernel⟩
theorem sc_by_table : FnScope ["size", "table"] ["size", "table"] (defScope (top 30)) := ⟨rfl, rfl, rfl, by decide +kernel, rfl, by decide +kernel, by decide +kernel⟩
theorem sc_signs_of : FnScope ["scheme", "stand", "sign", "to"] ["scheme", "stand"] (defScope (top 32)) := ⟨rfl, rfl, rfl, by decide +kernel, rfl, by decide +kernel, by decide +kernel⟩
theorem sc_check_signs : FnScope ["scheme", "row"] ["scheme", "row"] (defScope (top 33)) := ⟨rfl, rfl, rfl, by decide +kernel, rfl, by decide +kernel, by decide +kernel⟩
theorem sc_first_incomplete : FnScope ["scheme", "row_of", "waiting", "at", "here", "sign", "to"] ["scheme"] (defScope (top 34)) := ⟨rfl, rfl, rfl, by decide +kernel, rfl, by decide +kernel, by decide +kernel⟩
theorem sc_is_complete : FnScope ["scheme"] ["scheme"] (defScope (top 35)) := ⟨rfl, rfl, rfl, by decide +kernel, rfl, by decide +kernel, by decide +kernel⟩
theorem sc_incomplete : FnScope ["scheme"] ["scheme"] (defScope (top 36)) := ⟨rfl, rfl, rfl, by decide +kernel, rfl, by decide +kernel, by decide +kernel⟩
theorem sc__law_is : FnScope ["thing", "due", "one", "other"] ["thing", "due"] (defScope (top 41)) := ⟨rfl, rfl, rfl, by decide +kernel, rfl, by decide +kernel, by decide +kernel⟩
theorem sc__law_drawn : FnScope ["hand", "most", "size", "many", "steps", "sign", "stand", "share"] ["hand", "most"] (defScope (top 42)) := ⟨rfl, rfl, rfl, by decide +kernel, rfl, by decide +kernel, by decide +kernel⟩
theorem sc__law_made : FnScope ["parts"] ["parts"] (defScope (top 43)) := ⟨rfl, rfl, rfl, by decide +kernel, rfl, by decide +kernel, by decide +kernel⟩
theorem sc__law_led : FnScope ["parts", "row", "stand", "sign"] ["parts", "row"] (defScope (top 44)) := ⟨rfl, rfl, rfl, by decide +kernel, rfl, by decide +kernel, by decide +kernel⟩
theorem sc__law_row : FnScope ["hand", "size", "most", "turn"] ["hand", "size", "most"] (defScope (top 45)) := ⟨rfl, rfl, rfl, by decide +kernel, rfl, by decide +kernel, by decide +kernel⟩
theorem sc__law_reached : FnScope ["parts", "found", "order", "at", "sign", "goal"] ["parts"] (defScope (top 46)) := ⟨rfl, rfl, rfl, by decide +kernel, rfl, by decide +kernel, by decide +kernel⟩
theorem sc__law_signs : FnScope ["parts", "stand", "sign", "goal"] ["parts", "stand"] (defScope (top 47)) := ⟨rfl, rfl, rfl, by decide +kernel, rfl, by decide +kernel, by decide +kernel⟩
theorem sc__law_first : FnScope ["parts", "reached", "stand"] ["parts"] (defScope (top 48)) := ⟨rfl, rfl, rfl, by decide +kernel, rfl, by decide +kernel, by decide +kernel⟩
theorem sc__law_case_right : FnScope ["hand", "scheme", "parts", "due", "again", "row", "signs", "sign"] ["hand", "scheme", "parts"] (defScope (top 49)) := ⟨rfl, rfl, rfl, by decide +kernel, rfl, by decide +kernel, by decide +kernel⟩
theorem sc__law_table : FnScope ["hand", "size", "names", "left", "sign", "stand"] ["hand", "size"] (defScope (top 50)) := ⟨rfl, rfl, rfl, by decide +kernel, rfl, by decide +kernel, by decide +kernel⟩
theorem sc_law : FnScope ["script", "hand", "turn", "parts", "size", "table", "weight", "scheme"] ["script"] (defScope (top 51)) := ⟨rfl, rfl, rfl, by decide +kernel, rfl, by decide +kernel, by decide +kernel⟩
section
variable {P : Program} {w : World} {K : PySem.W.Frag} {mg : Str → Option Value} {base : Heap}
def zp__law_hand : ZSp := fun ds M Q E => ∃ ns : List Int, ds = [.rd (ns.map fun n => .v (.int n))] ∧ ns.length ≤ 63 ∧ ∀ h M', M h = none → Hx h M M' → Q (.v (.ref h)) M'
theorem hl__law_hand : ∀ ds M Q E, zp__law_hand ds M Q E → ds.length = 1 := fun ds M Q E h => by
  obtain ⟨d, rfl, _⟩ := h
  rfl
def zp__law_draw : ZSp := fun ds M Q E => ∃ (h : Addr) (many : Int), ds = [.v (.ref h), .v (.int many)] ∧ Hd M h ∧ 0 < many ∧ many.natAbs.log2 < 9000 ∧
  ∀ (r : Int) M', Hx h M M' → 0 ≤ r → r < many → Q (.v (.int r)) M'
theorem hl__law_draw : ∀ ds M Q E, zp__law_draw ds M Q E → ds.length = 2 := fun ds M Q E h => by
  obtain ⟨d, _, rfl, _⟩ := h
  rfl
def zp__law_any : ZSp := fun ds M Q E => ∃ (h : Addr) (s : D) (xs : List D), ds = [.v (.ref h), s] ∧ (s = .lst xs ∨ s = .tup xs) ∧ Hd M h ∧ xs ≠ [] ∧ xs.length ≤ sizeLine ∧
  ∀ x M', x ∈ xs → Hx h M M' → Q x M'
theorem hl__law_any : ∀ ds M Q E, zp__law_any ds M Q E → ds.length = 2 := fun ds M Q E h => by
  obtain ⟨d, _, _, rfl, _⟩ := h
  rfl
def zp_is_int : ZSp := fun ds M Q E => ∃ d, ds = [d] ∧ nice d = true ∧ Q (.v (.bl (isI d))) M
theorem hl_is_int : ∀ ds M Q E, zp_is_int ds M Q E → ds.length = 1 := fun ds M Q E h => by
  obtain ⟨d, rfl, _⟩ := h
  rfl
def zp_is_within : ZSp := fun ds M Q E => ∃ (d : D) (lo hi : Int), ds = [d, .v (.int lo), .v (.int hi)] ∧ nice d = true ∧ Q (.v (.bl (isW lo hi d))) M
theorem hl_is_within : ∀ ds M Q E, zp_is_within ds M Q E → ds.length = 3 := fun ds M Q E h => by
  obtain ⟨d, _, _, rfl, _⟩ := h
  rfl
def zp__law_is : Nat → ZSp
  | 0 => zpNo
  | n + 1 => fun ds M Q E => ∃ d, ds = [d, d] ∧ Pd n d ∧ n ≤ 60 ∧ Q (.v (.bl true)) M
theorem hl__law_is {n : Nat} : ∀ ds M Q E, zp__law_is (n + 1) ds M Q E → ds.length = 2 := fun ds M Q E h => by
  obtain ⟨d, rfl, _⟩ := h
  rfl
/-- a scheme that was drawn -/
structure Drawn (most size : Int) (rows : List (List Int)) (right : List Int) : Prop where
  s1 : 2 ≤ size
  s2 : size ≤ 12
  n1 : 1 ≤ rows.length
  n2 : (rows.length : Int) ≤ most
  r : ∀ r ∈ rows, (r.length : Int) = size ∧ ∀ x ∈ r, 0 ≤ x ∧ x < rows.length
  a : right.Pairwise (· < ·)
  b : ∀ x ∈ right, 0 ≤ x ∧ x < rows.length
def zp__law_drawn : ZSp := fun ds M Q E => ∃ (h : Addr) (most : Int), ds = [.v (.ref h), .v (.int most)] ∧ Hd M h ∧ 1 ≤ most ∧ most ≤ 200 ∧
  ∀ size rows right M', Drawn most size rows right → Hx h M M' → Q (.tup [.v (.int size), rowsD rows, rowD right]) M'
theorem hl__law_drawn : ∀ ds M Q E, zp__law_drawn ds M Q E → ds.length = 2 := fun ds M Q E h => by
  obtain ⟨d, _, rfl, _⟩ := h
  rfl
def schF (size steps right : D) : List (Str × D) := [("size", size), ("steps", steps), ("right", right)]
theorem schP1 {a : D} : putD "size" a [] = [(("size" : Str), a)] := rfl
theorem schP2 {a b : D} : putD "steps" b [(("size" : Str), a)] = [(("size" : Str), a), (("steps" : Str), b)] := rfl
theorem schP3 {a b c : D} : putD "right" c [(("size" : Str), a), (("steps" : Str), b)] = schF a b c := rfl
theorem schL1 {a b c : D} : (schF a b c).lookup ("size" : Str) = some a := rfl
theorem schL2 {a b c : D} : (schF a b c).lookup ("steps" : Str) = some b := rfl
theorem schL3 {a b c : D} : (schF a b c).lookup ("right" : Str) = some c := rfl
theorem kit_self {K : PySem.W.Frag} (v : Value) : PySem.W.kitOne K v v = some true := by
  unfold PySem.W.kitOne
  rw [if_pos (by simp)]

/-! ### schemes -/
abbrev Sch (size : Int) (rows : List (List Int)) (right : List Int) : Prop := Drawn 200 size rows right
abbrev schD (K : PySem.W.Frag) (size : Int) (rows : List (List Int)) (right : List Int) : D := .ins (He.ga K "Scheme") (schF (.v (.int size)) (rowsD rows) (rowD right))
def stepI (rows : List (List Int)) (st s : Int) : Int := ((rows[st.toNat]?.getD [])[s.toNat]?).getD 0
def ledI (rows : List (List Int)) (st : Int) (r : List Int) : Int := r.foldl (stepI rows) st
theorem Drawn.mono {m m' size : Int} {rows : List (List Int)} {right : List Int} (d : Drawn m size rows right) (h : m ≤ m') : Drawn m' size rows right := ⟨d.s1, d.s2, d.n1, by have := d.n2; omega, d.r, d.a, d.b⟩
theorem at_rows {m size st : Int} {rows : List (List Int)} {right : List Int} (d : Drawn m size rows right) (h0 : 0 ≤ st) (h1 : st < rows.length) : atI (rows.map rowD) st = some (rowD (rows[st.toNat]?.getD [])) := by
  obtain ⟨j, rfl⟩ := Int.eq_ofNat_of_zero_le h0
  have hj : j < rows.length := by omega
  rw [zat_nat, List.getElem?_map, Int.toNat_natCast, List.getElem?_eq_getElem hj]
  rfl
theorem row_len {m size st : Int} {rows : List (List Int)} {right : List Int} (d : Drawn m size rows right) (h0 : 0 ≤ st) (h1 : st < rows.length) : ((rows[st.toNat]?.getD []).length : Int) = size ∧ ∀ x ∈ rows[st.toNat]?.getD [], 0 ≤ x ∧ x < rows.length := by
  obtain ⟨j, rfl⟩ := Int.eq_ofNat_of_zero_le h0
  have hj : j < rows.length := by omega
  rw [Int.toNat_natCast, List.getElem?_eq_getElem hj]
  exact d.r _ (List.getElem_mem hj)
theorem at_row {m size st s : Int} {rows : List (List Int)} {right : List Int} (d : Drawn m size rows right) (h0 : 0 ≤ st) (h1 : st < rows.length) (h2 : 0 ≤ s) (h3 : s < size) : atI (dInts (rows[st.toNat]?.getD [])) s = some (.v (.int (stepI rows st s))) := by
  obtain ⟨l, _⟩ := row_len d h0 h1
  unfold stepI
  generalize rows[st.toNat]?.getD [] = row at l
  obtain ⟨j, rfl⟩ := Int.eq_ofNat_of_zero_le h2
  have hj : j < row.length := by omega
  rw [zat_nat, Zl.ints_get, Int.toNat_natCast, List.getElem?_eq_getElem hj]
  rfl
theorem step_ok {m size st s : Int} {rows : List (List Int)} {right : List Int} (d : Drawn m size rows right) (h0 : 0 ≤ st) (h1 : st < rows.length) (h2 : 0 ≤ s) (h3 : s < size) : 0 ≤ stepI rows st s ∧ stepI rows st s < rows.length := by
  obtain ⟨l, b⟩ := row_len d h0 h1
  unfold stepI
  generalize rows[st.toNat]?.getD [] = row at l b
  obtain ⟨j, rfl⟩ := Int.eq_ofNat_of_zero_le h2
  have hj : j < row.length := by omega
  rw [Int.toNat_natCast, List.getElem?_eq_getElem hj]
  exact b _ (List.getElem_mem hj)
theorem led_ok {m size : Int} {rows : List (List Int)} {right : List Int} (d : Drawn m size rows right) : ∀ {r : List Int} {st : Int}, 0 ≤ st → st < rows.length → (∀ s ∈ r, 0 ≤ s ∧ s < size) → 0 ≤ ledI rows st r ∧ ledI rows st r < rows.length
  | [], st, h0, h1, _ => ⟨h0, h1⟩
  | s :: r, st, h0, h1, hr => by
    have hs := hr s List.mem_cons_self
    have := step_ok d h0 h1 hs.1 hs.2
    exact led_ok (r := r) (st := stepI rows st s) d this.1 this.2 fun x hx => hr x (List.mem_cons_of_mem _ hx)
theorem led_app {rows : List (List Int)} {st s : Int} {r : List Int} : ledI rows st (r ++ [s]) = stepI rows (ledI rows st r) s := by
  unfold ledI
  rw [List.foldl_append]
  rfl
def zp_check_size : ZSp := fun ds M Q E => ∃ s : Int, ds = [.v (.int s)] ∧ 2 ≤ s ∧ s ≤ 12 ∧ Q (.v .non) M
theorem hl_check_size : ∀ ds M Q E, zp_check_size ds M Q E → ds.length = 1 := fun ds M Q E h => by
  obtain ⟨d, rfl, _⟩ := h
  rfl
def zp_is_step : ZSp := fun ds M Q E => ∃ (size many : Int) (row : List Int), ds = [.v (.int size), .v (.int many), rowD row] ∧ (row.length : Int) = size ∧ row.length ≤ 1000 ∧ (∀ x ∈ row, 0 ≤ x ∧ x < many) ∧ Q (.v (.bl true)) M
theorem hl_is_step : ∀ ds M Q E, zp_is_step ds M Q E → ds.length = 3 := fun ds M Q E h => by
  obtain ⟨d, _, _, rfl, _⟩ := h
  rfl
def zp_are_within : ZSp := fun ds M Q E => ∃ (lo hi : Int) (row : List Int), ds = [rowD row, .v (.int lo), .v (.int hi)] ∧ row.length ≤ 1000000 ∧ (∀ x ∈ row, lo ≤ x ∧ x ≤ hi) ∧ Q (.v (.bl true)) M
theorem hl_are_within : ∀ ds M Q E, zp_are_within ds M Q E → ds.length = 3 := fun ds M Q E h => by
  obtain ⟨d, _, _, rfl, _⟩ := h
  rfl
def zp_is_row : ZSp := fun ds M Q E => ∃ (size : Int) (row : List Int), ds = [.v (.int size), rowD row] ∧ row.length ≤ 1000000 ∧ (∀ x ∈ row, 0 ≤ x ∧ x < size) ∧ Q (.v (.bl true)) M
theorem hl_is_row : ∀ ds M Q E, zp_is_row ds M Q E → ds.length = 2 := fun ds M Q E h => by
  obtain ⟨d, _, rfl, _⟩ := h
  rfl
def zp_Scheme___init__ (K : PySem.W.Frag) : ZSp := fun ds M Q E => ∃ (x dx : Addr) (size : Int) (rows : List (List Int)) (right : List Int), ds = [.v (.ref x), .v (.int size), rowsD rows, rowD right] ∧ M x = some (.ins (He.ga K "Scheme") dx []) ∧ Sch size rows right ∧
  Q (.v .non) (mput M x (.ins (He.ga K "Scheme") dx (schF (.v (.int size)) (rowsD rows) (rowD right))))
theorem hl_Scheme___init__ {K : PySem.W.Frag} : ∀ ds M Q E, zp_Scheme___init__ K ds M Q E → ds.length = 4 := fun ds M Q E h => by
  obtain ⟨d, _, _, _, _, rfl, _⟩ := h
  rfl
def zp_Scheme (K : PySem.W.Frag) : ZSp := fun ds M Q E => ∃ (size : Int) (rows : List (List Int)) (right : List Int), ds = [.v (.int size), rowsD rows, rowD right] ∧ Sch size rows right ∧ Q (schD K size rows right) M
theorem mk_Scheme {K : PySem.W.Frag} : MakesAs (He.ga K "Scheme") (zp_Scheme___init__ K) (zp_Scheme K) := fun ds M Q E ⟨size, rows, right, e, h, k⟩ x dx hx => by
  subst e
  refine ⟨x, dx, size, rows, right, rfl, mput_same, h, rfl, _, mput_same, ?_⟩
  rw [mput_mput, mdel_mput hx]
  exact k
def zp_check_scheme (K : PySem.W.Frag) : ZSp := fun ds M Q E => ∃ d, ds = [d] ∧ ∃ size rows right, d = schD K size rows right ∧ Q (.v .non) M
theorem hl_check_scheme {K : PySem.W.Frag} : ∀ ds M Q E, zp_check_scheme K ds M Q E → ds.length = 1 := fun ds M Q E h => by
  obtain ⟨d, rfl, _⟩ := h
  rfl
def zp_led_on (K : PySem.W.Frag) : ZSp := fun ds M Q E => ∃ size rows right st row, ds = [schD K size rows right, .v (.int st), rowD row] ∧ Sch size rows right ∧ 0 ≤ st ∧ st < rows.length ∧ (∀ x ∈ row, 0 ≤ x ∧ x < size) ∧ Q (.v (.int (ledI rows st row))) M
theorem hl_led_on {K : PySem.W.Frag} : ∀ ds M Q E, zp_led_on K ds M Q E → ds.length = 3 := fun ds M Q E h => by
  obtain ⟨_, _, _, _, _, rfl, _⟩ := h
  rfl
def zp_is_right (K : PySem.W.Frag) : ZSp := fun ds M Q E => ∃ size rows right row, ds = [schD K size rows right, rowD row] ∧ Sch size rows right ∧ row.length ≤ 1000000 ∧ (∀ x ∈ row, 0 ≤ x ∧ x < size) ∧ Q (.v (.bl (decide (ledI rows 0 row ∈ right)))) M
theorem hl_is_right {K : PySem.W.Frag} : ∀ ds M Q E, zp_is_right K ds M Q E → ds.length = 2 := fun ds M Q E h => by
  obtain ⟨_, _, _, _, rfl, _⟩ := h
  rfl
theorem nodup_lt : ∀ (n : Nat) (l : List Nat), l.Nodup → (∀ x ∈ l, x < n) → l.length ≤ n
  | 0, l, _, h => by
    cases l with
    | nil => exact Nat.le_refl _
    | cons a r => exact absurd (h a List.mem_cons_self) (Nat.not_lt_zero _)
  | n + 1, l, nd, h => by
    have key := nodup_lt n (l.filter fun x => decide (x ≠ n)) (nd.sublist List.filter_sublist) fun x hx => by
      have h1 := List.mem_filter.mp hx
      have h2 := h x h1.1
      have h3 : x ≠ n := of_decide_eq_true h1.2
      omega
    have : l.length ≤ (l.filter fun x => decide (x ≠ n)).length + 1 := by
      clear key h
      induction l with
      | nil => exact Nat.zero_le _
      | cons a r ih =>
        rw [List.nodup_cons] at nd
        rw [List.filter_cons]
        by_cases q : a = n
        · have er : r.filter (fun x => decide (x ≠ n)) = r := List.filter_eq_self.mpr fun x hx => decide_eq_true fun z => nd.1 (by rw [q, ← z]; exact hx)
          rw [if_neg (by simp [q]), er]
          exact Nat.le_refl _
        · rw [if_pos (by simp [q])]
          have := ih nd.2
          simp only [List.length_cons]
          omega
    omega
def optD : Option (List Int) → D
  | none => .v .non
  | some r => rowD r
def keyD (p : Int × Int) : D := .tup [.v (.int p.1), .v (.int p.2)]
theorem keyOf_keyD {p : Int × Int} : keyOf (keyD p) = some (.tup [.num p.1, .num p.2]) := rfl
theorem keyB_keyD {p : Int × Int} : keyB (keyD p) = true := id (Eq.refl true)
theorem keyD_inj {p q : Int × Int} : (keyOf (keyD p) = keyOf (keyD q)) ↔ p = q := by
  rw [keyOf_keyD, keyOf_keyD]
  constructor
  · intro h
    simp only [Option.some.injEq, NestedKey.tup.injEq, List.cons.injEq, NestedKey.num.injEq, and_true] at h
    exact Prod.ext h.1 h.2
  · rintro rfl
    rfl
/-- a scheme's parts -/
abbrev ptD (size : Int) (rows : List (List Int)) (right : List Int) : D := .tup [.v (.int size), rowsD rows, rowD right]
def zp__law_made (K : PySem.W.Frag) : ZSp := fun ds M Q E => ∃ (size : Int) (rows : List (List Int)) (right : List Int), ds = [ptD size rows right] ∧ Sch size rows right ∧ Q (schD K size rows right) M
theorem hl__law_made {K : PySem.W.Frag} : ∀ ds M Q E, zp__law_made K ds M Q E → ds.length = 1 := fun ds M Q E h => by
  obtain ⟨_, _, _, rfl, _⟩ := h
  rfl
def zp__law_led : ZSp := fun ds M Q E => ∃ size rows right row, ds = [ptD size rows right, rowD row] ∧ Sch size rows right ∧ (∀ x ∈ row, 0 ≤ x ∧ x < size) ∧ Q (.v (.int (ledI rows 0 row))) M
theorem hl__law_led : ∀ ds M Q E, zp__law_led ds M Q E → ds.length = 2 := fun ds M Q E h => by
  obtain ⟨_, _, _, _, rfl, _⟩ := h
  rfl
def zp__law_row : ZSp := fun ds M Q E => ∃ (h : Addr) (size most : Int), ds = [.v (.ref h), .v (.int size), .v (.int most)] ∧ Hd M h ∧ 2 ≤ size ∧ size ≤ 12 ∧ 0 ≤ most ∧ most ≤ 200 ∧
  ∀ row M', (∀ x ∈ row, 0 ≤ x ∧ x < size) → row.length ≤ 200 → Hx h M M' → Q (rowD row) M'
theorem hl__law_row : ∀ ds M Q E, zp__law_row ds M Q E → ds.length = 3 := fun ds M Q E h => by
  obtain ⟨_, _, _, rfl, _⟩ := h
  rfl
theorem sorted_len : ∀ {xs : List Int} {n : Nat}, xs.Pairwise (· < ·) → (∀ x ∈ xs, 0 ≤ x ∧ x < n) → xs.length ≤ n := by
  intro xs
  have key : ∀ (xs : List Int) (lo hi : Int), lo ≤ hi → xs.Pairwise (· < ·) → (∀ x ∈ xs, lo ≤ x ∧ x < hi) → (xs.length : Int) ≤ hi - lo := by
    intro xs
    induction xs with
    | nil => intro lo hi h _ _; simp; omega
    | cons a r ih =>
      intro lo hi h hp hb
      have ha := hb a List.mem_cons_self
      have hp' := List.pairwise_cons.mp hp
      have := ih (a + 1) hi (by omega) hp'.2 fun x hx => ⟨by have := hp'.1 x hx; omega, (hb x (List.mem_cons_of_mem _ hx)).2⟩
      rw [List.length_cons]
      omega
  intro n hp hb
  have := key xs 0 n (by omega) hp hb
  omega
theorem isW_in {lo hi x : Int} (h1 : lo ≤ x) (h2 : x ≤ hi) : isW lo hi (.v (.int x)) = true := by
  unfold isW
  simp
  omega
/-! ### growing: places from place to place -/
abbrev Pt : Type := Int × Int
def addP (L : List Pt) (p : Pt) : List Pt := if p ∈ L then L else L ++ [p]
def exP (g : Pt → Int → Pt) (p : Pt) (i : Nat) (L : List Pt) : List Pt := (List.range i).foldl (fun L (s : Nat) => addP L (g p s)) L
theorem exP_succ {g : Pt → Int → Pt} {p : Pt} {i : Nat} {L : List Pt} : exP g p (i + 1) L = addP (exP g p i L) (g p i) := by
  unfold exP
  rw [List.range_succ, List.foldl_append]
  rfl
def grow (g : Pt → Int → Pt) (n : Nat) : Nat → List Pt → Nat → List Pt
  | 0, L, _ => L
  | f + 1, L, at_ => match L[at_]? with
    | none => L
    | some p => grow g n f (exP g p n L) (at_ + 1)
def grown (g : Pt → Int → Pt) (size : Int) (first : Pt) : List Pt := grow g size.toNat 5000 [first] 0
def stepR (g : Pt → Int → Pt) (n : Nat) (F : List Pt) (p : Pt) : List Int := (List.range n).map fun (s : Nat) => ((F.idxOf (g p s) : Nat) : Int)
def rowsG (g : Pt → Int → Pt) (size : Int) (F : List Pt) : List (List Int) := F.map (stepR g size.toNat F)
/-- what a list keeps while it grows -/
structure Gw (S : Pt → Prop) (L : List Pt) : Prop where
  nd : L.Nodup
  s : ∀ p ∈ L, S p
theorem Gw.add {S : Pt → Prop} {L : List Pt} {p : Pt} (h : Gw S L) (hp : S p) : Gw S (addP L p) := by
  unfold addP
  by_cases q : p ∈ L
  · rw [if_pos q]; exact h
  · rw [if_neg q]
    refine ⟨List.nodup_append.mpr ⟨h.nd, by simp, fun x hx y hy => ?_⟩, fun x hx => ?_⟩
    · rw [List.mem_singleton.mp hy]
      exact fun z => q (z ▸ hx)
    · rcases List.mem_append.mp hx with hx | hx
      · exact h.s x hx
      · rw [List.mem_singleton.mp hx]; exact hp
theorem addP_ext {L : List Pt} {p : Pt} : ∃ t, addP L p = L ++ t := by
  unfold addP
  split
  · exact ⟨[], by simp⟩
  · exact ⟨_, rfl⟩
theorem mem_addP {L : List Pt} {p : Pt} : p ∈ addP L p := by
  unfold addP
  split
  · assumption
  · simp
theorem exP_keep {S : Pt → Prop} {g : Pt → Int → Pt} {p : Pt} {n : Nat} {L : List Pt} (h : Gw S L) (hg : ∀ s : Nat, s < n → S (g p s)) : Gw S (exP g p n L) ∧ (∃ t, exP g p n L = L ++ t) ∧ ∀ s : Nat, s < n → g p s ∈ exP g p n L := by
  induction n with
  | zero => exact ⟨h, ⟨[], by simp [exP]⟩, fun s hs => absurd hs (Nat.not_lt_zero s)⟩
  | succ n ih =>
    obtain ⟨h1, ⟨t, h2⟩, h3⟩ := ih fun s hs => hg s (by omega)
    rw [exP_succ]
    obtain ⟨t2, e2⟩ := addP_ext (L := exP g p n L) (p := g p n)
    refine ⟨h1.add (hg n (by omega)), ⟨t ++ t2, by rw [e2, h2, List.append_assoc]⟩, fun s hs => ?_⟩
    by_cases q : s = n
    · subst q; exact mem_addP
    · rw [e2]; exact List.mem_append_left _ (h3 s (by omega))
/-- what is grown: closed, each once, from the first on -/
structure Grn (S : Pt → Prop) (g : Pt → Int → Pt) (size : Int) (first : Pt) (F : List Pt) : Prop extends Gw S F where
  hd : F[0]? = some first
  cl : ∀ p ∈ F, ∀ s : Nat, s < size.toNat → g p s ∈ F
theorem grow_ok {S : Pt → Prop} {g : Pt → Int → Pt} {n B : Nat} {first : Pt} (hg : ∀ p, S p → ∀ s : Nat, s < n → S (g p s)) (hB : ∀ L, Gw S L → L.length ≤ B) :
    ∀ (f : Nat) (L : List Pt) (at_ : Nat), Gw S L → L[0]? = some first → (∀ i < at_, ∀ p, L[i]? = some p → ∀ s : Nat, s < n → g p s ∈ L) → B < at_ + f → at_ ≤ L.length →
      Gw S (grow g n f L at_) ∧ (grow g n f L at_)[0]? = some first ∧ (∀ p ∈ grow g n f L at_, ∀ s : Nat, s < n → g p s ∈ grow g n f L at_) ∧ ∃ t, grow g n f L at_ = L ++ t
  | 0, L, at_, h, h0, hc, hb, ha => by
    have := hB L h
    omega
  | f + 1, L, at_, h, h0, hc, hb, ha => by
    unfold grow
    cases e : L[at_]? with
    | none =>
      dsimp only
      refine ⟨h, h0, fun p hp s hs => ?_, [], by simp⟩
      obtain ⟨i, hi⟩ := List.mem_iff_getElem?.mp hp
      have l1 := (List.getElem?_eq_some_iff.mp hi).1
      have l2 := List.getElem?_eq_none_iff.mp e
      exact hc i (by omega) p hi s hs
    | some p =>
      dsimp only
      obtain ⟨k1, ⟨t, k2⟩, k3⟩ := exP_keep (n := n) h (hg p (h.s p (List.mem_of_getElem? e)))
      have l1 := (List.getElem?_eq_some_iff.mp e).1
      have pre : ∀ i < L.length, (exP g p n L)[i]? = L[i]? := fun i hi => by rw [k2, List.getElem?_append_left hi]
      obtain ⟨r1, r2, r3, t2, r4⟩ := grow_ok hg hB f (exP g p n L) (at_ + 1) k1 (by rw [pre 0 (by omega)]; exact h0) (fun i hi q hq s hs => by
        by_cases z : i = at_
        · subst z
          rw [pre i l1, e] at hq
          cases hq
          exact k3 s hs
        · rw [pre i (by omega)] at hq
          rw [k2]
          exact List.mem_append_left _ (hc i (by omega) q hq s hs)) (by omega) (by rw [k2, List.length_append]; omega)
      exact ⟨r1, r2, r3, t ++ t2, by rw [r4, k2, List.append_assoc]⟩
theorem grown_ok {S : Pt → Prop} {g : Pt → Int → Pt} {size : Int} {B : Nat} {first : Pt} (h0 : S first) (hg : ∀ p, S p → ∀ s : Nat, s < size.toNat → S (g p s)) (hB : ∀ L, Gw S L → L.length ≤ B) (b : B < 5000) : Grn S g size first (grown g size first) := by
  obtain ⟨h1, h2, h3, _⟩ := grow_ok (first := first) hg hB 5000 [first] 0 ⟨by simp, fun p hp => by rw [List.mem_singleton.mp hp]; exact h0⟩ rfl (fun i hi => absurd hi (Nat.not_lt_zero i)) (by omega) (by simp)
  exact ⟨h1, h2, h3⟩
theorem idx_app {L t : List Pt} {p : Pt} (h : p ∈ L) : (L ++ t).idxOf p = L.idxOf p := by rw [List.idxOf_append, if_pos h]
theorem exP_mono {g : Pt → Int → Pt} {p : Pt} {L : List Pt} {i : Nat} : ∀ {n : Nat}, i ≤ n → ∃ t, exP g p n L = exP g p i L ++ t
  | 0, h => by
    have : i = 0 := by omega
    subst this
    exact ⟨[], by simp⟩
  | n + 1, h => by
    by_cases q : i = n + 1
    · subst q; exact ⟨[], by simp⟩
    · obtain ⟨t, e⟩ := exP_mono (n := n) (show i ≤ n by omega)
      obtain ⟨t2, e2⟩ := addP_ext (L := exP g p n L) (p := g p n)
      exact ⟨t ++ t2, by rw [exP_succ, e2, e, List.append_assoc]⟩
theorem grow_ext {g : Pt → Int → Pt} {n : Nat} : ∀ (f : Nat) (L : List Pt) (at_ : Nat), ∃ t, grow g n f L at_ = L ++ t
  | 0, L, _ => ⟨[], by simp [grow]⟩
  | f + 1, L, at_ => by
    unfold grow
    cases e : L[at_]? with
    | none => exact ⟨[], by simp⟩
    | some p =>
      obtain ⟨t, h⟩ := exP_mono (g := g) (p := p) (L := L) (n := n) (Nat.zero_le n)
      obtain ⟨t2, h2⟩ := grow_ext f (exP g p n L) (at_ + 1)
      exact ⟨t ++ t2, by dsimp only; rw [h2, h, List.append_assoc]; rfl⟩
/-! the dict of numbers -/
def numD : Nat → List Pt → List (D × D)
  | _, [] => []
  | k, p :: L => (keyD p, .v (.int (k : Nat))) :: numD (k + 1) L
theorem numD_len : ∀ {k : Nat} {L : List Pt}, (numD k L).length = L.length
  | _, [] => rfl
  | k, p :: L => by rw [numD, List.length_cons, List.length_cons, numD_len]
theorem numD_app : ∀ {k : Nat} {L t : List Pt}, numD k (L ++ t) = numD k L ++ numD (k + L.length) t
  | k, [], t => by simp [numD]
  | k, p :: L, t => by
    rw [List.cons_append, numD, numD, numD_app, List.cons_append, List.length_cons]
    rw [show k + 1 + L.length = k + (L.length + 1) by omega]
theorem getN_num : ∀ {k : Nat} {L : List Pt} {p : Pt}, getN (numD k L) (keyD p) = if p ∈ L then some (.v (.int ((k + L.idxOf p : Nat) : Int))) else none
  | k, [], p => rfl
  | k, q :: L, p => by
    unfold getN numD
    rw [List.find?_cons]
    dsimp only
    by_cases h : q = p
    · subst h
      rw [decide_eq_true rfl]
      simp
    · rw [decide_eq_false (fun z => h (keyD_inj.mp z))]
      have ih := getN_num (k := k + 1) (L := L) (p := p)
      unfold getN at ih
      rw [ih]
      have hp : ¬ p = q := fun z => h z.symm
      by_cases m : p ∈ L
      · rw [if_pos m, if_pos (List.mem_cons_of_mem _ m), List.idxOf_cons]
        have : (q == p) = false := by simpa using h
        rw [this]
        simp
        omega
      · rw [if_neg m, if_neg (by simp [hp, m])]
theorem put_num {L : List Pt} {p : Pt} (h : p ∉ L) : putN (numD 0 L) (keyD p) (.v (.int (L.length : Nat))) = numD 0 (L ++ [p]) := by
  have e : getN (numD 0 L) (keyD p) = none := by rw [getN_num, if_neg h]
  rw [putN_new e, numD_app]
  simp [numD]
/-! ### weights -/
def wtG (ws : List Int) (m : Int) (p : Pt) (s : Int) : Pt := ((p.1 + 1) % (ws.length : Nat), (p.2 + (ws[p.1.toNat]?.getD 0) * s) % m)
def wtS (ws : List Int) (m : Int) (p : Pt) : Prop := 0 ≤ p.1 ∧ p.1 < ws.length ∧ 0 ≤ p.2 ∧ p.2 < m
theorem wtS_first {ws : List Int} {m : Int} (h : 1 ≤ ws.length) (hm : 1 ≤ m) : wtS ws m (0, 0) := ⟨Int.le_refl _, by show (0 : Int) < ws.length; omega, Int.le_refl _, by show (0 : Int) < m; omega⟩
theorem wtS_step {ws : List Int} {m : Int} (h : 1 ≤ ws.length) (hm : 1 ≤ m) {p : Pt} {s : Int} : wtS ws m (wtG ws m p s) :=
  ⟨Int.emod_nonneg _ (by omega), Int.emod_lt_of_pos _ (by omega), Int.emod_nonneg _ (by omega), Int.emod_lt_of_pos _ (by omega)⟩
theorem wtS_len {ws : List Int} {m : Int} (hm : (ws.length : Int) * m ≤ 200) (h1 : 1 ≤ m) {L : List Pt} (g : Gw (wtS ws m) L) : L.length ≤ 200 := by
  obtain ⟨k, rfl⟩ := Int.eq_ofNat_of_zero_le (show 0 ≤ m by omega)
  have h := nodup_lt (ws.length * k) (L.map fun e => e.1.toNat * k + e.2.toNat) ?_ ?_
  · rw [List.length_map] at h
    have : ((ws.length * k : Nat) : Int) ≤ 200 := by rw [Int.natCast_mul]; exact hm
    omega
  · have nd := g.nd
    have bd := g.s
    clear g
    induction L with
    | nil => exact List.nodup_nil
    | cons e L ih =>
      rw [List.map_cons, List.nodup_cons]
      rw [List.nodup_cons] at nd
      refine ⟨fun hx => ?_, ih nd.2 fun x hx => bd x (List.mem_cons_of_mem _ hx)⟩
      obtain ⟨f, hf, ef⟩ := List.mem_map.mp hx
      obtain ⟨a0, a1, a2, a3⟩ := bd e List.mem_cons_self
      obtain ⟨b0, b1, b2, b3⟩ := bd f (List.mem_cons_of_mem _ hf)
      have k0 : 0 < k := by omega
      have e2 : f.2.toNat < k := by omega
      have e3 : e.2.toNat < k := by omega
      have q1 : f.1.toNat = e.1.toNat := by
        have := congrArg (· / k) ef
        simp only [Nat.add_comm _ (f.2.toNat), Nat.add_comm _ (e.2.toNat), Nat.add_mul_div_right _ _ k0, Nat.div_eq_of_lt e2, Nat.div_eq_of_lt e3] at this
        omega
      have q2 : f.2.toNat = e.2.toNat := by rw [q1] at ef; omega
      exact nd.1 (by rw [show e = f from Prod.ext (by omega) (by omega)]; exact hf)
  · intro x hx
    obtain ⟨e, he, rfl⟩ := List.mem_map.mp hx
    obtain ⟨a0, a1, a2, a3⟩ := g.s e he
    have : (e.1.toNat + 1) * k ≤ ws.length * k := Nat.mul_le_mul_right _ (by omega)
    rw [Nat.succ_mul] at this
    show e.1.toNat * k + e.2.toNat < ws.length * k
    omega
def rightG (rest : Int) (F : List Pt) : List Int := ((List.range F.length).filter fun i => decide ((F[i]?.getD (0, 0)).2 = rest)).map fun (i : Nat) => (i : Int)
abbrev wtF (size : Int) (ws : List Int) (m : Int) : List Pt := grown (wtG ws m) size (0, 0)
abbrev wtR (size : Int) (ws : List Int) (m : Int) : List (List Int) := rowsG (wtG ws m) size (wtF size ws m)
abbrev wtT (size : Int) (ws : List Int) (m rest : Int) : List Int := rightG rest (wtF size ws m)
structure WtOk (size : Int) (ws : List Int) (m rest : Int) : Prop where
  s1 : 2 ≤ size
  s2 : size ≤ 12
  w1 : 1 ≤ ws.length
  w2 : ws.length ≤ 12
  w : ∀ x ∈ ws, 0 ≤ x ∧ x ≤ 200
  m1 : 1 ≤ m
  m2 : m ≤ 100
  m3 : (ws.length : Int) * m ≤ 200
  r1 : 0 ≤ rest
  r2 : rest < m
theorem wt_grn {size m rest : Int} {ws : List Int} (h : WtOk size ws m rest) : Grn (wtS ws m) (wtG ws m) size (0, 0) (wtF size ws m) :=
  grown_ok (B := 200) (wtS_first h.w1 h.m1) (fun p _ s _ => wtS_step h.w1 h.m1) (fun L g => wtS_len h.m3 h.m1 g) (by decide)
theorem right_sorted {rest : Int} {F : List Pt} : (rightG rest F).Pairwise (· < ·) := by
  unfold rightG
  rw [List.pairwise_map]
  refine List.Pairwise.imp (fun {a b} h => by omega) (List.Pairwise.filter _ List.pairwise_lt_range)
theorem right_bd {rest : Int} {F : List Pt} : ∀ x ∈ rightG rest F, 0 ≤ x ∧ x < F.length := fun x hx => by
  obtain ⟨i, hi, rfl⟩ := List.mem_map.mp hx
  have := List.mem_range.mp (List.mem_filter.mp hi).1
  omega
theorem grn_sch {S : Pt → Prop} {g : Pt → Int → Pt} {size rest : Int} {first : Pt} {F : List Pt} (h : Grn S g size first F) (s1 : 2 ≤ size) (s2 : size ≤ 12) (hl : F.length ≤ 200) : Sch size (rowsG g size F) (rightG rest F) := by
  have l0 : 0 < F.length := (List.getElem?_eq_some_iff.mp h.hd).1
  refine ⟨s1, s2, by unfold rowsG; rw [List.length_map]; omega, by unfold rowsG; rw [List.length_map]; omega, fun r hr => ?_, right_sorted, fun x hx => by have := right_bd x hx; unfold rowsG; rw [List.length_map]; exact this⟩
  obtain ⟨p, hp, rfl⟩ := List.mem_map.mp hr
  refine ⟨by unfold stepR; rw [List.length_map, List.length_range]; omega, fun x hx => ?_⟩
  obtain ⟨s, hs, rfl⟩ := List.mem_map.mp hx
  have := List.idxOf_lt_length_of_mem (h.cl p hp s (List.mem_range.mp hs))
  unfold rowsG
  rw [List.length_map]
  omega
theorem wt_sch {size m rest : Int} {ws : List Int} (h : WtOk size ws m rest) : Sch size (wtR size ws m) (wtT size ws m rest) := grn_sch (wt_grn h) h.s1 h.s2 (wtS_len h.m3 h.m1 (wt_grn h).toGw)
/-! ### signs that make right; the search for a row behind which two do -/
def sgI (rows : List (List Int)) (right : List Int) (size st : Int) : List Int := ((List.range size.toNat).filter fun s => decide (stepI rows st (s : Nat) ∈ right)).map fun (s : Nat) => (s : Int)
theorem sg_mem {rows : List (List Int)} {right : List Int} {size st s : Int} : s ∈ sgI rows right size st ↔ (0 ≤ s ∧ s < size ∧ stepI rows st s ∈ right) := by
  unfold sgI
  constructor
  · intro h
    obtain ⟨i, hi, rfl⟩ := List.mem_map.mp h
    obtain ⟨h1, h2⟩ := List.mem_filter.mp hi
    have := List.mem_range.mp h1
    exact ⟨by omega, by omega, of_decide_eq_true h2⟩
  · rintro ⟨h1, h2, h3⟩
    obtain ⟨j, rfl⟩ := Int.eq_ofNat_of_zero_le h1
    exact List.mem_map.mpr ⟨j, List.mem_filter.mpr ⟨List.mem_range.mpr (by omega), decide_eq_true h3⟩, rfl⟩
theorem sg_len {rows : List (List Int)} {right : List Int} {size st : Int} : (sgI rows right size st).length ≤ size.toNat := by
  unfold sgI
  rw [List.length_map]
  refine Nat.le_trans (List.length_filter_le _ _) (by rw [List.length_range]; exact Nat.le_refl _)
abbrev E1 : Type := Int × List Int
def addR (L : List E1) (e : E1) : List E1 := if e.1 ∈ L.map (·.1) then L else L ++ [e]
def exR (A : List (List Int)) (p : Int) (row : List Int) (i : Nat) (L : List E1) : List E1 := (List.range i).foldl (fun L (s : Nat) => addR L (stepI A p (s : Int), row ++ [(s : Int)])) L
theorem exR_succ {A : List (List Int)} {p : Int} {row : List Int} {i : Nat} {L : List E1} : exR A p row (i + 1) L = addR (exR A p row i L) (stepI A p i, row ++ [(i : Int)]) := by
  unfold exR
  rw [List.range_succ, List.foldl_append]
  rfl
def reach (A : List (List Int)) (n : Nat) : Nat → List E1 → Nat → List E1
  | 0, L, _ => L
  | f + 1, L, at_ => match L[at_]? with
    | none => L
    | some (p, row) => reach A n f (exR A p row n L) (at_ + 1)
def two (A : List (List Int)) (ra : List Int) (size : Int) (p : Int) : Bool := decide (1 < (sgI A ra size p).length)
def inc (A : List (List Int)) (ra : List Int) (size : Int) : Nat → List E1 → Nat → Option (List Int)
  | 0, _, _ => none
  | f + 1, L, at_ => match L[at_]? with
    | none => none
    | some (p, row) => if two A ra size p = true then some row else inc A ra size f (exR A p row size.toNat L) (at_ + 1)
def incF (A : List (List Int)) (ra : List Int) (size : Int) : Option (List Int) := inc A ra size 5000 [(0, [])] 0
def reachF (A : List (List Int)) (size : Int) : List E1 := reach A size.toNat 5000 [(0, [])] 0
def fstF (A : List (List Int)) (ra : List Int) (size : Int) : Option (List Int) := ((reachF A size).find? fun e => two A ra size e.1).map (·.2)
structure RI (A : List (List Int)) (size : Int) (L : List E1) : Prop where
  nd : (L.map (·.1)).Nodup
  bd : ∀ e ∈ L, 0 ≤ e.1 ∧ e.1 < A.length
  rw : ∀ e ∈ L, (∀ s ∈ e.2, 0 ≤ s ∧ s < size) ∧ ledI A 0 e.2 = e.1
  ln : ∀ (i : Nat) (e : E1), L[i]? = some e → e.2.length ≤ i
theorem RI.len {A : List (List Int)} {size : Int} {L : List E1} (b : RI A size L) : L.length ≤ A.length := by
  have h := nodup_lt A.length (L.map fun e => e.1.toNat) ?_ ?_
  · rw [List.length_map] at h; exact h
  · have nd := b.nd
    have bd := b.bd
    clear b
    induction L with
    | nil => exact List.nodup_nil
    | cons e L ih =>
      rw [List.map_cons, List.nodup_cons] at nd ⊢
      refine ⟨fun hm => ?_, ih nd.2 fun x hx => bd x (List.mem_cons_of_mem _ hx)⟩
      obtain ⟨f, hf, ef⟩ := List.mem_map.mp hm
      have h1 := bd e List.mem_cons_self
      have h2 := bd f (List.mem_cons_of_mem _ hf)
      exact nd.1 (List.mem_map.mpr ⟨f, hf, by omega⟩)
  · intro x hx
    obtain ⟨e, he, rfl⟩ := List.mem_map.mp hx
    have := b.bd e he
    omega
theorem RI.start {size : Int} {A : List (List Int)} (ha : 1 ≤ A.length) : RI A size [(0, [])] := by
  refine ⟨by simp, fun e he => ?_, fun e he => ?_, fun i e he => ?_⟩
  · cases List.mem_singleton.mp he
    exact ⟨Int.le_refl _, by show (0 : Int) < A.length; omega⟩
  · cases List.mem_singleton.mp he
    exact ⟨(fun s hs => nomatch hs), rfl⟩
  · cases i with
    | zero => cases he; exact Nat.le_refl _
    | succ i => cases he
theorem RI.add {m size : Int} {A : List (List Int)} {ra : List Int} {L : List E1} (b : RI A size L) (dA : Drawn m size A ra) {p : Int} {row : List Int} {at_ : Nat} (hat : L[at_]? = some (p, row)) {s : Int} (h0 : 0 ≤ s) (h1 : s < size) :
    RI A size (addR L (stepI A p s, row ++ [s])) := by
  unfold addR
  by_cases h : stepI A p s ∈ L.map (·.1)
  · rw [if_pos h]; exact b
  · rw [if_neg h]
    have hm := List.mem_of_getElem? hat
    have hb := b.bd _ hm
    have hr := b.rw _ hm
    have hl : row.length ≤ at_ := b.ln _ _ hat
    have lt := (List.getElem?_eq_some_iff.mp hat).1
    have sA := step_ok dA hb.1 hb.2 h0 h1
    refine ⟨?_, fun e he => ?_, fun e he => ?_, fun i e he => ?_⟩
    · rw [List.map_append, List.map_cons, List.map_nil, List.nodup_append]
      refine ⟨b.nd, by simp, fun x hx y hy => ?_⟩
      rw [List.mem_singleton.mp hy]
      exact fun z => h (by rw [z] at hx; exact hx)
    · rcases List.mem_append.mp he with he | he
      · exact b.bd e he
      · cases List.mem_singleton.mp he
        exact ⟨sA.1, sA.2⟩
    · rcases List.mem_append.mp he with he | he
      · exact b.rw e he
      · cases List.mem_singleton.mp he
        refine ⟨fun x hx => ?_, ?_⟩
        · rcases List.mem_append.mp hx with hx | hx
          · exact hr.1 x hx
          · rw [List.mem_singleton.mp hx]
            exact ⟨h0, h1⟩
        · show ledI A 0 (row ++ [s]) = _
          rw [led_app, hr.2]
    · by_cases q : i < L.length
      · rw [List.getElem?_append_left q] at he
        exact b.ln i e he
      · rw [List.getElem?_append_right (by omega)] at he
        have : i - L.length = 0 := by
          by_cases z : i - L.length = 0
          · exact z
          · rw [List.getElem?_eq_none (by simp; omega)] at he
            cases he
        rw [this] at he
        cases he
        show (row ++ [s]).length ≤ i
        rw [List.length_append, List.length_singleton]
        omega
theorem addR_ext {L : List E1} {e : E1} : ∃ t, addR L e = L ++ t := by
  unfold addR
  split
  · exact ⟨[], by simp⟩
  · exact ⟨_, rfl⟩
theorem exR_keep {m size : Int} {A : List (List Int)} {ra : List Int} {L : List E1} (b : RI A size L) (dA : Drawn m size A ra) {p : Int} {row : List Int} {at_ : Nat} (hat : L[at_]? = some (p, row)) :
    ∀ i : Nat, (i : Int) ≤ size → RI A size (exR A p row i L) ∧ ∃ t, exR A p row i L = L ++ t
  | 0, _ => ⟨b, [], by simp [exR]⟩
  | i + 1, h => by
    obtain ⟨h1, t, h2⟩ := exR_keep b dA hat i (by omega)
    rw [exR_succ]
    have hat' : (exR A p row i L)[at_]? = some (p, row) := by rw [h2, List.getElem?_append_left (List.getElem?_eq_some_iff.mp hat).1]; exact hat
    obtain ⟨t2, e2⟩ := addR_ext (L := exR A p row i L) (e := (stepI A p i, row ++ [(i : Int)]))
    exact ⟨h1.add dA hat' (by omega) (by omega), t ++ t2, by rw [e2, h2, List.append_assoc]⟩
theorem reach_keep {m size : Int} {A : List (List Int)} {ra : List Int} (dA : Drawn m size A ra) : ∀ (f : Nat) (L : List E1) (at_ : Nat), RI A size L → RI A size (reach A size.toNat f L at_) ∧ ∃ t, reach A size.toNat f L at_ = L ++ t
  | 0, L, _, b => ⟨b, [], by simp [reach]⟩
  | f + 1, L, at_, b => by
    unfold reach
    cases e : L[at_]? with
    | none => exact ⟨b, [], by simp⟩
    | some q =>
      obtain ⟨p, row⟩ := q
      have s1 := dA.s1
      obtain ⟨h1, t, h2⟩ := exR_keep b dA e size.toNat (by omega)
      obtain ⟨h3, t2, h4⟩ := reach_keep dA f (exR A p row size.toNat L) (at_ + 1) h1
      exact ⟨h3, t ++ t2, by dsimp only; rw [h4, h2, List.append_assoc]⟩
theorem inc_reach {m size : Int} {A : List (List Int)} {ra : List Int} (dA : Drawn m size A ra) : ∀ (f : Nat) (L : List E1) (at_ : Nat), RI A size L → at_ ≤ L.length → A.length < at_ + f →
    inc A ra size f L at_ = (((reach A size.toNat f L at_).drop at_).find? fun e => two A ra size e.1).map (·.2)
  | 0, L, at_, b, h1, h2 => by
    have := b.len
    omega
  | f + 1, L, at_, b, h1, h2 => by
    unfold inc reach
    cases e : L[at_]? with
    | none =>
      have := List.getElem?_eq_none_iff.mp e
      rw [List.drop_eq_nil_of_le this]
      rfl
    | some q =>
      obtain ⟨p, row⟩ := q
      dsimp only
      have s1 := dA.s1
      have lt := (List.getElem?_eq_some_iff.mp e).1
      obtain ⟨k1, t, k2⟩ := exR_keep b dA e size.toNat (by omega)
      obtain ⟨_, t2, k4⟩ := reach_keep dA f (exR A p row size.toNat L) (at_ + 1) k1
      have hat : (reach A size.toNat f (exR A p row size.toNat L) (at_ + 1))[at_]? = some (p, row) := by
        rw [k4, k2, List.append_assoc, List.getElem?_append_left lt]
        exact e
      obtain ⟨hl, hg⟩ := List.getElem?_eq_some_iff.mp hat
      rw [List.drop_eq_getElem_cons hl, hg, List.find?_cons]
      by_cases h : two A ra size p = true
      · rw [if_pos h, h]
        rfl
      · have h' : two A ra size p = false := by simpa using h
        rw [if_neg h, h']
        exact inc_reach dA f (exR A p row size.toNat L) (at_ + 1) k1 (by rw [k2, List.length_append]; omega) (by omega)
theorem inc_fst {size : Int} {A : List (List Int)} {ra : List Int} (dA : Sch size A ra) : incF A ra size = fstF A ra size := by
  have n1 := dA.n1
  have n2 := dA.n2
  unfold incF fstF reachF
  rw [inc_reach dA 5000 [(0, [])] 0 (RI.start n1) (by simp) (by omega), List.drop_zero]
theorem fst_some {size : Int} {A : List (List Int)} {ra row : List Int} (dA : Sch size A ra) (h : fstF A ra size = some row) : (∀ s ∈ row, 0 ≤ s ∧ s < size) ∧ row.length ≤ 5000 ∧ two A ra size (ledI A 0 row) = true := by
  unfold fstF at h
  obtain ⟨e, h1, rfl⟩ := Option.map_eq_some_iff.mp h
  have h2 := List.find?_some h1
  have hm := List.mem_of_find?_eq_some h1
  obtain ⟨b, _⟩ := reach_keep dA 5000 [(0, [])] 0 (RI.start dA.n1)
  have h3 := b.rw e hm
  obtain ⟨i, hi⟩ := List.mem_iff_getElem?.mp hm
  have h4 := b.ln i e hi
  have h5 := (List.getElem?_eq_some_iff.mp hi).1
  have h6 := b.len
  have n2 := dA.n2
  have h7 : (reachF A size).length = (reach A size.toNat 5000 [(0, [])] 0).length := rfl
  exact ⟨h3.1, by omega, by rw [h3.2]; exact h2⟩
/-! ### complete -/
def compB (size : Int) (ws : List Int) (m rest : Int) : Bool := (List.range (wtF size ws m).length).all fun (st : Nat) => decide ((sgI (wtR size ws m) (wtT size ws m rest) size (st : Nat)).length = 1)
theorem comp1 : ([(2, 1), (3, 2), (5, 3), (7, 4), (10, 3), (10, 7), (11, 10)] : List (Int × Int)).all (fun p => (List.range p.1.toNat).all fun (r : Nat) => compB p.1 [p.2] p.1 (r : Nat)) = true := by decide +kernel
theorem comp2 : compB 10 [1, 3] 10 0 = true := by decide +kernel
theorem inc12 : incF (wtR 10 [1, 2] 10) (wtT 10 [1, 2] 10 0) 10 = some [0] := by decide +kernel
theorem comp_sg {size m rest : Int} {ws : List Int} (h : compB size ws m rest = true) {st : Int} (h0 : 0 ≤ st) (h1 : st < (wtR size ws m).length) : (sgI (wtR size ws m) (wtT size ws m rest) size st).length = 1 := by
  obtain ⟨j, rfl⟩ := Int.eq_ofNat_of_zero_le h0
  unfold compB at h
  rw [List.all_eq_true] at h
  have l : (wtR size ws m).length = (wtF size ws m).length := List.length_map ..
  exact of_decide_eq_true (h j (List.mem_range.mpr (by omega)))
theorem comp_inc {size m rest : Int} {ws : List Int} (d : Sch size (wtR size ws m) (wtT size ws m rest)) (h : compB size ws m rest = true) : incF (wtR size ws m) (wtT size ws m rest) size = none := by
  rw [inc_fst d]
  cases e : fstF (wtR size ws m) (wtT size ws m rest) size with
  | none => rfl
  | some row =>
    obtain ⟨h1, _, h3⟩ := fst_some d e
    have n1 := d.n1
    have hl := led_ok d (Int.le_refl 0) (by omega) h1
    unfold two at h3
    rw [comp_sg h hl.1 hl.2] at h3
    cases h3
theorem rg_at {n : Int} {i : Nat} {d : D} (h : ((List.range n.toNat).map fun i => D.v (.int ((i : Nat) : Int)))[i]? = some d) : i < n.toNat ∧ d = .v (.int ((i : Nat) : Int)) := by
  rw [List.getElem?_map] at h
  by_cases hi : i < n.toNat
  · rw [List.getElem?_range hi] at h
    cases h
    exact ⟨hi, rfl⟩
  · rw [List.getElem?_eq_none (by simpa using hi)] at h
    cases h
theorem mput_none {M : MS} {p q : Addr} {o : MO} (h : mput M p o q = none) : q ≠ p ∧ M q = none := by
  by_cases e : q = p
  · rw [e, mput_same] at h; cases h
  · rw [mput_ne e] at h; exact ⟨e, h⟩
/-! ### promises -/
def growFl (a b c : Addr) : List (Str × D) := [("places", .v (.ref a)), ("number_of", .v (.ref b)), ("steps", .v (.ref c))]
theorem grP1 {a : D} : putD "places" a [] = [(("places" : Str), a)] := rfl
theorem grP2 {a b : D} : putD "number_of" b [(("places" : Str), a)] = [(("places" : Str), a), (("number_of" : Str), b)] := rfl
theorem grP3 {a b c : Addr} : putD "steps" (.v (.ref c)) [(("places" : Str), .v (.ref a)), (("number_of" : Str), .v (.ref b))] = growFl a b c := rfl
theorem grL1 {a b c : Addr} : (growFl a b c).lookup ("places" : Str) = some (.v (.ref a)) := rfl
theorem grL2 {a b c : Addr} : (growFl a b c).lookup ("number_of" : Str) = some (.v (.ref b)) := rfl
theorem grL3 {a b c : Addr} : (growFl a b c).lookup ("steps" : Str) = some (.v (.ref c)) := rfl
def zg_Growing (K : PySem.W.Frag) : ZGp := fun f zo ds M Q E => ∃ (x dx : Addr) (size : Int) (first : Pt) (g : Pt → Int → Pt) (S : Pt → Prop) (B : Nat), ds = [.v (.ref x), .v (.int size), keyD first, .v (.ref f), .v .non] ∧ M x = some (.ins (He.ga K "Growing") dx []) ∧
  1 ≤ size ∧ size ≤ 12 ∧ S first ∧ (∀ p, S p → ∀ s : Nat, s < size.toNat → S (g p s)) ∧ (∀ L, Gw S L → L.length ≤ B) ∧ B ≤ 4000 ∧
  (∀ (p : Pt) (s : Int) (M' : MS) (Q' : ZQ) (E' : ZX), S p → 0 ≤ s → s < size → Q' (keyD (g p s)) M' → zo [keyD p, .v (.int s)] M' Q' E') ∧
  ∀ (M' : MS) (a b c : Addr), Kx x M M' → M a = none → M b = none → M c = none → a ≠ c → M' x = some (.ins (He.ga K "Growing") dx (growFl a b c)) → M' a = some (.lst ((grown g size first).map keyD)) → M' c = some (.lst ((rowsG g size (grown g size first)).map rowD)) → Q (.v .non) M'
theorem hl_Growing___init__ {K : PySem.W.Frag} : ∀ f zo ds M Q E, zg_Growing K f zo ds M Q E → ds.length = 5 := fun f zo ds M Q E h => by
  obtain ⟨_, _, _, _, _, _, _, rfl, _⟩ := h
  rfl
def zn_weighted_onward : ZFp := fun cs ds M Q E => ∃ (ws : List Int) (m : Int) (p : Pt) (s : Int), cs = [rowD ws, .v (.int m)] ∧ ds = [keyD p, .v (.int s)] ∧ wtS ws m p ∧ 1 ≤ ws.length ∧ ws.length ≤ 12 ∧ (∀ x ∈ ws, 0 ≤ x ∧ x ≤ 200) ∧ 1 ≤ m ∧ m ≤ 100 ∧ 0 ≤ s ∧ s ≤ 12 ∧ Q (keyD (wtG ws m p s)) M
theorem hln_weighted_onward : ∀ cs ds M Q E, zn_weighted_onward cs ds M Q E → ds.length = 2 := fun cs ds M Q E h => by
  obtain ⟨_, _, _, _, _, rfl, _⟩ := h
  rfl
def zp_weighted (K : PySem.W.Frag) : ZSp := fun ds M Q E => ∃ (size m rest : Int) (ws : List Int), ds = [.v (.int size), rowD ws, .v (.int m), .v (.int rest)] ∧ WtOk size ws m rest ∧ M (tP K "weighted") = some (.tbl (qN "weighted" "onward")) ∧
  ∀ M', Kp M M' → Q (schD K size (wtR size ws m) (wtT size ws m rest)) M'
theorem hl_weighted {K : PySem.W.Frag} : ∀ ds M Q E, zp_weighted K ds M Q E → ds.length = 4 := fun ds M Q E h => by
  obtain ⟨_, _, _, _, rfl, _⟩ := h
  rfl
structure TbOk (size : Int) (A : List (List Int)) : Prop where
  s1 : 2 ≤ size
  s2 : size ≤ 12
  l : (A.length : Int) = size
  r : ∀ r ∈ A, (r.length : Int) = size ∧ ∀ x ∈ r, 0 ≤ x ∧ x < size
theorem TbOk.sch {size : Int} {A : List (List Int)} (h : TbOk size A) : Sch size A [0] := by
  have h1 := h.s1
  have h2 := h.s2
  have h3 := h.l
  refine ⟨h1, h2, by omega, by omega, fun r hr => ?_, by simp, fun x hx => ?_⟩
  · rw [h3]
    exact h.r r hr
  · rw [List.mem_singleton.mp hx]
    omega
def zp_by_table (K : PySem.W.Frag) : ZSp := fun ds M Q E => ∃ (size : Int) (A : List (List Int)), ds = [.v (.int size), rowsD A] ∧ TbOk size A ∧ Q (schD K size A [0]) M
theorem hl_by_table {K : PySem.W.Frag} : ∀ ds M Q E, zp_by_table K ds M Q E → ds.length = 2 := fun ds M Q E h => by
  obtain ⟨_, _, rfl, _⟩ := h
  rfl
def zp_check_table : ZSp := fun ds M Q E => ∃ (size : Int) (A : List (List Int)), ds = [.v (.int size), rowsD A] ∧ TbOk size A ∧ Q (.v .non) M
theorem hl_check_table : ∀ ds M Q E, zp_check_table ds M Q E → ds.length = 2 := fun ds M Q E h => by
  obtain ⟨_, _, rfl, _⟩ := h
  rfl
def zp_check_row : ZSp := fun ds M Q E => ∃ (size : Int) (row : List Int), ds = [.v (.int size), rowD row] ∧ row.length ≤ 1000000 ∧ (∀ x ∈ row, 0 ≤ x ∧ x < size) ∧ Q (.v .non) M
theorem hl_check_row : ∀ ds M Q E, zp_check_row ds M Q E → ds.length = 2 := fun ds M Q E h => by
  obtain ⟨_, _, rfl, _⟩ := h
  rfl
def zp_signs_of (K : PySem.W.Frag) : ZSp := fun ds M Q E => ∃ (size : Int) (rows : List (List Int)) (right : List Int) (st : Int), ds = [schD K size rows right, .v (.int st)] ∧ Sch size rows right ∧ 0 ≤ st ∧ st < rows.length ∧ Q (rowD (sgI rows right size st)) M
theorem hl_signs_of {K : PySem.W.Frag} : ∀ ds M Q E, zp_signs_of K ds M Q E → ds.length = 2 := fun ds M Q E h => by
  obtain ⟨_, _, _, _, rfl, _⟩ := h
  rfl
def zp_check_signs (K : PySem.W.Frag) : ZSp := fun ds M Q E => ∃ (size : Int) (rows : List (List Int)) (right row : List Int), ds = [schD K size rows right, rowD row] ∧ Sch size rows right ∧ row.length ≤ 1000000 ∧ (∀ x ∈ row, 0 ≤ x ∧ x < size) ∧ Q (rowD (sgI rows right size (ledI rows 0 row))) M
theorem hl_check_signs {K : PySem.W.Frag} : ∀ ds M Q E, zp_check_signs K ds M Q E → ds.length = 2 := fun ds M Q E h => by
  obtain ⟨_, _, _, _, rfl, _⟩ := h
  rfl
def zp_first_incomplete (K : PySem.W.Frag) : ZSp := fun ds M Q E => ∃ (size : Int) (rows : List (List Int)) (right : List Int), ds = [schD K size rows right] ∧ Sch size rows right ∧ ∀ M', Kp M M' → Q (optD (incF rows right size)) M'
theorem hl_first_incomplete {K : PySem.W.Frag} : ∀ ds M Q E, zp_first_incomplete K ds M Q E → ds.length = 1 := fun ds M Q E h => by
  obtain ⟨_, _, _, rfl, _⟩ := h
  rfl
abbrev zp_incomplete := zp_first_incomplete
theorem hl_incomplete {K : PySem.W.Frag} : ∀ ds M Q E, zp_incomplete K ds M Q E → ds.length = 1 := hl_first_incomplete
def zp_is_complete (K : PySem.W.Frag) : ZSp := fun ds M Q E => ∃ (size : Int) (rows : List (List Int)) (right : List Int), ds = [schD K size rows right] ∧ Sch size rows right ∧ ∀ M', Kp M M' → Q (.v (.bl (incF rows right size).isNone)) M'
theorem hl_is_complete {K : PySem.W.Frag} : ∀ ds M Q E, zp_is_complete K ds M Q E → ds.length = 1 := fun ds M Q E h => by
  obtain ⟨_, _, _, rfl, _⟩ := h
  rfl
/-- the dict of rows -/
def kv1 (L : List E1) : List (Key × D) := L.map fun e => (.inl e.1, rowD e.2)
theorem kv1_len {L : List E1} : (kv1 L).length = L.length := List.length_map ..
theorem val_kv1 {L : List E1} {p : Int} : valD (kv1 L) (.inl p) = (L.find? fun e => decide (e.1 = p)).map fun e => rowD e.2 := valD_map
theorem some_kv1 {L : List E1} {p : Int} : (valD (kv1 L) (.inl p)).isSome = decide (p ∈ L.map (·.1)) := by
  rw [val_kv1]
  induction L with
  | nil => rfl
  | cons e L ih =>
    rw [List.find?_cons]
    by_cases h : e.1 = p
    · rw [decide_eq_true h]
      simp [h]
    · rw [decide_eq_false h]
      simp only [ih, List.map_cons, List.mem_cons]
      have : ¬ p = e.1 := fun z => h z.symm
      simp [this]
theorem at_kv1 {L : List E1} (nd : (L.map (·.1)).Nodup) {i : Nat} {p : Int} {r : List Int} (h : L[i]? = some (p, r)) : valD (kv1 L) (.inl p) = some (rowD r) := by
  rw [val_kv1]
  induction L generalizing i with
  | nil => cases h
  | cons e L ih =>
    rw [List.find?_cons]
    rw [List.map_cons, List.nodup_cons] at nd
    cases i with
    | zero =>
      cases h
      rw [decide_eq_true rfl]
      rfl
    | succ i =>
      have ne : ¬ e.1 = p := fun z => nd.1 (List.mem_map.mpr ⟨(p, r), List.mem_of_getElem? h, z.symm⟩)
      rw [decide_eq_false ne]
      exact ih nd.2 h
theorem put_kv1 {L : List E1} {p : Int} {r : List Int} (h : p ∉ L.map (·.1)) : putKD (kv1 L) (.inl p) (rowD r) = kv1 (L ++ [(p, r)]) := by
  have e : valD (kv1 L) (.inl p) = none := by
    have := some_kv1 (L := L) (p := p)
    rw [decide_eq_false h] at this
    exact Option.not_isSome_iff_eq_none.mp (by rw [this]; decide)
  rw [putKD_new e]
  unfold kv1
  rw [List.map_append]
  rfl
def zp__law_reached : ZSp := fun ds M Q E => ∃ (size : Int) (rows : List (List Int)) (right : List Int), ds = [ptD size rows right] ∧ Sch size rows right ∧ ∀ M' p, M p = none → Kp M M' → M' p = some (.dct (kv1 (reachF rows size))) → Q (.v (.ref p)) M'
theorem hl__law_reached : ∀ ds M Q E, zp__law_reached ds M Q E → ds.length = 1 := fun ds M Q E h => by
  obtain ⟨_, _, _, rfl, _⟩ := h
  rfl
def zp__law_signs : ZSp := fun ds M Q E => ∃ (size : Int) (rows : List (List Int)) (right : List Int) (st : Int), ds = [ptD size rows right, .v (.int st)] ∧ Sch size rows right ∧ 0 ≤ st ∧ st < rows.length ∧ Q (rowD (sgI rows right size st)) M
theorem hl__law_signs : ∀ ds M Q E, zp__law_signs ds M Q E → ds.length = 2 := fun ds M Q E h => by
  obtain ⟨_, _, _, _, rfl, _⟩ := h
  rfl
def zp__law_first : ZSp := fun ds M Q E => ∃ (size : Int) (rows : List (List Int)) (right : List Int), ds = [ptD size rows right] ∧ Sch size rows right ∧ ∀ M', Kp M M' → Q (optD (fstF rows right size)) M'
theorem hl__law_first : ∀ ds M Q E, zp__law_first ds M Q E → ds.length = 1 := fun ds M Q E h => by
  obtain ⟨_, _, _, rfl, _⟩ := h
  rfl
def zp__law_case_right (K : PySem.W.Frag) : ZSp := fun ds M Q E => ∃ (h : Addr) (size : Int) (rows : List (List Int)) (right : List Int), ds = [.v (.ref h), schD K size rows right, ptD size rows right] ∧ Hd M h ∧ Sch size rows right ∧ ∀ M', Hk h M M' → Q (.v (.bl true)) M'
theorem hl__law_case_right {K : PySem.W.Frag} : ∀ ds M Q E, zp__law_case_right K ds M Q E → ds.length = 3 := fun ds M Q E h => by
  obtain ⟨_, _, _, _, rfl, _⟩ := h
  rfl
def zp__law_table : ZSp := fun ds M Q E => ∃ (h : Addr) (size : Int), ds = [.v (.ref h), .v (.int size)] ∧ Hd M h ∧ 2 ≤ size ∧ size ≤ 12 ∧ ∀ A M', TbOk size A → Hk h M M' → Q (rowsD A) M'
theorem hl__law_table : ∀ ds M Q E, zp__law_table ds M Q E → ds.length = 2 := fun ds M Q E h => by
  obtain ⟨_, _, rfl, _⟩ := h
  rfl
theorem cut2 {a b c : D} : Zl.cutD [a, b, c] none (some 2) = [a, b] := rfl
theorem cut_map {α β : Type} {f : α → β} {xs : List α} {lo hi : Option Int} : Zl.cutD (xs.map f) lo hi = (Zl.cutD xs lo hi).map f := by
  unfold Zl.cutD
  rw [List.length_map, List.map_take, List.map_drop]
theorem sch_cut {size : Int} {A : List (List Int)} {ra : List Int} {lo hi : Option Int} (h : Sch size A ra) : Sch size A (Zl.cutD ra lo hi) :=
  ⟨h.s1, h.s2, h.n1, h.n2, h.r, h.a.sublist ((List.take_sublist ..).trans (List.drop_sublist ..)), fun x hx => h.b x (cut_mem hx)⟩
theorem wt_ok {size w r : Int} (h : (size, w) ∈ ([(2, 1), (3, 2), (5, 3), (7, 4), (10, 3), (10, 7), (11, 10)] : List (Int × Int))) (r0 : 0 ≤ r) (r1 : r < size) : WtOk size [w] size r ∧ compB size [w] size r = true := by
  have hc := List.all_eq_true.mp comp1 _ h
  obtain ⟨j, rfl⟩ := Int.eq_ofNat_of_zero_le r0
  refine ⟨?_, List.all_eq_true.mp hc j (List.mem_range.mpr (by show j < size.toNat; omega))⟩
  simp only [List.mem_cons, Prod.mk.injEq, List.not_mem_nil, or_false] at h
  rcases h with ⟨rfl, rfl⟩ | ⟨rfl, rfl⟩ | ⟨rfl, rfl⟩ | ⟨rfl, rfl⟩ | ⟨rfl, rfl⟩ | ⟨rfl, rfl⟩ | ⟨rfl, rfl⟩ <;>
    exact ⟨by decide, by decide, by decide, by decide, (fun x hx => by rw [List.mem_singleton.mp hx]; decide), by decide, by decide, by decide, r0, r1⟩
theorem wt13 : WtOk 10 [1, 3] 10 0 := ⟨by decide, by decide, by decide, by decide, (fun x hx => by simp only [List.mem_cons, List.not_mem_nil, or_false] at hx; rcases hx with rfl | rfl <;> decide), by decide, by decide, by decide, by decide, by decide⟩
theorem wt12 : WtOk 10 [1, 2] 10 0 := ⟨by decide, by decide, by decide, by decide, (fun x hx => by simp only [List.mem_cons, List.not_mem_nil, or_false] at hx; rcases hx with rfl | rfl <;> decide), by decide, by decide, by decide, by decide, by decide⟩
theorem ints_erase : ∀ {xs : List Int} {k : Nat}, (dInts xs).eraseIdx k = dInts (xs.eraseIdx k)
  | [], k => rfl
  | x :: xs, 0 => rfl
  | x :: xs, k + 1 => by
    have ih := ints_erase (xs := xs) (k := k)
    unfold dInts at ih ⊢
    rw [List.map_cons, List.eraseIdx_cons_succ, List.eraseIdx_cons_succ, ih, List.map_cons]
theorem row_at {row : List Int} {i : Nat} {x : Int} (h : row[i]? = some x) : atI (dInts row) i = some (.v (.int x)) := by
  rw [zat_nat, Zl.ints_get, h]
  rfl
theorem ok__law_hand (T : Tx K mg base) : DefAt P w K mg base 1 "_law_hand" ["script"] (zp__law_hand) := by
  refine zok T.d__law_hand sc__law_hand hl__law_hand (fun f cdv A outer s H E w0 Ez hr hW => ⟨(tSeq (tAsg (tLc (iSeq K (tSl (rSlS K) (tVar 0) tNoPart (tPart (tC (.int 63))))) (gName 2) tYes (tCB rAbs (tCons (tCB rInt1 (tCons (tVar 2) tNil)) tNil)) [2]) (gName 1))
  (tRet (tLst (tCons (tVar 1) (tCons (tC (.int 0)) (tCons (tC (.int 0)) (tCons (tOp (rAddA K) (tC (.int 113)) (tOp (rMulA K) (tC (.int 29)) (tCB (rLenA K) (tCons (tVar 1) tNil)))) (tCons (tC (.int 0)) tNil)))))))), _,
  (pss_cons (ps_setLc (i := 1) (own := [("cell", 2)]) rfl sc__law_hand.nd rfl rfl (sw_true rfl rfl rfl (by decide +kernel)) (pi_seq (pe_slice sl_seqA (pv 0) po_none (po_some pe_int))) (blkOk_by (by kernel_rfl)) (fun _ _ _ _ _ => (pg_name (i := 2) sc__law_hand.nd rfl (Or.inl rfl))) (fun _ _ _ _ _ => pts_nil) (fun _ _ _ _ _ => (pe_callB call_abs rfl T.f_abs (by decide +kernel) (pa_cons (pe_callTy call_int1 rfl T.f_int (by decide +kernel) (pa_cons (pv 2) pa_nil)) pa_nil))))
  (pss_one (ps_ret (pe_lst (pa_cons (pv 1) (pa_cons pe_int (pa_cons pe_int (pa_cons (pe_op op_addA pe_int (pe_op op_mulA pe_int (pe_callB call_lenA rfl T.f_len (by decide +kernel) (pa_cons (pv 1) pa_nil)))) (pa_cons pe_int pa_nil))))))))),
  (ls_seq (ls_asg (le_lc (li_seq (le_cut le_var lo_none (lo_some le_c))) lg_name mono_name (wo_name (by decide)) lt_yes (le_cb lra_abs (la_cons (le_cb lra_int (la_cons le_var la_nil)) la_nil))) lg_name)
  (ls_ret (le_lstM (la_cons le_var (la_cons le_c (la_cons le_c (la_cons (le_op lr_add le_c (le_op lr_mul le_c (le_cb lra_len (la_cons le_var la_nil)))) (la_cons le_c la_nil)))))))), ?z⟩)
  case z =>
    intro ds Qz h
    obtain ⟨ns, rfl, hn, k⟩ := h
    walk_at "z"
    have hl : (Zl.cutD (ns.map fun n => D.v (.int n)) none (some 63)).length ≤ 63 := by
      unfold Zl.cutD
      rw [List.length_take, List.length_drop, List.length_map]
      omega
    have hm : ∀ d, d ∈ Zl.cutD (ns.map fun n => D.v (.int n)) none (some 63) → ∃ i : Int, d = .v (.int i) := fun d hd => by
      obtain ⟨n, _, rfl⟩ := List.mem_map.mp (List.mem_of_mem_drop (List.mem_of_mem_take hd))
      exact ⟨n, rfl⟩
    generalize Zl.cutD (ns.map fun n => D.v (.int n)) none (some 63) = xs at hl hm
    refine zlc (fun i acc M' => M' = w0.M ∧ ∀ c ∈ acc, ∃ i : Int, c = .v (.int i)) (by rw [sizeLine_eq]; omega) ?_ ?_ ⟨rfl, by simp⟩
    · rintro i d acc M' k1 k2 hd ⟨rfl, ha⟩ h1 h2
      obtain ⟨n, rfl⟩ := hm d (List.mem_of_getElem? hd)
      walk_at "z"
      refine h1 _ _ ⟨rfl, fun c hc => ?_⟩
      rcases List.mem_append.mp hc with hc | hc
      · exact ha c hc
      · exact ⟨_, List.mem_singleton.mp hc⟩
    · rintro acc M' ⟨rfl, ha⟩ hl2
      try walk_at "z"
      intro p hp
      exact k p _ hp (Hd.put (l := 0) ha)
theorem ok__law_draw (T : Tx K mg base) : DefAt P w K mg base 1 "_law_draw" ["hand", "many"] (zp__law_draw) := by
  refine zok T.d__law_draw sc__law_draw hl__law_draw (fun f cdv A outer s H E w0 Ez hr hW => ⟨(tSeq (tIfS (tAnd (tTest (tOp (rEqD K) (tOp (rIx K) (tVar 0) (tC (.int 2))) (tC (.int 0)))) (tTest (tOp (rI0 fun i j => .bl (decide (i < j))) (tOp (rIx K) (tVar 0) (tC (.int 1))) (tCB (rLenA K) (tCons (tOp (rIx K) (tVar 0) (tC (.int 0))) tNil))))) (tSeq (tAsg (tOp (rIx K) (tOp (rIx K) (tVar 0) (tC (.int 0))) (tOp (rIx K) (tVar 0) (tC (.int 1)))) (gName 2))
  (tSeq (tAsg (tOp (rAddA K) (tOp (rIx K) (tVar 0) (tC (.int 1))) (tC (.int 1))) (gSub (tVar 0) (tC (.int 1)) rSetL))
  (tSeq (tAsg (tOp (rI (fun _ j => 0 < j) fun i j => .int (i % j)) (tCB rInt1 (tCons (tOp (rAddA K) (tOp (rAddA K) (tOp (rMulA K) (tOp (rIx K) (tVar 0) (tC (.int 3))) (tC (.int 69621))) (tOp (rMulA K) (tVar 2) (tC (.int 48271)))) (tC (.int 17))) tNil)) (tC (.int 2147483629))) (gSub (tVar 0) (tC (.int 3)) rSetL))
  (tIfS (tTest (tOp (rI0 fun i j => .bl (decide (j ≤ i))) (tVar 2) (tOp (rI CPow fun i j => .int (i ^ j.toNat)) (tC (.int 10)) (tC (.int 18))))) (tAsg (tVar 2) (gSub (tVar 0) (tC (.int 2)) rSetL)) tNext)))) tNext)
  (tSeq (tIfS (tTest (tOp (rI0 fun i j => .bl (decide (j < i))) (tOp (rIx K) (tVar 0) (tC (.int 2))) (tC (.int 0)))) (tSeq (tAsg (tOp (rI (fun _ j => 0 < j) fun i j => .int (i % j)) (tCB rInt1 (tCons (tOp (rIx K) (tVar 0) (tC (.int 2))) tNil)) (tVar 1)) (gName 3))
  (tSeq (tAsg (tOp (rI CDivW fun i j => .int (i / j)) (tOp (rIx K) (tVar 0) (tC (.int 2))) (tVar 1)) (gSub (tVar 0) (tC (.int 2)) rSetL))
  (tRet (tVar 3)))) tNext)
  (tSeq (tAsg (tOp (rAddA K) (tOp (rIx K) (tVar 0) (tC (.int 4))) (tC (.int 1))) (gSub (tVar 0) (tC (.int 4)) rSetL))
  (tSeq (tAsg (tOp (rI (fun _ j => 0 < j) fun i j => .int (i % j)) (tCB rInt1 (tCons (tOp (rMulA K) (tCB rInt1 (tCons (tOp (rAddA K) (tOp (rIx K) (tVar 0) (tC (.int 3))) (tOp (rMulA K) (tC (.int 7919)) (tOp (rIx K) (tVar 0) (tC (.int 4))))) tNil)) (tC (.int 40692))) tNil)) (tC (.int 2147483647))) (gName 4))
  (tSeq (tAsg (tOp (rI (fun _ j => 0 < j) fun i j => .int (i % j)) (tCB rInt1 (tCons (tOp (rMulA K) (tVar 4) (tOp (rAddA K) (tOp (rI CDivW fun i j => .int (i / j)) (tVar 4) (tC (.int 1009))) (tC (.int 69621)))) tNil)) (tC (.int 2147483647))) (gName 4))
  (tSeq (tAsg (tOp (rI (fun _ j => 0 < j) fun i j => .int (i % j)) (tCB rInt1 (tCons (tOp (rMulA K) (tVar 4) (tOp (rAddA K) (tOp (rI CDivW fun i j => .int (i / j)) (tVar 4) (tC (.int 2003))) (tC (.int 40014)))) tNil)) (tC (.int 2147483563))) (gName 4))
  (tRet (tOp (rI (fun _ j => 0 < j) fun i j => .int (i % j)) (tCB rInt1 (tCons (tOp (rI CDivW fun i j => .int (i / j)) (tVar 4) (tC (.int 16))) tNil)) (tVar 1))))))))), _,
  (pss_cons (ps_if (PW.pt (pw_and (pt_cmpR (op_eqD hr.units) (pe_ix ix_seq (pv 0) pe_int (fun _ _ => rfl)) pe_int (nomark _)) (pw_and1 (pt_cmpR op_lt (pe_ix ix_seq (pv 0) pe_int (fun _ _ => rfl)) (pe_callB call_lenA rfl T.f_len (by decide +kernel) (pa_cons (pe_ix ix_seq (pv 0) pe_int (fun _ _ => rfl)) pa_nil)) (nomark _))))) (pss_cons (ps_set (i := 2) sc__law_draw.nd rfl (Or.inl rfl) (pe_ix ix_seq (pe_ix ix_seq (pv 0) pe_int (fun _ _ => rfl)) (pe_ix ix_seq (pv 0) pe_int (fun _ _ => rfl)) (fun _ _ => rfl)))
  (pss_cons (ps_asg (pe_op op_addA (pe_ix ix_seq (pv 0) pe_int (fun _ _ => rfl)) pe_int) (pg_sub (pv 0) pe_int set_list))
  (pss_cons (ps_asg (pe_op op_mod (pe_callTy call_int1 rfl T.f_int (by decide +kernel) (pa_cons (pe_op op_addA (pe_op op_addA (pe_op op_mulA (pe_ix ix_seq (pv 0) pe_int (fun _ _ => rfl)) pe_int) (pe_op op_mulA (pv 2) pe_int)) pe_int) pa_nil)) pe_int) (pg_sub (pv 0) pe_int set_list))
  (pss_one (ps_if (pt_cmpR op_ge (pv 2) (pe_op op_pow pe_int pe_int) (nomark _)) (pss_one (ps_asg (pv 2) (pg_sub (pv 0) pe_int set_list))) pss_nil))))) pss_nil)
  (pss_cons (ps_if (pt_cmpR op_gt (pe_ix ix_seq (pv 0) pe_int (fun _ _ => rfl)) pe_int (nomark _)) (pss_cons (ps_set (i := 3) sc__law_draw.nd rfl (Or.inl rfl) (pe_op op_mod (pe_callTy call_int1 rfl T.f_int (by decide +kernel) (pa_cons (pe_ix ix_seq (pv 0) pe_int (fun _ _ => rfl)) pa_nil)) (pv 1)))
  (pss_cons (ps_asg (pe_op op_fdivW (pe_ix ix_seq (pv 0) pe_int (fun _ _ => rfl)) (pv 1)) (pg_sub (pv 0) pe_int set_list))
  (pss_one (ps_ret (pv 3))))) pss_nil)
  (pss_cons (ps_asg (pe_op op_addA (pe_ix ix_seq (pv 0) pe_int (fun _ _ => rfl)) pe_int) (pg_sub (pv 0) pe_int set_list))
  (pss_cons (ps_set (i := 4) sc__law_draw.nd rfl (Or.inl rfl) (pe_op op_mod (pe_callTy call_int1 rfl T.f_int (by decide +kernel) (pa_cons (pe_op op_mulA (pe_callTy call_int1 rfl T.f_int (by decide +kernel) (pa_cons (pe_op op_addA (pe_ix ix_seq (pv 0) pe_int (fun _ _ => rfl)) (pe_op op_mulA pe_int (pe_ix ix_seq (pv 0) pe_int (fun _ _ => rfl)))) pa_nil)) pe_int) pa_nil)) pe_int))
  (pss_cons (ps_set (i := 4) sc__law_draw.nd rfl (Or.inl rfl) (pe_op op_mod (pe_callTy call_int1 rfl T.f_int (by decide +kernel) (pa_cons (pe_op op_mulA (pv 4) (pe_op op_addA (pe_op op_fdivW (pv 4) pe_int) pe_int)) pa_nil)) pe_int))
  (pss_cons (ps_set (i := 4) sc__law_draw.nd rfl (Or.inl rfl) (pe_op op_mod (pe_callTy call_int1 rfl T.f_int (by decide +kernel) (pa_cons (pe_op op_mulA (pv 4) (pe_op op_addA (pe_op op_fdivW (pv 4) pe_int) pe_int)) pa_nil)) pe_int))
  (pss_one (ps_ret (pe_op op_mod (pe_callTy call_int1 rfl T.f_int (by decide +kernel) (pa_cons (pe_op op_fdivW (pv 4) pe_int) pa_nil)) (pv 1)))))))))),
  (ls_seq (ls_if (lt_and (lt_test (le_op lr_eq (le_op lr_ix le_var le_c) le_c)) (lt_test (le_op lr_I0 (le_op lr_ix le_var le_c) (le_cb lra_len (la_cons (le_op lr_ix le_var le_c) la_nil))))) (ls_seq (ls_asg (le_op lr_ix (le_op lr_ix le_var le_c) (le_op lr_ix le_var le_c)) lg_name)
  (ls_seq (ls_asg (le_op lr_add (le_op lr_ix le_var le_c) le_c) (lg_sub le_var le_c lset_list))
  (ls_seq (ls_asg (le_op lr_I (le_cb lra_int (la_cons (le_op lr_add (le_op lr_add (le_op lr_mul (le_op lr_ix le_var le_c) le_c) (le_op lr_mul le_var le_c)) le_c) la_nil)) le_c) (lg_sub le_var le_c lset_list))
  (ls_if (lt_test (le_op lr_I0 le_var (le_op lr_I le_c le_c))) (ls_asg le_var (lg_sub le_var le_c lset_list)) ls_next)))) ls_next)
  (ls_seq (ls_if (lt_test (le_op lr_I0 (le_op lr_ix le_var le_c) le_c)) (ls_seq (ls_asg (le_op lr_I (le_cb lra_int (la_cons (le_op lr_ix le_var le_c) la_nil)) le_var) lg_name)
  (ls_seq (ls_asg (le_op lr_I (le_op lr_ix le_var le_c) le_var) (lg_sub le_var le_c lset_list))
  (ls_ret le_var))) ls_next)
  (ls_seq (ls_asg (le_op lr_add (le_op lr_ix le_var le_c) le_c) (lg_sub le_var le_c lset_list))
  (ls_seq (ls_asg (le_op lr_I (le_cb lra_int (la_cons (le_op lr_mul (le_cb lra_int (la_cons (le_op lr_add (le_op lr_ix le_var le_c) (le_op lr_mul le_c (le_op lr_ix le_var le_c))) la_nil)) le_c) la_nil)) le_c) lg_name)
  (ls_seq (ls_asg (le_op lr_I (le_cb lra_int (la_cons (le_op lr_mul le_var (le_op lr_add (le_op lr_I le_var le_c) le_c)) la_nil)) le_c) lg_name)
  (ls_seq (ls_asg (le_op lr_I (le_cb lra_int (la_cons (le_op lr_mul le_var (le_op lr_add (le_op lr_I le_var le_c) le_c)) la_nil)) le_c) lg_name)
  (ls_ret (le_op lr_I (le_cb lra_int (la_cons (le_op lr_I le_var le_c) la_nil)) le_var)))))))), ?z⟩)
  case z =>
    intro ds Qz h
    obtain ⟨h, many, rfl, ⟨cells, l, dg, m, n, hM, hc⟩, h0, h1, k⟩ := h
    have k2 : ∀ (x : Int) (l : Nat) (dg m n : Int), Qz (.v (.int (x % many))) (mput w0.M h (.lst [.lst cells, .v (.int l), .v (.int dg), .v (.int m), .v (.int n)])) := fun x l dg m n =>
      k _ _ (Hd.put hc) (Int.emod_nonneg _ (by omega)) (Int.emod_lt_of_pos _ h0)
    have k3 : ∀ (x : Int) (l : Nat) (dg m n : Int), Qz (.v (.int (x % many))) (mput w0.M h (.lst [.lst cells, .v (.int ((l : Int) + 1)), .v (.int dg), .v (.int m), .v (.int n)])) := fun x l dg m n => k2 x (l + 1) dg m n
    walk_at "zh"
    split
    · split
      · rename_i hl
        obtain ⟨i, hi⟩ := hc (cells[l]'(by omega)) (List.getElem_mem _)
        refine ⟨.v (.int i), by rw [zat_nat, List.getElem?_eq_getElem (by omega), hi], ?_⟩
        walk_at "zh"
        repeat' split
        all_goals first | trivial | exact k3 _ _ _ _ _ | omega
      · repeat' split
        all_goals first | trivial | exact k2 _ _ _ _ _ | omega
    · repeat' split
      all_goals first | trivial | exact k2 _ _ _ _ _ | omega
theorem ok__law_any (T : Tx K mg base) : DefAt P w K mg base 2 "_law_any" ["hand", "some"] (zp__law_any) := by
  refine zok T.d__law_any sc__law_any hl__law_any (fun f cdv A outer s H E w0 Ez hr hW => ⟨(tRet (tOp (rIx K) (tVar 1) (tCallW (spOf K (zp__law_draw)) (WB E) (tCons (tVar 0) (tCons (tCB (rLenA K) (tCons (tVar 1) tNil)) tNil))))), _,
  (pss_one (ps_ret (pe_ix ix_seq (pv 1) (zc_call (ok__law_draw T) (hr.mono (by decide)) rfl tkB (pa_cons (pv 0) (pa_cons (pe_callB call_lenA rfl T.f_len (by decide +kernel) (pa_cons (pv 1) pa_nil)) pa_nil))) (fun _ _ => rfl)))),
  (ls_ret (le_op lr_ix le_var (le_call hW (la_cons le_var (la_cons (le_cb lra_len (la_cons le_var la_nil)) la_nil))))), ?z⟩)
  case z =>
    intro ds Qz h
    obtain ⟨h, s, xs, rfl, hs, hd, h0, h1, k⟩ := h
    rw [sizeLine_eq] at h1
    rcases hs with rfl | rfl
    · walk_at "z"
      refine ⟨h, xs.length, rfl, hd, by have := List.length_pos_iff.mpr h0; omega, log2_small (by omega), fun r M' hx r0 r1 => ?_⟩
      walk_at "z"
      refine ⟨xs[r.toNat]'(by omega), ?_, k _ _ (List.getElem_mem _) hx⟩
      obtain ⟨j, rfl⟩ := Int.eq_ofNat_of_zero_le r0
      rw [zat_nat]
      exact List.getElem?_eq_getElem _
    · walk_at "z"
      refine ⟨h, xs.length, rfl, hd, by have := List.length_pos_iff.mpr h0; omega, log2_small (by omega), fun r M' hx r0 r1 => ?_⟩
      walk_at "z"
      refine ⟨xs[r.toNat]'(by omega), ?_, k _ _ (List.getElem_mem _) hx⟩
      obtain ⟨j, rfl⟩ := Int.eq_ofNat_of_zero_le r0
      rw [zat_nat]
      exact List.getElem?_eq_getElem _
theorem ok_is_int (T : Tx K mg base) : DefAt P w K mg base 1 "is_int" ["thing"] (zp_is_int) := by
  refine zok T.d_is_int sc_is_int hl_is_int (fun f cdv A outer s H E w0 Ez hr hW => ⟨(tRet (tAndV (tCB (rIsiA K) (tCons (tVar 0) (tCons (tC (.ty "int")) tNil))) (tNotV (tCB (rIsiA K) (tCons (tVar 0) (tCons (tC (.ty "bool")) tNil)))))), _,
  (pss_one (ps_ret (pe_and (pe_callB call_isiA rfl T.f_isinstance (by decide +kernel) (pa_cons (pv 0) (pa_cons (zp_ty (n := "int") T.f_int (by decide +kernel) rfl) pa_nil))) (pe_one (pe_not (pe_callB call_isiA rfl T.f_isinstance (by decide +kernel) (pa_cons (pv 0) (pa_cons (zp_ty (n := "bool") T.f_bool (by decide +kernel) rfl) pa_nil)))))))),
  (ls_ret (le_andV (le_cb lra_isi (la_cons le_var (la_cons le_c la_nil))) (le_notV (le_cb lra_isi (la_cons le_var (la_cons le_c la_nil)))))), ?z⟩)
  case z =>
    intro ds Qz h
    obtain ⟨d, rfl, hn, k⟩ := h
    walk_at "zh"
    rw [← isI_t hn] at k
    cases h1 : isT (tn d) "int" <;> rw [h1] at k
    · exact k
    · exact k
theorem ok_is_within (T : Tx K mg base) : DefAt P w K mg base 2 "is_within" ["thing", "low", "high"] (zp_is_within) := by
  refine zok T.d_is_within sc_is_within hl_is_within (fun f cdv A outer s H E w0 Ez hr hW => ⟨(tRet (tAndV (tCallW (spOf K (zp_is_int)) (WB E) (tCons (tVar 0) tNil)) (tChain (rI0 fun i j => .bl (decide (i ≤ j))) (rI0 fun i j => .bl (decide (i ≤ j))) (tVar 1) (tVar 0) (tVar 2)))), _,
  (pss_one (ps_ret (pe_and (zc_call (ok_is_int T) (hr.mono (by decide)) rfl tkB (pa_cons (pv 0) pa_nil)) (pe_one (pe_chain op_le op_le (pv 1) (pv 0) (pv 2)))))),
  (ls_ret (le_andV (le_call hW (la_cons le_var la_nil)) (le_chain lr_I0 lr_I0 le_var le_var le_var))), ?z⟩)
  case z =>
    intro ds Qz h
    obtain ⟨d, lo, hi, rfl, hn, k⟩ := h
    walk_at "z"
    refine ⟨d, rfl, hn, ?_⟩
    rcases isI_cases d with ⟨i, rfl⟩ | ⟨e1, e2⟩
    · walk_at "z"
      rw [if_pos (show isI (.v (.int i)) = true from rfl)]
      by_cases h1 : lo ≤ i
      · rw [if_pos h1]
        simp only [isW, h1, decide_true, Bool.true_and] at k
        exact k
      · rw [if_neg h1]
        simp only [isW, h1, decide_false, Bool.false_and] at k
        exact k
    · rw [e2] at k
      walk_at "zh"
theorem ok_are_within (T : Tx K mg base) : DefAt P w K mg base 3 "are_within" ["thing", "low", "high"] (zp_are_within) := by
  refine zok T.d_are_within sc_are_within hl_are_within (fun f cdv A outer s H E w0 Ez hr hW => ⟨(tRet (tAndV (tCB (rIsiA K) (tCons (tVar 0) (tCons (tC (.ty "tuple")) tNil))) (tCB (rAll K) (tCons (tLc (iSeq K (tVar 0)) (gName 3) tYes (tCallW (spOf K (zp_is_within)) W0 (tCons (tVar 3) (tCons (tVar 1) (tCons (tVar 2) tNil)))) [3]) tNil)))), _,
  (pss_one (ps_ret (pe_and (pe_callB call_isiA rfl T.f_isinstance (by decide +kernel) (pa_cons (pv 0) (pa_cons (zp_ty (n := "tuple") T.f_tuple (by decide +kernel) rfl) pa_nil))) (pe_one (pe_callB (cr_all rfl) rfl T.f_all (by decide +kernel) (pa_cons (pe_lc (own := [("part", 3)]) rfl sc_are_within.nd (pi_seq (pv 0)) (blkOk_by (by kernel_rfl)) (fun _ _ _ _ _ => (pg_name (i := 3) sc_are_within.nd rfl (Or.inl rfl))) (fun _ _ _ _ _ => pts_nil) (fun _ _ _ _ _ => (zc_call (ok_is_within T) (hr.mono (by decide)) rfl tk0 (pa_cons (pv 3) (pa_cons (pv 1) (pa_cons (pv 2) pa_nil)))))) pa_nil)))))),
  (ls_ret (le_andV (le_cb lra_isi (la_cons le_var (la_cons le_c la_nil))) (le_cb lra_all (la_cons (le_lc (li_seq le_var) lg_name mono_name (wo_name (by decide)) lt_yes (le_call ctW0' (la_cons le_var (la_cons le_var (la_cons le_var la_nil))))) la_nil)))), ?z⟩)
  case z =>
    intro ds Qz h
    obtain ⟨lo, hi, row, rfl, hl, hr, k⟩ := h
    try walk_at "z"
    refine zlc_map1 (fun d => .v (.bl true)) (by rw [sizeLine_eq, ints_len]; omega) (fun d k1 k2 hd hk => ?_) ?_
    · obtain ⟨x, hx, rfl⟩ := ints_nice hd
      have := hr x hx
      try walk_at "z"
      exact ⟨_, lo, hi, rfl, rfl, by rw [isW_in this.1 this.2]; exact hk⟩
    · try walk_at "z"
      rw [show (dInts row).all (fun d => true) = true from List.all_eq_true.mpr fun _ _ => rfl]
      exact k
theorem ok_is_row (T : Tx K mg base) : DefAt P w K mg base 4 "is_row" ["size", "thing"] (zp_is_row) := by
  refine zok T.d_is_row sc_is_row hl_is_row (fun f cdv A outer s H E w0 Ez hr hW => ⟨(tRet (tCallW (spOf K (zp_are_within)) (WB E) (tCons (tVar 1) (tCons (tC (.int 0)) (tCons (tOp (rI0 fun i j => .int (i - j)) (tVar 0) (tC (.int 1))) tNil))))), _,
  (pss_one (ps_ret (zc_call (ok_are_within T) (hr.mono (by decide)) rfl tkB (pa_cons (pv 1) (pa_cons pe_int (pa_cons (pe_op op_sub (pv 0) pe_int) pa_nil)))))),
  (ls_ret (le_call hW (la_cons le_var (la_cons le_c (la_cons (le_op lr_I0 le_var le_c) la_nil))))), ?z⟩)
  case z =>
    intro ds Qz h
    obtain ⟨size, row, rfl, hl, hr, k⟩ := h
    try walk_at "z"
    exact ⟨0, size - 1, row, rfl, hl, fun x hx => by have := hr x hx; omega, k⟩
theorem xc_BadScheme (T : Tx K mg base) : XcAt P w K mg base "BadScheme" (He.ga K "BadScheme") ["part", "at"] := by
  obtain ⟨f, fd, F, i, t, b⟩ := T.xi_BadScheme
  exact ⟨⟨f, fd, i, t, zx_init (names := ["part", "at"]) F sc_BadScheme___init__ rfl (fun cdv A outer s H E => pss_cons (ps_ost (pv 0) (pv 1)) (pss_one (ps_ost (pv 0) (pv 2)))) (fun vs H Q h => xinit2 T.o_BadScheme T.na_BadScheme_part T.na_BadScheme_at rfl vs H Q h), b⟩, T.o_BadScheme, T.a_BadScheme⟩
theorem ok_check_size (T : Tx K mg base) : DefAt P w K mg base 3 "check_size" ["size"] (zp_check_size) := by
  refine zok T.d_check_size sc_check_size hl_check_size (fun f cdv A outer s H E w0 Ez hr hW => ⟨(tIfS (tNot (tB (tCallW (spOf K (zp_is_within)) (WB E) (tCons (tVar 0) (tCons (tC (.int (2))) (tCons (tC (.int (12))) tNil)))))) (tRz (WB E) (tMkO (He.ga K "BadScheme") (spXI (He.ga K "BadScheme") ["part", "at"]) [] (tCons (tC (.str "size")) (tCons (tUn (rU fun i => .int (-i)) (tC (.int 1))) tNil)))) tNext), _,
  (pss_one (ps_if (pt_not (pt_val (zc_call (ok_is_within T) (hr.mono (by decide)) rfl tkB (pa_cons (pv 0) (pa_cons (zp_int T.g_LEAST_SIZE rfl) (pa_cons (zp_int T.g_MOST_SIZE rfl) pa_nil)))))) (pss_one (zc_raise (k := 0) (xc_BadScheme T) (hr.mono (by decide)) rfl rfl tkB (pa_cons pe_str (pa_cons (pe_un un_neg pe_int) pa_nil)))) pss_nil)),
  (ls_if (lt_not (lt_B (le_call hW (la_cons le_var (la_cons le_c (la_cons le_c la_nil)))))) (ls_rz hW (lx_mk (la_cons le_c (la_cons (le_un lr_U le_c) la_nil)))) ls_next), ?z⟩)
  case z =>
    intro ds Qz h
    obtain ⟨s, rfl, h1, h2, k⟩ := h
    try walk_at "z"
    refine ⟨_, 2, 12, rfl, rfl, ?_⟩
    rw [isW_in h1 h2]
    try walk_at "z"
    exact k
theorem ok_is_step (T : Tx K mg base) : DefAt P w K mg base 3 "is_step" ["size", "many", "thing"] (zp_is_step) := by
  refine zok T.d_is_step sc_is_step hl_is_step (fun f cdv A outer s H E w0 Ez hr hW => ⟨(tRet (tAndV (tCB (rIsiA K) (tCons (tVar 2) (tCons (tC (.ty "tuple")) tNil))) (tAndV (tOp (rEqD K) (tCB (rLenA K) (tCons (tVar 2) tNil)) (tVar 0)) (tCB (rAll K) (tCons (tLc (iSeq K (tVar 2)) (gName 3) tYes (tCallW (spOf K (zp_is_within)) W0 (tCons (tVar 3) (tCons (tC (.int 0)) (tCons (tOp (rI0 fun i j => .int (i - j)) (tVar 1) (tC (.int 1))) tNil)))) [3]) tNil))))), _,
  (pss_one (ps_ret (pe_and (pe_callB call_isiA rfl T.f_isinstance (by decide +kernel) (pa_cons (pv 2) (pa_cons (zp_ty (n := "tuple") T.f_tuple (by decide +kernel) rfl) pa_nil))) (pe_and (pe_cmpR (op_eqD hr.units) (pe_callB call_lenA rfl T.f_len (by decide +kernel) (pa_cons (pv 2) pa_nil)) (pv 0) (nomark _)) (pe_one (pe_callB (cr_all rfl) rfl T.f_all (by decide +kernel) (pa_cons (pe_lc (own := [("part", 3)]) rfl sc_is_step.nd (pi_seq (pv 2)) (blkOk_by (by kernel_rfl)) (fun _ _ _ _ _ => (pg_name (i := 3) sc_is_step.nd rfl (Or.inl rfl))) (fun _ _ _ _ _ => pts_nil) (fun _ _ _ _ _ => (zc_call (ok_is_within T) (hr.mono (by decide)) rfl tk0 (pa_cons (pv 3) (pa_cons pe_int (pa_cons (pe_op op_sub (pv 1) pe_int) pa_nil)))))) pa_nil))))))),
  (ls_ret (le_andV (le_cb lra_isi (la_cons le_var (la_cons le_c la_nil))) (le_andV (le_op lr_eq (le_cb lra_len (la_cons le_var la_nil)) le_var) (le_cb lra_all (la_cons (le_lc (li_seq le_var) lg_name mono_name (wo_name (by decide)) lt_yes (le_call ctW0' (la_cons le_var (la_cons le_c (la_cons (le_op lr_I0 le_var le_c) la_nil))))) la_nil))))), ?z⟩)
  case z =>
    intro ds Qz h
    obtain ⟨size, many, row, rfl, hl, hl2, hr, k⟩ := h
    try walk_at "z"
    rw [if_pos (by rw [ints_len]; exact hl)]
    refine zlc_map1 (fun d => .v (.bl true)) (by rw [sizeLine_eq, ints_len]; omega) (fun d k1 k2 hd hk => ?_) ?_
    · obtain ⟨x, hx, rfl⟩ := ints_nice hd
      have := hr x hx
      try walk_at "z"
      exact ⟨_, 0, many - 1, rfl, rfl, by rw [isW_in this.1 (by omega)]; exact hk⟩
    · try walk_at "z"
      rw [show (dInts row).all (fun d => true) = true from List.all_eq_true.mpr fun _ _ => rfl]
      exact k
theorem ok_Scheme (T : Tx K mg base) : MakeAt P w K mg base 4 "Scheme" (He.ga K "Scheme") ["self", "size", "steps", "right"] (zp_Scheme___init__ K) := by
  obtain ⟨f, fd, F, M, b⟩ := T.in_Scheme
  refine ⟨⟨f, fd, zok_core F sc_Scheme___init__ hl_Scheme___init__ (fun cdv A outer s H E w0 Ez hr hW => ⟨(tSeq (tDrop (tCallW (spOf K (zp_check_size)) (WB E) (tCons (tVar 1) tNil)))
  (tSeq (tIfS (tOr (tNot (tB (tCB (rIsiA K) (tCons (tVar 2) (tCons (tC (.ty "tuple")) tNil))))) (tNot (tTest (tChain (rI0 fun i j => .bl (decide (i ≤ j))) (rI0 fun i j => .bl (decide (i ≤ j))) (tC (.int 1)) (tCB (rLenA K) (tCons (tVar 2) tNil)) (tC (.int (200))))))) (tRz (WB E) (tMkO (He.ga K "BadScheme") (spXI (He.ga K "BadScheme") ["part", "at"]) [] (tCons (tC (.str "steps")) (tCons (tUn (rU fun i => .int (-i)) (tC (.int 1))) tNil)))) tNext)
  (tSeq (tFor (iEnumA K (tCons (tVar 2) tNil)) (gTup K 2 (gCons (gName 4) (gCons (gName 5) gNil)))
  (tIfS (tNot (tB (tCallW (spOf K (zp_is_step)) (WB E) (tCons (tVar 1) (tCons (tCB (rLenA K) (tCons (tVar 2) tNil)) (tCons (tVar 5) tNil)))))) (tRz (WB E) (tMkO (He.ga K "BadScheme") (spXI (He.ga K "BadScheme") ["part", "at"]) [] (tCons (tC (.str "steps")) (tCons (tVar 4) tNil)))) tNext))
  (tSeq (tIfS (tNot (tB (tCB (rIsiA K) (tCons (tVar 3) (tCons (tC (.ty "tuple")) tNil))))) (tRz (WB E) (tMkO (He.ga K "BadScheme") (spXI (He.ga K "BadScheme") ["part", "at"]) [] (tCons (tC (.str "right")) (tCons (tUn (rU fun i => .int (-i)) (tC (.int 1))) tNil)))) tNext)
  (tSeq (tFor (iEnumA K (tCons (tVar 3) tNil)) (gTup K 2 (gCons (gName 4) (gCons (gName 6) gNil)))
  (tIfS (tOr (tNot (tB (tCallW (spOf K (zp_is_within)) (WB E) (tCons (tVar 6) (tCons (tC (.int 0)) (tCons (tOp (rI0 fun i j => .int (i - j)) (tCB (rLenA K) (tCons (tVar 2) tNil)) (tC (.int 1))) tNil)))))) (tAnd (tTest (tOp (rI0 fun i j => .bl (decide (j < i))) (tVar 4) (tC (.int 0)))) (tTest (tOp (rI0 fun i j => .bl (decide (j ≤ i))) (tOp (rIx K) (tVar 3) (tOp (rI0 fun i j => .int (i - j)) (tVar 4) (tC (.int 1)))) (tVar 6))))) (tRz (WB E) (tMkO (He.ga K "BadScheme") (spXI (He.ga K "BadScheme") ["part", "at"]) [] (tCons (tC (.str "right")) (tCons (tVar 4) tNil)))) tNext))
  (tSeq (sFld K (tVar 0) (tVar 1) "size")
  (tSeq (sFld K (tVar 0) (tVar 2) "steps")
  (sFld K (tVar 0) (tVar 3) "right")))))))), _,
  (pss_cons (ps_expr (zc_call (ok_check_size T) (hr.mono (by decide)) rfl tkB (pa_cons (pv 1) pa_nil)))
  (pss_cons (ps_if (PW.pt (pw_or (pt_not (pt_val (pe_callB call_isiA rfl T.f_isinstance (by decide +kernel) (pa_cons (pv 2) (pa_cons (zp_ty (n := "tuple") T.f_tuple (by decide +kernel) rfl) pa_nil))))) (pw_or1 (pt_not (pt_chain op_le op_le pe_int (pe_callB call_lenA rfl T.f_len (by decide +kernel) (pa_cons (pv 2) pa_nil)) (zp_int T.g_MOST_STANDS rfl)))))) (pss_one (zc_raise (k := 0) (xc_BadScheme T) (hr.mono (by decide)) rfl rfl tkB (pa_cons pe_str (pa_cons (pe_un un_neg pe_int) pa_nil)))) pss_nil)
  (pss_cons (ps_for (passes_of rfl) rfl (pi_enumA rfl T.f_enumerate (pa_cons (pv 2) pa_nil)) (pg_tup rfl (pgs_cons (pg_name (i := 4) sc_Scheme___init__.nd rfl (Or.inl rfl)) (pgs_cons (pg_name (i := 5) sc_Scheme___init__.nd rfl (Or.inl rfl)) pgs_nil)))
  (pss_one (ps_if (pt_not (pt_val (zc_call (ok_is_step T) (hr.mono (by decide)) rfl tkB (pa_cons (pv 1) (pa_cons (pe_callB call_lenA rfl T.f_len (by decide +kernel) (pa_cons (pv 2) pa_nil)) (pa_cons (pv 5) pa_nil)))))) (pss_one (zc_raise (k := 0) (xc_BadScheme T) (hr.mono (by decide)) rfl rfl tkB (pa_cons pe_str (pa_cons (pv 4) pa_nil)))) pss_nil)))
  (pss_cons (ps_if (pt_not (pt_val (pe_callB call_isiA rfl T.f_isinstance (by decide +kernel) (pa_cons (pv 3) (pa_cons (zp_ty (n := "tuple") T.f_tuple (by decide +kernel) rfl) pa_nil))))) (pss_one (zc_raise (k := 0) (xc_BadScheme T) (hr.mono (by decide)) rfl rfl tkB (pa_cons pe_str (pa_cons (pe_un un_neg pe_int) pa_nil)))) pss_nil)
  (pss_cons (ps_for (passes_of rfl) rfl (pi_enumA rfl T.f_enumerate (pa_cons (pv 3) pa_nil)) (pg_tup rfl (pgs_cons (pg_name (i := 4) sc_Scheme___init__.nd rfl (Or.inl rfl)) (pgs_cons (pg_name (i := 6) sc_Scheme___init__.nd rfl (Or.inl rfl)) pgs_nil)))
  (pss_one (ps_if (PW.pt (pw_or (pt_not (pt_val (zc_call (ok_is_within T) (hr.mono (by decide)) rfl tkB (pa_cons (pv 6) (pa_cons pe_int (pa_cons (pe_op op_sub (pe_callB call_lenA rfl T.f_len (by decide +kernel) (pa_cons (pv 2) pa_nil)) pe_int) pa_nil)))))) (pw_or1 (PW.pt (pw_and (pt_cmpR op_gt (pv 4) pe_int (nomark _)) (pw_and1 (pt_cmpR op_ge (pe_ix ix_seq (pv 3) (pe_op op_sub (pv 4) pe_int) (fun _ _ => rfl)) (pv 6) (nomark _)))))))) (pss_one (zc_raise (k := 0) (xc_BadScheme T) (hr.mono (by decide)) rfl rfl tkB (pa_cons pe_str (pa_cons (pv 4) pa_nil)))) pss_nil)))
  (pss_cons (ps_fld (pv 0) (pv 1) rfl)
  (pss_cons (ps_fld (pv 0) (pv 2) rfl)
  (pss_one (ps_fld (pv 0) (pv 3) rfl))))))))),
  (ls_seq (ls_drop (le_call hW (la_cons le_var la_nil)))
  (ls_seq (ls_if (lt_or (lt_not (lt_B (le_cb lra_isi (la_cons le_var (la_cons le_c la_nil))))) (lt_not (lt_test (le_chain lr_I0 lr_I0 le_c (le_cb lra_len (la_cons le_var la_nil)) le_c)))) (ls_rz hW (lx_mk (la_cons le_c (la_cons (le_un lr_U le_c) la_nil)))) ls_next)
  (ls_seq (ls_for (li_enum (la_cons le_var la_nil)) (lg_tup (lgs_cons lg_name (lgs_cons lg_name lgs_nil)))
  (ls_if (lt_not (lt_B (le_call hW (la_cons le_var (la_cons (le_cb lra_len (la_cons le_var la_nil)) (la_cons le_var la_nil)))))) (ls_rz hW (lx_mk (la_cons le_c (la_cons le_var la_nil)))) ls_next))
  (ls_seq (ls_if (lt_not (lt_B (le_cb lra_isi (la_cons le_var (la_cons le_c la_nil))))) (ls_rz hW (lx_mk (la_cons le_c (la_cons (le_un lr_U le_c) la_nil)))) ls_next)
  (ls_seq (ls_for (li_enum (la_cons le_var la_nil)) (lg_tup (lgs_cons lg_name (lgs_cons lg_name lgs_nil)))
  (ls_if (lt_or (lt_not (lt_B (le_call hW (la_cons le_var (la_cons le_c (la_cons (le_op lr_I0 (le_cb lra_len (la_cons le_var la_nil)) le_c) la_nil)))))) (lt_and (lt_test (le_op lr_I0 le_var le_c)) (lt_test (le_op lr_I0 (le_op lr_ix le_var (le_op lr_I0 le_var le_c)) le_var)))) (ls_rz hW (lx_mk (la_cons le_c (la_cons le_var la_nil)))) ls_next))
  (ls_seq (ls_fld le_var le_var)
  (ls_seq (ls_fld le_var le_var)
  (ls_fld le_var le_var)))))))), ?z⟩), M, T.a_Scheme, b⟩⟩
  case z =>
    intro ds Qz h
    obtain ⟨x, dx, size, rows, right, rfl, hx, hs, k⟩ := h
    have f1 : FldOk K (He.ga K "Scheme") "size" := ⟨T.c_Scheme, T.na_Scheme_size⟩
    have f2 : FldOk K (He.ga K "Scheme") "steps" := ⟨T.c_Scheme, T.na_Scheme_steps⟩
    have f3 : FldOk K (He.ga K "Scheme") "right" := ⟨T.c_Scheme, T.na_Scheme_right⟩
    have n1 := hs.n1
    have n2 := hs.n2
    have s2 := hs.s2
    have hrl : (rows.map rowD).length = rows.length := List.length_map ..
    try walk_at "z"
    refine ⟨size, rfl, hs.s1, hs.s2, ?_⟩
    try walk_at "z"
    rw [if_pos (by omega), if_neg (by omega)]
    refine zloop (fun i δ M' => M' = w0.M ∧ ∃ a b c, δ = [some (.v (.ref x)), some (.v (.int size)), some (rowsD rows), some (rowD right), a, b, c]) ?_ ?_ ⟨rfl, _, _, _, rfl⟩
    · rintro i d δ M' kk hd ⟨rfl, a, b, c, rfl⟩ hk
      obtain ⟨e, he, rfl⟩ := enumD_get hd
      obtain ⟨q, hq, rfl⟩ := List.mem_map.mp (List.mem_of_getElem? he)
      have := hs.r q hq
      try walk_at "z"
      exact ⟨size, rows.length, q, by rw [hrl], this.1, by omega, this.2, by walk_at "z"; exact hk _ _ ⟨rfl, _, _, _, rfl⟩⟩
    · rintro δ M' ⟨rfl, a, b, c, rfl⟩
      try walk_at "z"
      refine zloop (fun i δ M' => M' = w0.M ∧ ∃ a b c, δ = [some (.v (.ref x)), some (.v (.int size)), some (rowsD rows), some (rowD right), a, b, c]) ?_ ?_ ⟨rfl, _, _, _, rfl⟩
      · rintro i d δ M' kk hd ⟨rfl, a, b, c, rfl⟩ hk
        obtain ⟨e, he, rfl⟩ := enumD_get hd
        rw [Zl.ints_get] at he
        cases e1 : right[i]? with
        | none => rw [e1] at he; cases he
        | some v =>
          rw [e1] at he
          cases he
          have hv := hs.b v (List.mem_of_getElem? e1)
          try walk_at "z"
          refine ⟨_, 0, (rows.length : Int) - 1, by rw [hrl], rfl, ?_⟩
          rw [isW_in hv.1 (by omega)]
          try walk_at "z"
          by_cases hi : 0 < i
          · rw [if_pos (by omega)]
            have hl : i - 1 < right.length := by
              have := (List.getElem?_eq_some_iff.mp e1).1
              omega
            refine ⟨.v (.int right[i - 1]), by rw [show ((i : Nat) : Int) - 1 = ((i - 1 : Nat) : Int) by omega, zat_nat, Zl.ints_get, List.getElem?_eq_getElem hl]; rfl, ?_⟩
            have lt : right[i - 1] < v := by
              have := List.pairwise_iff_getElem.mp hs.a (i - 1) i hl (List.getElem?_eq_some_iff.mp e1).1 (by omega)
              rw [(List.getElem?_eq_some_iff.mp e1).2] at this
              exact this
            try walk_at "z"
            rw [if_neg (by omega)]
            exact hk _ _ ⟨rfl, _, _, _, rfl⟩
          · rw [if_neg (by omega)]
            exact hk _ _ ⟨rfl, _, _, _, rfl⟩
      · rintro δ M' ⟨rfl, a, b, c, rfl⟩
        try walk_at "z"
        refine ⟨_, dx, _, hx, f1, by simp, ?_⟩
        try walk_at "z"
        refine ⟨_, _, _, ⟨rfl, rfl, rfl⟩, f2, by rw [schP1]; simp, ?_⟩
        try walk_at "z"
        refine ⟨_, _, _, ⟨rfl, rfl, rfl⟩, f3, by rw [schP1, schP2]; simp, ?_⟩
        try walk_at "z"
        rw [schP1, schP2, schP3]
        exact k
theorem ok_check_scheme (T : Tx K mg base) : DefAt P w K mg base 3 "check_scheme" ["thing"] (zp_check_scheme K) := by
  refine zok T.d_check_scheme sc_check_scheme hl_check_scheme (fun f cdv A outer s H E w0 Ez hr hW => ⟨(tIfS (tNot (tB (tCB (rIsiA K) (tCons (tVar 0) (tCons (tC (.ref (He.ga K "Scheme"))) tNil))))) tNever tNext), _,
  (pss_one (ps_if (pt_not (pt_val (pe_callB call_isiA rfl T.f_isinstance (by decide +kernel) (pa_cons (pv 0) (pa_cons (zp_ref T.a_Scheme rfl) pa_nil))))) (pss_one ps_never) pss_nil)),
  (ls_if (lt_not (lt_B (le_cb lra_isi (la_cons le_var (la_cons le_c la_nil))))) ls_never ls_next), ?z⟩)
  case z =>
    intro ds Qz h
    obtain ⟨d, rfl, size, rows, right, rfl, k⟩ := h
    try walk_at "z"
    rw [e_isiI T.s_Scheme (kit_self _)]
    try walk_at "z"
    exact k
theorem ok_check_row (T : Tx K mg base) : DefAt P w K mg base 5 "check_row" ["size", "thing"] (zp_check_row) := by
  refine zok T.d_check_row sc_check_row hl_check_row (fun f cdv A outer s H E w0 Ez hr hW => ⟨(tIfS (tNot (tB (tCallW (spOf K (zp_is_row)) (WB E) (tCons (tVar 0) (tCons (tVar 1) tNil))))) tNever tNext), _,
  (pss_one (ps_if (pt_not (pt_val (zc_call (ok_is_row T) (hr.mono (by decide)) rfl tkB (pa_cons (pv 0) (pa_cons (pv 1) pa_nil))))) (pss_one ps_never) pss_nil)),
  (ls_if (lt_not (lt_B (le_call hW (la_cons le_var (la_cons le_var la_nil))))) ls_never ls_next), ?z⟩)
  case z =>
    intro ds Qz h
    obtain ⟨size, row, rfl, h2, h3, k⟩ := h
    try walk_at "z"
    refine ⟨size, row, rfl, h2, h3, ?_⟩
    try walk_at "z"
    exact k
theorem ok_led_on (T : Tx K mg base) : DefAt P w K mg base 1 "led_on" ["scheme", "stand", "row"] (zp_led_on K) := by
  refine zok T.d_led_on sc_led_on hl_led_on (fun f cdv A outer s H E w0 Ez hr hW => ⟨(tSeq (tFor (iSeq K (tVar 2)) (gName 3)
  (tAsg (tOp (rIx K) (tOp (rIx K) (tFld K (tVar 0) "steps") (tVar 1)) (tVar 3)) (gName 1)))
  (tRet (tVar 1))), _,
  (pss_cons (ps_for (passes_of rfl) rfl (pi_seq (pv 2)) (pg_name (i := 3) sc_led_on.nd rfl (Or.inl rfl))
  (pss_one (ps_set (i := 1) sc_led_on.nd rfl (Or.inl rfl) (pe_ix ix_seq (pe_ix ix_seq (pe_fld (pv 0) rfl) (pv 1) (fun _ _ => rfl)) (pv 3) (fun _ _ => rfl)))))
  (pss_one (ps_ret (pv 1)))),
  (ls_seq (ls_for (li_seq le_var) lg_name
  (ls_asg (le_op lr_ix (le_op lr_ix (le_fld le_var) le_var) le_var) lg_name))
  (ls_ret le_var)), ?z⟩)
  case z =>
    intro ds Qz h
    obtain ⟨size, rows, right, st, row, rfl, hs, h0, h1, hr, k⟩ := h
    have f2 : FldOk K (He.ga K "Scheme") "steps" := ⟨T.c_Scheme, T.na_Scheme_steps⟩
    try walk_at "z"
    refine zloop (fun i δ M' => M' = w0.M ∧ ∃ a, δ = [some (schD K size rows right), some (.v (.int (ledI rows st (row.take i)))), some (rowD row), a]) ?_ ?_ ⟨rfl, _, rfl⟩
    · rintro i d δ M' kk hd ⟨rfl, a, rfl⟩ hk
      rw [Zl.ints_get] at hd
      cases e1 : row[i]? with
      | none => rw [e1] at hd; cases hd
      | some s =>
        rw [e1] at hd
        cases hd
        have hs1 := hr s (List.mem_of_getElem? e1)
        have hl := led_ok hs h0 h1 (r := row.take i) fun x hx => hr x (List.mem_of_mem_take hx)
        have es : row.take (i + 1) = row.take i ++ [s] := by rw [List.take_succ, e1]; rfl
        try walk_at "z"
        refine ⟨f2, _, schL2, ?_⟩
        try walk_at "z"
        refine ⟨_, at_rows hs hl.1 hl.2, ?_⟩
        try walk_at "z"
        refine ⟨_, at_row hs hl.1 hl.2 hs1.1 hs1.2, ?_⟩
        try walk_at "z"
        exact hk _ _ ⟨rfl, _, by rw [es, led_app]⟩
    · rintro δ M' ⟨rfl, a, rfl⟩
      try walk_at "z"
      rw [ints_len, List.take_length]
      exact k
theorem ok_is_right (T : Tx K mg base) : DefAt P w K mg base 5 "is_right" ["scheme", "thing"] (zp_is_right K) := by
  refine zok T.d_is_right sc_is_right hl_is_right (fun f cdv A outer s H E w0 Ez hr hW => ⟨(tSeq (tDrop (tCallW (spOf K (zp_check_scheme K)) (WB E) (tCons (tVar 0) tNil)))
  (tRet (tAndV (tCallW (spOf K (zp_is_row)) (WB E) (tCons (tFld K (tVar 0) "size") (tCons (tVar 1) tNil))) (tOp (rIn K false) (tCallW (spOf K (zp_led_on K)) (WB E) (tCons (tVar 0) (tCons (tC (.int 0)) (tCons (tVar 1) tNil)))) (tFld K (tVar 0) "right"))))), _,
  (pss_cons (ps_expr (zc_call (ok_check_scheme T) (hr.mono (by decide)) rfl tkB (pa_cons (pv 0) pa_nil)))
  (pss_one (ps_ret (pe_and (zc_call (ok_is_row T) (hr.mono (by decide)) rfl tkB (pa_cons (pe_fld (pv 0) rfl) (pa_cons (pv 1) pa_nil))) (pe_one (pe_cmpR op_in_seq (zc_call (ok_led_on T) (hr.mono (by decide)) rfl tkB (pa_cons (pv 0) (pa_cons pe_int (pa_cons (pv 1) pa_nil)))) (pe_fld (pv 0) rfl) (by rfl))))))),
  (ls_seq (ls_drop (le_call hW (la_cons le_var la_nil)))
  (ls_ret (le_andV (le_call hW (la_cons (le_fld le_var) (la_cons le_var la_nil))) (le_op lr_in (le_call hW (la_cons le_var (la_cons le_c (la_cons le_var la_nil)))) (le_fld le_var))))), ?z⟩)
  case z =>
    intro ds Qz h
    obtain ⟨size, rows, right, row, rfl, hs, hl, hr, k⟩ := h
    have f1 : FldOk K (He.ga K "Scheme") "size" := ⟨T.c_Scheme, T.na_Scheme_size⟩
    have f3 : FldOk K (He.ga K "Scheme") "right" := ⟨T.c_Scheme, T.na_Scheme_right⟩
    have n1 := hs.n1
    try walk_at "z"
    refine ⟨_, rfl, size, rows, right, rfl, ?_⟩
    try walk_at "z"
    refine ⟨f1, _, schL1, ?_⟩
    try walk_at "z"
    refine ⟨size, row, rfl, hl, hr, ?_⟩
    try walk_at "z"
    refine ⟨size, rows, right, 0, row, rfl, hs, by decide, by omega, hr, ?_⟩
    try walk_at "z"
    refine ⟨f3, _, schL3, ?_⟩
    exact (e_inRow (neg := false)).mpr k
theorem gw_Growing (T : Tx K mg base) : GrowAt P w K mg base 3 "Growing" (He.ga K "Growing") (zg_Growing K) := by
  obtain ⟨fi, fd, F, M, b⟩ := T.in_Growing
  refine zokG (C := "Growing") F M T.a_Growing b sc_Growing___init__ hl_Growing___init__ (i := 3) rfl (Or.inl rfl) (fun cdv A outer s H E w0 Ez f G tl zo hr hW act hG lp => ⟨(tSeq (sFld K (tVar 0) (tLst (tCons (tVar 2) tNil)) "places")
  (tSeq (sFld K (tVar 0) (tN1 w (tVar 2) (tC (.int 0))) "number_of")
  (tSeq (sFld K (tVar 0) (tLst tNil) "steps")
  (tSeq (tAsg (tC (.int 0)) (gName 5))
  (tWhile (tTest (tOp (rI0 fun i j => .bl (decide (i < j))) (tVar 5) (tCB (rLenA K) (tCons (tFld K (tVar 0) "places") tNil))))
  (tSeq (tAsg (tLst tNil) (gName 6))
  (tSeq (tFor (iRng1 (tCons (tVar 1) tNil)) (gName 7)
  (tSeq (tAsg (tAcN 3 f G tl (WB E) (tCons (tOp (rIx K) (tFld K (tVar 0) "places") (tVar 5)) (tCons (tVar 7) tNil))) (gName 8))
  (tSeq (tIfS (tTest (tOp (rNIn w true) (tVar 8) (tFld K (tVar 0) "number_of"))) (tSeq (sNPut w (tFld K (tVar 0) "number_of") (tVar 8) (tCB (rLenA K) (tCons (tFld K (tVar 0) "places") tNil)))
  (tDrop (tBM K "list" rAppend (tFld K (tVar 0) "places") (tCons (tVar 8) tNil)))) tNext)
  (tDrop (tBM K "list" rAppend (tVar 6) (tCons (tNGet w (tFld K (tVar 0) "number_of") (tVar 8)) tNil))))))
  (tSeq (tDrop (tBM K "list" rAppend (tFld K (tVar 0) "steps") (tCons (tCB (rTuple K) (tCons (tVar 6) tNil)) tNil)))
  (tSeq (tIfS (tAnd (tTest (tOp (fun x y H Q => y = .non ∧ Q (.bl (!decide (x = .non))) H) (tVar 4) (tC .non))) (tTest (tOp (rI0 fun i j => .bl (decide (j < i))) (tCB (rLenA K) (tCons (tFld K (tVar 0) "places") tNil)) (tVar 4)))) tNever tNext)
  (tAug 5 (tC (.int 1)) (ipI fun i j => i + j))))))))))), _,
  (pss_cons (ps_fld (pv 0) (pe_lst (pa_cons (pv 2) pa_nil)) rfl)
  (pss_cons (ps_fld (pv 0) (pe_n1 (room9 hr) (pv 2) pe_int) rfl)
  (pss_cons (ps_fld (pv 0) (pe_lst pa_nil) rfl)
  (pss_cons (ps_set (i := 5) sc_Growing___init__.nd rfl (Or.inl rfl) pe_int)
  (pss_one (ps_while (passes_of rfl) (pt_cmpR op_lt (pv 5) (pe_callB call_lenA rfl T.f_len (by decide +kernel) (pa_cons (pe_fld (pv 0) rfl) pa_nil)) (nomark _))
  (pss_cons (ps_set (i := 6) sc_Growing___init__.nd rfl (Or.inl rfl) (pe_lst pa_nil))
  (pss_cons (ps_for (passes_of rfl) rfl (pi_range1 rfl T.f_range (pa_cons (pv 1) pa_nil)) (pg_name (i := 7) sc_Growing___init__.nd rfl (Or.inl rfl))
  (pss_cons (ps_set (i := 8) sc_Growing___init__.nd rfl (Or.inl rfl) (act _ _ _ _ _ _ tkB (pa_cons (pe_ix ix_seq (pe_fld (pv 0) rfl) (pv 5) (fun _ _ => rfl)) (pa_cons (pv 7) pa_nil)) rfl rfl))
  (pss_cons (ps_if (pt_cmpR (op_notInN (room9 hr)) (pv 8) (pe_fld (pv 0) rfl) (by rfl)) (pss_cons (ps_nput (room9 hr) (pe_fld (pv 0) rfl) (pv 8) (pe_callB call_lenA rfl T.f_len (by decide +kernel) (pa_cons (pe_fld (pv 0) rfl) pa_nil)) rfl)
  (pss_one (ps_expr (pe_bm PySem.F.plainAttrs_list PySem.F.slot_list_append PySem.F.type_list_append mt_append (pe_fld (pv 0) rfl) (pa_cons (pv 8) pa_nil))))) pss_nil)
  (pss_one (ps_expr (pe_bm PySem.F.plainAttrs_list PySem.F.slot_list_append PySem.F.type_list_append mt_append (pv 6) (pa_cons (pe_nget (room9 hr) (pe_fld (pv 0) rfl) (pv 8) (fun _ _ => rfl)) pa_nil)))))))
  (pss_cons (ps_expr (pe_bm PySem.F.plainAttrs_list PySem.F.slot_list_append PySem.F.type_list_append mt_append (pe_fld (pv 0) rfl) (pa_cons (pe_callTy call_tuple_of rfl T.f_tuple (by decide +kernel) (pa_cons (pv 6) pa_nil)) pa_nil)))
  (pss_cons (ps_if (PW.pt (pw_and (pt_cmpR op_notN (pv 4) pe_non (nomark _)) (pw_and1 (pt_cmpR op_gt (pe_callB call_lenA rfl T.f_len (by decide +kernel) (pa_cons (pe_fld (pv 0) rfl) pa_nil)) (pv 4) (nomark _))))) (pss_one ps_never) pss_nil)
  (pss_one (ps_aug (i := 5) sc_Growing___init__.nd rfl (Or.inl rfl) pe_int ip_add)))))))))))),
  (ls_seq (ls_fld le_var (le_lstM (la_cons le_var la_nil)))
  (ls_seq (ls_fld le_var (le_n1 le_var le_c))
  (ls_seq (ls_fld le_var (le_lstM la_nil))
  (ls_seq (ls_asg le_c lg_name)
  (ls_while (lt_test (le_op lr_I0 le_var (le_cb lra_len (la_cons (le_fld le_var) la_nil))))
  (ls_seq (ls_asg (le_lstM la_nil) lg_name)
  (ls_seq (ls_for (li_rng1 (la_cons le_var la_nil)) lg_name
  (ls_seq (ls_asg (le_acN hW hG lp (la_cons (le_op lr_ix (le_fld le_var) le_var) (la_cons le_var la_nil))) lg_name)
  (ls_seq (ls_if (lt_test (le_op lr_nin le_var (le_fld le_var))) (ls_seq (ls_nput (le_cb lra_len (la_cons (le_fld le_var) la_nil)) (le_fld le_var) le_var)
  (ls_drop (le_bmL lrm_append (le_fld le_var) (la_cons le_var la_nil)))) ls_next)
  (ls_drop (le_bmL lrm_append le_var (la_cons (le_nget (le_fld le_var) le_var) la_nil))))))
  (ls_seq (ls_drop (le_bmL lrm_append (le_fld le_var) (la_cons (le_cb lra_tuple (la_cons le_var la_nil)) la_nil)))
  (ls_seq (ls_if (lt_and (lt_test (le_op lr_isNotN le_var le_c)) (lt_test (le_op lr_I0 (le_cb lra_len (la_cons (le_fld le_var) la_nil)) le_var))) ls_never ls_next)
  (ls_aug le_c lr_ipI)))))))))), ?z⟩)
  case z =>
    intro ds Qz h
    obtain ⟨x, dx, size, first, g, S, B, rfl, hx, s1, s2, h0, hg, hB, b4, hzo, k⟩ := h
    have f1 : FldOk K (He.ga K "Growing") "places" := ⟨T.c_Growing, T.na_Growing_places⟩
    have f2 : FldOk K (He.ga K "Growing") "number_of" := ⟨T.c_Growing, T.na_Growing_number_of⟩
    have f3 : FldOk K (He.ga K "Growing") "steps" := ⟨T.c_Growing, T.na_Growing_steps⟩
    try walk_at "z"
    intro a ha
    have nax : a ≠ x := fun q => by rw [q, hx] at ha; cases ha
    refine ⟨_, dx, _, by rw [mput_ne nax.symm]; exact hx, f1, by simp, fun b hb => ⟨keyB_keyD, _, dx, _, by rw [mput_ne (mput_none hb).1.symm, mput_same], f2, by rw [grP1]; simp, fun c hc => ?_⟩⟩
    obtain ⟨nbx, hb⟩ := mput_none hb
    obtain ⟨nba, hb⟩ := mput_none hb
    obtain ⟨ncx, hc⟩ := mput_none hc
    obtain ⟨ncb, hc⟩ := mput_none hc
    obtain ⟨-, hc⟩ := mput_none hc
    obtain ⟨nca, hc⟩ := mput_none hc
    refine ⟨_, dx, _, by rw [mput_ne ncx.symm, mput_same], f3, by rw [grP1, grP2]; simp, ?_⟩
    rw [grP1, grP2, grP3]
    refine zwhile (fun m δ M' => ∃ (L : List Pt) (at_ : Nat) (q1 q2 q3 : Option D), δ = [some (.v (.ref x)), some (.v (.int size)), some (keyD first), some (.v (.ref f)), some (.v .non), some (.v (.int ((at_ : Nat) : Int))), q1, q2, q3] ∧ at_ ≤ L.length ∧ m + at_ = 5000 ∧
      M' x = some (.ins (He.ga K "Growing") dx (growFl a b c)) ∧ M' a = some (.lst (L.map keyD)) ∧ M' b = some (.dN w b (numD 0 L)) ∧ M' c = some (.lst (((L.take at_).map (stepR g size.toNat (grown g size first))).map rowD)) ∧ Kx x w0.M M' ∧ Gw S L ∧ grow g size.toNat m L at_ = grown g size first)
      ⟨5000, [first], 0, none, none, none, rfl, by simp, rfl, mput_same, ?_, ?_, ?_, ?_, ⟨by simp, fun p hp => by rw [List.mem_singleton.mp hp]; exact h0⟩, rfl⟩ ?_
    · rw [mput_ne nax, mput_ne nca.symm, mput_ne nax, mput_ne nba.symm, mput_ne nax, mput_same]
      rfl
    · rw [mput_ne nbx, mput_ne ncb.symm, mput_ne nbx, mput_same]
      rfl
    · rw [mput_ne ncx, mput_same]
      rfl
    · exact ((((((Kx.rf.put ha).own).put hb).own).put hc).own)
    rintro m δ M' kk ⟨L, at_, q1, q2, q3, rfl, hat, hm, ex, ea, eb, ec, kx, gw, hgr⟩ hk
    have len := hB L gw
    try walk_at "z"
    refine ⟨_, dx, _, ex, f1, _, grL1, ?_⟩
    try walk_at "z"
    refine ⟨L.length, by rw [lenD_lst ea, List.length_map], ?_⟩
    try walk_at "z"
    obtain ⟨m', rfl⟩ : ∃ m', m = m' + 1 := ⟨m - 1, by omega⟩
    by_cases hlt : at_ < L.length
    · rw [if_pos (by omega)]
      obtain ⟨p, hL⟩ : ∃ p, L[at_]? = some p := ⟨_, List.getElem?_eq_getElem hlt⟩
      have hSp := gw.s p (List.mem_of_getElem? hL)
      unfold grow at hgr
      rw [hL] at hgr
      dsimp only at hgr
      try walk_at "z"
      intro r hr
      refine ⟨by omega, by omega, ?_⟩
      have nrx : r ≠ x := fun q => by rw [q, ex] at hr; cases hr
      have nra : r ≠ a := fun q => by rw [q, ea] at hr; cases hr
      have nrb : r ≠ b := fun q => by rw [q, eb] at hr; cases hr
      have nrc : r ≠ c := fun q => by rw [q, ec] at hr; cases hr
      have hr0 : w0.M r = none := by
        cases e : w0.M r with
        | none => rfl
        | some o => have := kx r o nrx e; rw [this] at hr; cases hr
      refine zloop (fun i δ M2 => ∃ (q2 q3 : Option D), δ = [some (.v (.ref x)), some (.v (.int size)), some (keyD first), some (.v (.ref f)), some (.v .non), some (.v (.int ((at_ : Nat) : Int))), some (.v (.ref r)), q2, q3] ∧
        M2 x = some (.ins (He.ga K "Growing") dx (growFl a b c)) ∧ M2 a = some (.lst ((exP g p i L).map keyD)) ∧ M2 b = some (.dN w b (numD 0 (exP g p i L))) ∧ M2 c = some (.lst (((L.take at_).map (stepR g size.toNat (grown g size first))).map rowD)) ∧
        M2 r = some (.lst (dInts ((List.range i).map fun (s : Nat) => (((grown g size first).idxOf (g p s) : Nat) : Int)))) ∧ Kx x w0.M M2) ?_ ?_ ⟨_, _, rfl, by rw [mput_ne nrx.symm]; exact ex, by rw [mput_ne nra.symm]; exact ea, by rw [mput_ne nrb.symm]; exact eb, by rw [mput_ne nrc.symm]; exact ec, mput_same, kx.put hr0⟩
      · rintro i d δ M2 k2 hd ⟨q2, q3, rfl, gx, ga, gb, gc, gr, gk⟩ hk2
        obtain ⟨hi, rfl⟩ := rg_at hd
        have gs := exP_keep (n := i) gw (fun s hs => hg p hSp s (by omega))
        obtain ⟨gw2, ⟨t, et⟩, _⟩ := gs
        have len2 := hB _ gw2
        try walk_at "z"
        refine ⟨_, dx, _, gx, f1, _, grL1, ?_⟩
        try walk_at "z"
        refine ⟨_, ga, keyD p, by rw [zat_nat, List.getElem?_map, et, List.getElem?_append_left hlt, hL]; rfl, ?_⟩
        refine hzo p i _ _ _ hSp (by omega) (by omega) ?_
        try walk_at "z"
        refine ⟨_, dx, _, gx, f2, _, grL2, ?_⟩
        try walk_at "z"
        refine ⟨_, gb, keyB_keyD, ?_⟩
        have lenr : (dInts ((List.range i).map fun (s : Nat) => (((grown g size first).idxOf (g p s) : Nat) : Int))).length = i := by rw [ints_len, List.length_map, List.length_range]
        have isq : (getN (numD 0 (exP g p i L)) (keyD (g p i))).isSome = decide (g p i ∈ exP g p i L) := by
          rw [getN_num]
          by_cases q : g p i ∈ exP g p i L
          · rw [if_pos q, decide_eq_true q]; rfl
          · rw [if_neg q, decide_eq_false q]; rfl
        rw [isq]
        have eF : ∃ t, grown g size first = exP g p (i + 1) L ++ t := by
          obtain ⟨t1, e1⟩ := exP_mono (g := g) (p := p) (L := L) (i := i + 1) (n := size.toNat) (by omega)
          obtain ⟨t2, e2⟩ := grow_ext (g := g) (n := size.toNat) m' (exP g p size.toNat L) (at_ + 1)
          rw [← hgr, e2, e1]
          exact ⟨t1 ++ t2, by rw [List.append_assoc]⟩
        obtain ⟨tF, eF⟩ := eF
        have idx : (grown g size first).idxOf (g p i) = (exP g p (i + 1) L).idxOf (g p i) := by rw [eF, idx_app (by rw [exP_succ]; exact mem_addP)]
        have rng1 : ((List.range i).map fun (s : Nat) => (((grown g size first).idxOf (g p s) : Nat) : Int)) ++ [(((grown g size first).idxOf (g p i) : Nat) : Int)] = (List.range (i + 1)).map fun (s : Nat) => (((grown g size first).idxOf (g p s) : Nat) : Int) := by
          rw [List.range_succ, List.map_append]
          rfl
        have dI : ∀ (xs : List Int) (y : Int), dInts xs ++ [.v (.int y)] = dInts (xs ++ [y]) := fun xs y => by unfold dInts; simp
        by_cases hin : g p i ∈ exP g p i L
        · rw [decide_eq_true hin, if_neg (by decide)]
          have ee : exP g p (i + 1) L = exP g p i L := by rw [exP_succ, addP, if_pos hin]
          try walk_at "z"
          refine ⟨⟨_, gr⟩, _, dx, _, gx, f2, _, grL2, ?_⟩
          try walk_at "z"
          refine ⟨_, gb, keyB_keyD, _, by rw [getN_num, if_pos hin], _, gr, by rw [lenr]; omega, hk2 _ _ ⟨_, _, rfl, ?_, ?_, ?_, ?_, ?_, gk.put hr0⟩⟩
          · rw [mput_ne nrx.symm]; exact gx
          · rw [mput_ne nra.symm, ee]; exact ga
          · rw [mput_ne nrb.symm, ee]; exact gb
          · rw [mput_ne nrc.symm]; exact gc
          · rw [mput_same, dI, ← rng1, idx, ee, Nat.zero_add]
        · rw [decide_eq_false hin, if_pos (by decide)]
          have ee : exP g p (i + 1) L = exP g p i L ++ [g p i] := by rw [exP_succ, addP, if_neg hin]
          have hin2 : g p i ∈ exP g p i L ++ [g p i] := by simp
          try walk_at "z"
          refine ⟨_, dx, _, gx, f1, _, grL1, ?_⟩
          try walk_at "z"
          refine ⟨_, lenD_lst ga, ?_⟩
          try walk_at "z"
          refine ⟨_, dx, _, gx, f2, _, grL2, ?_⟩
          try walk_at "z"
          refine ⟨_, gb, keyB_keyD, by rw [numD_len]; omega, _, dx, _, by rw [mput_ne nbx.symm]; exact gx, f1, _, grL1, ⟨_, rfl, _, by rw [mput_ne nba.symm]; exact ga⟩, ?_⟩
          try walk_at "z"
          refine ⟨_, by rw [mput_ne nba.symm]; exact ga, by rw [List.length_map]; omega, ⟨_, by rw [mput_ne nra, mput_ne nrb]; exact gr⟩, _, dx, _, by rw [mput_ne nax.symm, mput_ne nbx.symm]; exact gx, f2, _, grL2, ?_⟩
          rw [List.length_map, put_num hin]
          try walk_at "z"
          refine ⟨_, by rw [mput_ne nba, mput_same], keyB_keyD, _, by rw [getN_num, if_pos hin2], _, by rw [mput_ne nra, mput_ne nrb]; exact gr, by rw [lenr]; omega, hk2 _ _ ⟨_, _, rfl, ?_, ?_, ?_, ?_, ?_, ((gk.put hb).put ha).put hr0⟩⟩
          · rw [mput_ne nrx.symm, mput_ne nax.symm, mput_ne nbx.symm]; exact gx
          · rw [mput_ne nra.symm, mput_same, ee, List.map_append]; rfl
          · rw [mput_ne nrb.symm, mput_ne nba, mput_same, ee]
          · rw [mput_ne nrc.symm, mput_ne nca, mput_ne ncb]; exact gc
          · rw [mput_same, dI, ← rng1, idx, ee, Nat.zero_add]
      · rintro δ M2 ⟨q2, q3, rfl, gx, ga, gb, gc, gr, gk⟩
        rw [List.length_map, List.length_range] at ga gb gr
        try walk_at "z"
        refine ⟨_, dx, _, gx, f3, _, grL3, ⟨_, rfl, _, gc⟩, ?_⟩
        try walk_at "z"
        refine ⟨_, seqOf_lst gr, _, gc, by rw [List.length_map, List.length_map, List.length_take]; omega, ?_⟩
        try walk_at "z"
        obtain ⟨gw2, ⟨t, et⟩, _⟩ := exP_keep (n := size.toNat) gw (fun s hs => hg p hSp s hs)
        refine hk _ _ m' (by omega) ⟨_, at_ + 1, _, _, _, rfl, by rw [et, List.length_append]; omega, by omega, ?_, ?_, ?_, ?_, gk.put hc, gw2, hgr⟩
        · rw [mput_ne ncx.symm]; exact gx
        · rw [mput_ne nca.symm]; exact ga
        · rw [mput_ne ncb.symm]; exact gb
        · rw [mput_same, et, List.take_append_of_le_length (by omega), List.take_succ, hL]
          simp only [List.map_append, Option.toList_some, List.map_cons, List.map_nil]
          rfl
    · rw [if_neg (by omega)]
      have hE : at_ = L.length := by omega
      unfold grow at hgr
      rw [List.getElem?_eq_none (by omega)] at hgr
      have hgr : L = grown g size first := hgr
      rw [hE, List.take_length] at ec
      try walk_at "z"
      refine k M' a b c kx ha hb hc nca.symm ex (by rw [← hgr]; exact ea) ?_
      unfold rowsG
      rw [← hgr] at ec ⊢
      exact ec
theorem nok_weighted_onward (T : Tx K mg base) : ∀ (cl : List (Str × Addr)) (f c' : Addr), NOk P w K mg base (L2N.CX P w) 1 f (NF.of nst_weighted_onward "onward" (qN "weighted" "onward") cl c') ["place", "sign"] ["weights", "modulus"] (spN K (zn_weighted_onward)) := by
  refine zokN nsc_weighted_onward (fun F e doc pm ctv us hl => by rcases F with ⟨n, q, pa, bo, sc, cl, c⟩; cases e; match us, hl with | [_, _], _ => rfl) hln_weighted_onward (fun cl f c' A outer s H E w0 Ez hr hW => ⟨(tRet (tTup (tCons (tOp (rI (fun _ j => 0 < j) fun i j => .int (i % j)) (tOp (rAddA K) (tOp (rIx K) (tVar 0) (tC (.int 0))) (tC (.int 1))) (tCB (rLenA K) (tCons (tVar 2) tNil))) (tCons (tOp (rI (fun _ j => 0 < j) fun i j => .int (i % j)) (tOp (rAddA K) (tOp (rIx K) (tVar 0) (tC (.int 1))) (tOp (rMulA K) (tOp (rIx K) (tVar 2) (tOp (rIx K) (tVar 0) (tC (.int 0)))) (tVar 1))) (tVar 3)) tNil)))), _,
  (pss_one (ps_ret (pe_tup (pa_cons (pe_op op_mod (pe_op op_addA (pe_ix ix_seq (pv 0) pe_int (fun _ _ => rfl)) pe_int) (pe_callB call_lenA rfl T.f_len (by decide +kernel) (pa_cons (pv 2) pa_nil))) (pa_cons (pe_op op_mod (pe_op op_addA (pe_ix ix_seq (pv 0) pe_int (fun _ _ => rfl)) (pe_op op_mulA (pe_ix ix_seq (pv 2) (pe_ix ix_seq (pv 0) pe_int (fun _ _ => rfl)) (fun _ _ => rfl)) (pv 1))) (pv 3)) pa_nil))))),
  (ls_ret (le_tup (la_cons (le_op lr_I (le_op lr_add (le_op lr_ix le_var le_c) le_c) (le_cb lra_len (la_cons le_var la_nil))) (la_cons (le_op lr_I (le_op lr_add (le_op lr_ix le_var le_c) (le_op lr_mul (le_op lr_ix le_var (le_op lr_ix le_var le_c)) le_var)) le_var) la_nil)))), ?z⟩)
  case z =>
    intro cs ds Qz hcl h
    obtain ⟨ws, m, p, s, rfl, rfl, hS, w1, w2, hw, m1, m2, s0, s3, k⟩ := h
    obtain ⟨p1, p2⟩ := p
    obtain ⟨a0, a1, a2, a3⟩ := hS
    have a0 : 0 ≤ p1 := a0
    have a1 : p1 < ws.length := a1
    have a2 : 0 ≤ p2 := a2
    have a3 : p2 < m := a3
    obtain ⟨j, rfl⟩ := Int.eq_ofNat_of_zero_le a0
    have hj : j < ws.length := by omega
    have hwj := hw _ (List.getElem_mem hj)
    unfold keyD
    unfold keyD at k
    try walk_at "z"
    refine ⟨by rw [ints_len]; omega, ?_⟩
    try walk_at "z"
    refine ⟨_, row_at (List.getElem?_eq_getElem hj), ?_⟩
    try walk_at "z"
    refine ⟨.inl (.inr ⟨by omega, by omega⟩), by omega, ?_⟩
    have e : wtG ws m ((j : Int), p2) s = (((j : Int) + 1) % ((dInts ws).length : Nat), (p2 + ws[j] * s) % m) := by
      unfold wtG
      rw [ints_len]
      dsimp only
      rw [Int.toNat_natCast, List.getElem?_eq_getElem hj]
      rfl
    rw [e] at k
    exact k
theorem ok_weighted (T : Tx K mg base) : DefAt P w K mg base 6 "weighted" ["size", "weights", "modulus", "rest"] (zp_weighted K) := by
  refine zokC T.d_weighted sc_weighted hl_weighted (fun f A outer s H E w0 Ez hr hW => ⟨(tSeq (tDrop (tCallW (spOf K (zp_check_size)) (WB E) (tCons (tVar 0) tNil)))
  (tSeq (tIfS (tOr (tNot (tB (tCB (rIsiA K) (tCons (tVar 1) (tCons (tC (.ty "tuple")) tNil))))) (tNot (tTest (tChain (rI0 fun i j => .bl (decide (i ≤ j))) (rI0 fun i j => .bl (decide (i ≤ j))) (tC (.int 1)) (tCB (rLenA K) (tCons (tVar 1) tNil)) (tC (.int (12))))))) tNever tNext)
  (tSeq (tIfS (tNot (tB (tCB (rAll K) (tCons (tLc (iSeq K (tVar 1)) (gName 4) tYes (tCallW (spOf K (zp_is_within)) W0 (tCons (tVar 4) (tCons (tC (.int 0)) (tCons (tC (.int (200))) tNil)))) [4]) tNil)))) tNever tNext)
  (tSeq (tIfS (tOr (tNot (tB (tCallW (spOf K (zp_is_within)) (WB E) (tCons (tVar 2) (tCons (tC (.int 1)) (tCons (tC (.int (100))) tNil)))))) (tTest (tOp (rI0 fun i j => .bl (decide (j < i))) (tOp (rMulA K) (tCB (rLenA K) (tCons (tVar 1) tNil)) (tVar 2)) (tC (.int (200)))))) tNever tNext)
  (tSeq (tIfS (tNot (tB (tCallW (spOf K (zp_is_within)) (WB E) (tCons (tVar 3) (tCons (tC (.int 0)) (tCons (tOp (rI0 fun i j => .int (i - j)) (tVar 2) (tC (.int 1))) tNil)))))) tNever tNext)
  (tNd (tP K "weighted") (qN "weighted" "onward") 5 _ (fun f c1 => (tSeq (tAsg (tMkF K (He.ga K "Growing") (zg_Growing K) (zn_weighted_onward) _ f [1, 2] (WB E) (tCons (tVar 0) (tCons (tTup (tCons (tC (.int 0)) (tCons (tC (.int 0)) tNil))) (tCons (tVar 5) (tCons (tC .non) tNil))))) (gName 6))
  (tSeq (tAsg (tLc (iEnumA K (tCons (tFld K (tVar 6) "places") tNil)) (gTup K 2 (gCons (gName 8) (gCons (gName 9) gNil))) (tTest (tOp (rEqD K) (tOp (rIx K) (tVar 9) (tC (.int 1))) (tVar 3))) (tVar 8) [8, 9]) (gName 7))
  (tRet (tMakeW (He.ga K "Scheme") (spOf K (zp_Scheme___init__ K)) (WB E) (tCons (tVar 0) (tCons (tCB (rTuple K) (tCons (tFld K (tVar 6) "steps") tNil)) (tCons (tCB (rTuple K) (tCons (tVar 7) tNil)) tNil)))))))))))))), _,
  (pss_cons (ps_expr (zc_call (ok_check_size T) (hr.mono (by decide)) rfl tkB (pa_cons (pv 0) pa_nil)))
  (pss_cons (ps_if (PW.pt (pw_or (pt_not (pt_val (pe_callB call_isiA rfl T.f_isinstance (by decide +kernel) (pa_cons (pv 1) (pa_cons (zp_ty (n := "tuple") T.f_tuple (by decide +kernel) rfl) pa_nil))))) (pw_or1 (pt_not (pt_chain op_le op_le pe_int (pe_callB call_lenA rfl T.f_len (by decide +kernel) (pa_cons (pv 1) pa_nil)) (zp_int T.g_MOST_WEIGHTS rfl)))))) (pss_one ps_never) pss_nil)
  (pss_cons (ps_if (pt_not (pt_val (pe_callB (cr_all rfl) rfl T.f_all (by decide +kernel) (pa_cons (pe_lc (own := [("weight", 4)]) rfl sc_weighted.nd (pi_seq (pv 1)) (blkOk_by (by kernel_rfl)) (fun _ _ _ _ _ => (pg_name (i := 4) sc_weighted.nd rfl (Or.inl rfl))) (fun _ _ _ _ _ => pts_nil) (fun _ _ _ _ _ => (zc_call (ok_is_within T) (hr.mono (by decide)) rfl tk0 (pa_cons (pv 4) (pa_cons pe_int (pa_cons (zp_int T.g_MOST_WEIGHT rfl) pa_nil)))))) pa_nil)))) (pss_one ps_never) pss_nil)
  (pss_cons (ps_if (PW.pt (pw_or (pt_not (pt_val (zc_call (ok_is_within T) (hr.mono (by decide)) rfl tkB (pa_cons (pv 2) (pa_cons pe_int (pa_cons (zp_int T.g_MOST_MODULUS rfl) pa_nil)))))) (pw_or1 (pt_cmpR op_gt (pe_op op_mulA (pe_callB call_lenA rfl T.f_len (by decide +kernel) (pa_cons (pv 1) pa_nil)) (pv 2)) (zp_int T.g_MOST_STANDS rfl) (nomark _))))) (pss_one ps_never) pss_nil)
  (pss_cons (ps_if (pt_not (pt_val (zc_call (ok_is_within T) (hr.mono (by decide)) rfl tkB (pa_cons (pv 3) (pa_cons pe_int (pa_cons (pe_op op_sub (pv 2) pe_int) pa_nil)))))) (pss_one ps_never) pss_nil)
  (pss_nd (i := 5) (name := "onward") rfl T.b_weighted rfl (ndef_free (fr := (["weights", "modulus"] : List Str)) (by decide +kernel : ndefB (defScope (top 29)) (C8.fnScope nst_weighted_onward) (["weights", "modulus"] : List Str) = true)) rfl rfl rfl sc_weighted.nd rfl (Or.inl rfl) (Or.inl rfl) (fun f c1 => (pss_cons (ps_set (i := 6) sc_weighted.nd rfl (Or.inl rfl) (zc_mkF (gw_Growing T) (nok_weighted_onward T _ f c1) (by decide) (hr.mono (by decide)) rfl tkB (fun ok => Caps.made ok (ndef_free (fr := (["weights", "modulus"] : List Str)) (by decide +kernel : ndefB (defScope (top 29)) (C8.fnScope nst_weighted_onward) (["weights", "modulus"] : List Str) = true)) (ndef_fr (sc := defScope (top 29)) (by decide +kernel)) rfl) (pa_cons (pv 0) (pa_cons (pe_tup (pa_cons pe_int (pa_cons pe_int pa_nil))) (pa_cons (pv 5) (pa_cons pe_non pa_nil))))))
  (pss_cons (ps_setLc (i := 7) (own := [("at", 8), ("place", 9)]) rfl sc_weighted.nd rfl rfl (sw_true rfl rfl rfl (by decide +kernel)) (pi_enumA rfl T.f_enumerate (pa_cons (pe_fld (pv 6) rfl) pa_nil)) (blkOk_by (by kernel_rfl)) (fun _ _ _ _ _ => (pg_tup rfl (pgs_cons (pg_name (i := 8) sc_weighted.nd rfl (Or.inl rfl)) (pgs_cons (pg_name (i := 9) sc_weighted.nd rfl (Or.inl rfl)) pgs_nil)))) (fun _ _ _ _ _ => (pts_one (pt_cmpR (op_eqD hr.units) (pe_ix ix_seq (pv 9) pe_int (fun _ _ => rfl)) (pv 3) (nomark _)))) (fun _ _ _ _ _ => (pv 8)))
  (pss_one (ps_ret (zc_make (ok_Scheme T) (hr.mono (by decide)) rfl tkB (pa_cons (pv 0) (pa_cons (pe_callTy call_tuple_of rfl T.f_tuple (by decide +kernel) (pa_cons (pe_fld (pv 6) rfl) pa_nil)) (pa_cons (pe_callTy call_tuple_of rfl T.f_tuple (by decide +kernel) (pa_cons (pv 7) pa_nil)) pa_nil))))))))))))))),
  (ls_seq (ls_drop (le_call hW (la_cons le_var la_nil)))
  (ls_seq (ls_if (lt_or (lt_not (lt_B (le_cb lra_isi (la_cons le_var (la_cons le_c la_nil))))) (lt_not (lt_test (le_chain lr_I0 lr_I0 le_c (le_cb lra_len (la_cons le_var la_nil)) le_c)))) ls_never ls_next)
  (ls_seq (ls_if (lt_not (lt_B (le_cb lra_all (la_cons (le_lc (li_seq le_var) lg_name mono_name (wo_name (by decide)) lt_yes (le_call ctW0' (la_cons le_var (la_cons le_c (la_cons le_c la_nil))))) la_nil)))) ls_never ls_next)
  (ls_seq (ls_if (lt_or (lt_not (lt_B (le_call hW (la_cons le_var (la_cons le_c (la_cons le_c la_nil)))))) (lt_test (le_op lr_I0 (le_op lr_mul (le_cb lra_len (la_cons le_var la_nil)) le_var) le_c))) ls_never ls_next)
  (ls_seq (ls_if (lt_not (lt_B (le_call hW (la_cons le_var (la_cons le_c (la_cons (le_op lr_I0 le_var le_c) la_nil)))))) ls_never ls_next)
  (ls_nd (fun w1 f c1 lw1 hf1 hc1 => (ls_seq (ls_asg (le_mkF (hW.le lw1) hf1 hc1 (la_cons le_var (la_cons (le_tup (la_cons le_c (la_cons le_c la_nil))) (la_cons le_var (la_cons le_c la_nil))))) lg_name)
  (ls_seq (ls_asg (le_lc (li_enum (la_cons (le_set (le_fld le_var)) la_nil)) (lg_tup (lgs_cons lg_name (lgs_cons lg_name lgs_nil))) (mono_tup (mono_cons mono_name (mono_cons mono_name mono_nil))) (wo_tup (wos_cons mono_name (wo_name (by decide)) (wos_cons mono_name (wo_name (by decide)) wos_nil))) (lt_test (le_op lr_eq (le_op lr_ix le_var le_c) le_var)) le_var) lg_name)
  (ls_ret (le_make mk_Scheme (hW.le lw1) (la_cons le_var (la_cons (le_cb lra_tuple (la_cons (le_fld le_var) la_nil)) (la_cons (le_cb lra_tuple (la_cons le_var la_nil)) la_nil)))))))))))))), ?z⟩)
  case z =>
    intro ds Qz h
    obtain ⟨size, m, rest, ws, rfl, hw, hT, k⟩ := h
    have f1 : FldOk K (He.ga K "Growing") "places" := ⟨T.c_Growing, T.na_Growing_places⟩
    have f3 : FldOk K (He.ga K "Growing") "steps" := ⟨T.c_Growing, T.na_Growing_steps⟩
    obtain ⟨s1, s2, w1, w2, hwb, m1, m2, m3, r1, r2⟩ := id hw
    try walk_at "z"
    refine ⟨size, rfl, s1, s2, ?_⟩
    try walk_at "z"
    rw [ints_len, if_pos (by omega), if_neg (by omega)]
    refine zlc_map1 (fun d => .v (.bl true)) (by rw [sizeLine_eq, ints_len]; omega) (fun d k1 k2 hd hk => ?_) ?_
    · obtain ⟨x, hx, rfl⟩ := ints_nice hd
      have := hwb x hx
      try walk_at "z"
      exact ⟨_, 0, 200, rfl, rfl, by rw [isW_in this.1 this.2]; exact hk⟩
    try walk_at "z"
    rw [show (dInts ws).all (fun d => true) = true from List.all_eq_true.mpr fun _ _ => rfl]
    try walk_at "z"
    refine ⟨_, 1, 100, rfl, rfl, ?_⟩
    rw [isW_in m1 m2]
    try walk_at "z"
    refine ⟨.inl (.inr ⟨by omega, by omega⟩), ?_⟩
    rw [if_neg (by omega)]
    refine ⟨_, 0, m - 1, rfl, rfl, ?_⟩
    rw [isW_in r1 (by omega)]
    try walk_at "z"
    refine ⟨hT, fun f hf => ⟨[rowD ws, .v (.int m)], rfl, fun x dx hx => ?_⟩⟩
    refine ⟨x, dx, size, (0, 0), wtG ws m, wtS ws m, 200, rfl, mput_same, by omega, s2, wtS_first w1 m1, fun p _ s _ => wtS_step w1 m1, fun L g => wtS_len m3 m1 g, by decide, fun p s M' Q' E' hp p0 p1 hq => ⟨ws, m, p, s, rfl, rfl, hp, w1, w2, hwb, m1, m2, p0, by omega, hq⟩, fun M' a b c kx ha hb hc nac ex ea ec => ?_⟩
    obtain ⟨nax, ha⟩ := mput_none ha
    obtain ⟨ncx, hc⟩ := mput_none hc
    try walk_at "z"
    refine ⟨_, dx, _, ex, f1, _, grL1, ?_⟩
    try walk_at "z"
    refine ⟨_, ea, ?_⟩
    try walk_at "z"
    refine zlc (fun i acc M'' => M'' = mdel M' a ∧ acc = dInts (((List.range i).filter fun (j : Nat) => decide (((wtF size ws m)[j]?.getD (0, 0)).2 = rest)).map fun (j : Nat) => (j : Int))) (by rw [enumD_len, List.length_map, sizeLine_eq]; have lF : (grown (wtG ws m) size (0, 0)).length ≤ 200 := wtS_len m3 m1 (wt_grn hw).toGw; omega) ?_ ?_ ⟨rfl, rfl⟩
    · rintro i d acc M'' k1 k2 hd ⟨rfl, rfl⟩ hk1 hk2
      obtain ⟨e, he, rfl⟩ := enumD_get hd
      rw [List.getElem?_map] at he
      cases e1 : (wtF size ws m)[i]? with
      | none => rw [e1] at he; cases he
      | some p =>
        rw [e1] at he
        cases he
        unfold keyD
        try walk_at "z"
        by_cases q : p.2 = rest
        · rw [if_pos q]
          refine hk1 _ _ ⟨rfl, ?_⟩
          rw [List.range_succ, List.filter_append, List.map_append, List.filter_cons, e1]
          unfold dInts
          simp [q]
        · rw [if_neg q]
          refine hk2 _ ⟨rfl, ?_⟩
          rw [List.range_succ, List.filter_append, List.map_append, List.filter_cons, e1]
          simp [q]
    · rintro acc M'' ⟨rfl, rfl⟩ _
      rw [enumD_len, List.length_map]
      have nax' : a ≠ x := fun q => by subst q; rw [ea] at ex; cases ex
      have ncx' : c ≠ x := fun q => by subst q; rw [ec] at ex; cases ex
      refine ⟨_, dx, _, by rw [mdel_ne nax'.symm]; exact ex, f3, _, grL3, ?_⟩
      try walk_at "z"
      refine ⟨_, seqOf_lst (by rw [mdel_ne nac.symm]; exact ec), size, _, _, rfl, wt_sch hw, k _ ?_⟩
      refine Kp.del (fun q o e => ?_) ha
      have nq : q ≠ x := fun z => by rw [z, hx] at e; cases e
      exact kx q o nq (by rw [mput_ne nq]; exact e)
theorem ok_check_table (T : Tx K mg base) : DefAt P w K mg base 4 "check_table" ["size", "table"] (zp_check_table) := by
  refine zok T.d_check_table sc_check_table hl_check_table (fun f cdv A outer s H E w0 Ez hr hW => ⟨(tSeq (tIfS (tOr (tNot (tB (tCB (rIsiA K) (tCons (tVar 1) (tCons (tC (.ty "tuple")) tNil))))) (tTest (tOp (rNeD K) (tCB (rLenA K) (tCons (tVar 1) tNil)) (tVar 0)))) (tRz (WB E) (tMkO (He.ga K "BadScheme") (spXI (He.ga K "BadScheme") ["part", "at"]) [] (tCons (tC (.str "steps")) (tCons (tUn (rU fun i => .int (-i)) (tC (.int 1))) tNil)))) tNext)
  (tFor (iEnumA K (tCons (tVar 1) tNil)) (gTup K 2 (gCons (gName 2) (gCons (gName 3) gNil)))
  (tIfS (tNot (tB (tCallW (spOf K (zp_is_step)) (WB E) (tCons (tVar 0) (tCons (tVar 0) (tCons (tVar 3) tNil)))))) (tRz (WB E) (tMkO (He.ga K "BadScheme") (spXI (He.ga K "BadScheme") ["part", "at"]) [] (tCons (tC (.str "steps")) (tCons (tVar 2) tNil)))) tNext))), _,
  (pss_cons (ps_if (PW.pt (pw_or (pt_not (pt_val (pe_callB call_isiA rfl T.f_isinstance (by decide +kernel) (pa_cons (pv 1) (pa_cons (zp_ty (n := "tuple") T.f_tuple (by decide +kernel) rfl) pa_nil))))) (pw_or1 (pt_cmpR (op_neD hr.units) (pe_callB call_lenA rfl T.f_len (by decide +kernel) (pa_cons (pv 1) pa_nil)) (pv 0) (nomark _))))) (pss_one (zc_raise (k := 0) (xc_BadScheme T) (hr.mono (by decide)) rfl rfl tkB (pa_cons pe_str (pa_cons (pe_un un_neg pe_int) pa_nil)))) pss_nil)
  (pss_one (ps_for (passes_of rfl) rfl (pi_enumA rfl T.f_enumerate (pa_cons (pv 1) pa_nil)) (pg_tup rfl (pgs_cons (pg_name (i := 2) sc_check_table.nd rfl (Or.inl rfl)) (pgs_cons (pg_name (i := 3) sc_check_table.nd rfl (Or.inl rfl)) pgs_nil)))
  (pss_one (ps_if (pt_not (pt_val (zc_call (ok_is_step T) (hr.mono (by decide)) rfl tkB (pa_cons (pv 0) (pa_cons (pv 0) (pa_cons (pv 3) pa_nil)))))) (pss_one (zc_raise (k := 0) (xc_BadScheme T) (hr.mono (by decide)) rfl rfl tkB (pa_cons pe_str (pa_cons (pv 2) pa_nil)))) pss_nil))))),
  (ls_seq (ls_if (lt_or (lt_not (lt_B (le_cb lra_isi (la_cons le_var (la_cons le_c la_nil))))) (lt_test (le_op lr_ne (le_cb lra_len (la_cons le_var la_nil)) le_var))) (ls_rz hW (lx_mk (la_cons le_c (la_cons (le_un lr_U le_c) la_nil)))) ls_next)
  (ls_for (li_enum (la_cons le_var la_nil)) (lg_tup (lgs_cons lg_name (lgs_cons lg_name lgs_nil)))
  (ls_if (lt_not (lt_B (le_call hW (la_cons le_var (la_cons le_var (la_cons le_var la_nil)))))) (ls_rz hW (lx_mk (la_cons le_c (la_cons le_var la_nil)))) ls_next))), ?z⟩)
  case z =>
    intro ds Qz h
    obtain ⟨size, A, rfl, h, k⟩ := h
    obtain ⟨s1, s2, hl, hr⟩ := id h
    have hrl : (A.map rowD).length = A.length := List.length_map ..
    try walk_at "z"
    rw [if_neg (by omega)]
    try walk_at "z"
    refine zloop (fun i δ M' => M' = w0.M ∧ ∃ a b, δ = [some (.v (.int size)), some (rowsD A), a, b]) ?_ ?_ ⟨rfl, _, _, rfl⟩
    · rintro i d δ M' kk hd ⟨rfl, a, b, rfl⟩ hk
      obtain ⟨e, he, rfl⟩ := enumD_get hd
      obtain ⟨q, hq, rfl⟩ := List.mem_map.mp (List.mem_of_getElem? he)
      have := hr q hq
      try walk_at "z"
      exact ⟨size, size, q, rfl, this.1, by omega, this.2, by walk_at "z"; exact hk _ _ ⟨rfl, _, _, rfl⟩⟩
    · rintro δ M' ⟨rfl, a, b, rfl⟩
      try walk_at "z"
      exact k
theorem ok_by_table (T : Tx K mg base) : DefAt P w K mg base 6 "by_table" ["size", "table"] (zp_by_table K) := by
  refine zok T.d_by_table sc_by_table hl_by_table (fun f cdv A outer s H E w0 Ez hr hW => ⟨(tSeq (tDrop (tCallW (spOf K (zp_check_size)) (WB E) (tCons (tVar 0) tNil)))
  (tSeq (tDrop (tCallW (spOf K (zp_check_table)) (WB E) (tCons (tVar 0) (tCons (tVar 1) tNil))))
  (tRet (tMakeW (He.ga K "Scheme") (spOf K (zp_Scheme___init__ K)) (WB E) (tCons (tVar 0) (tCons (tVar 1) (tCons (tTup (tCons (tC (.int 0)) tNil)) tNil))))))), _,
  (pss_cons (ps_expr (zc_call (ok_check_size T) (hr.mono (by decide)) rfl tkB (pa_cons (pv 0) pa_nil)))
  (pss_cons (ps_expr (zc_call (ok_check_table T) (hr.mono (by decide)) rfl tkB (pa_cons (pv 0) (pa_cons (pv 1) pa_nil))))
  (pss_one (ps_ret (zc_make (ok_Scheme T) (hr.mono (by decide)) rfl tkB (pa_cons (pv 0) (pa_cons (pv 1) (pa_cons (pe_tup (pa_cons pe_int pa_nil)) pa_nil)))))))),
  (ls_seq (ls_drop (le_call hW (la_cons le_var la_nil)))
  (ls_seq (ls_drop (le_call hW (la_cons le_var (la_cons le_var la_nil))))
  (ls_ret (le_make mk_Scheme hW (la_cons le_var (la_cons le_var (la_cons (le_tup (la_cons le_c la_nil)) la_nil))))))), ?z⟩)
  case z =>
    intro ds Qz h
    obtain ⟨size, A, rfl, h, k⟩ := h
    obtain ⟨s1, s2, hl, hr⟩ := id h
    try walk_at "z"
    refine ⟨size, rfl, s1, s2, ?_⟩
    try walk_at "z"
    refine ⟨size, A, rfl, h, ?_⟩
    try walk_at "z"
    exact ⟨size, A, [0], rfl, h.sch, k⟩
theorem ok_signs_of (T : Tx K mg base) : DefAt P w K mg base 1 "signs_of" ["scheme", "stand"] (zp_signs_of K) := by
  refine zok T.d_signs_of sc_signs_of hl_signs_of (fun f cdv A outer s H E w0 Ez hr hW => ⟨(tRet (tCB (rTuple K) (tCons (tLc (iEnumA K (tCons (tOp (rIx K) (tFld K (tVar 0) "steps") (tVar 1)) tNil)) (gTup K 2 (gCons (gName 2) (gCons (gName 3) gNil))) (tTest (tOp (rIn K false) (tVar 3) (tFld K (tVar 0) "right"))) (tVar 2) [2, 3]) tNil))), _,
  (pss_one (ps_ret (pe_callTy call_tuple_of rfl T.f_tuple (by decide +kernel) (pa_cons (pe_lc (own := [("sign", 2), ("to", 3)]) rfl sc_signs_of.nd (pi_enumA rfl T.f_enumerate (pa_cons (pe_ix ix_seq (pe_fld (pv 0) rfl) (pv 1) (fun _ _ => rfl)) pa_nil)) (blkOk_by (by kernel_rfl)) (fun _ _ _ _ _ => (pg_tup rfl (pgs_cons (pg_name (i := 2) sc_signs_of.nd rfl (Or.inl rfl)) (pgs_cons (pg_name (i := 3) sc_signs_of.nd rfl (Or.inl rfl)) pgs_nil)))) (fun _ _ _ _ _ => (pts_one (pt_cmpR op_in_seq (pv 3) (pe_fld (pv 0) rfl) (by rfl)))) (fun _ _ _ _ _ => (pv 2))) pa_nil)))),
  (ls_ret (le_cb lra_tuple (la_cons (le_lc (li_enum (la_cons (le_op lr_ix (le_fld le_var) le_var) la_nil)) (lg_tup (lgs_cons lg_name (lgs_cons lg_name lgs_nil))) (mono_tup (mono_cons mono_name (mono_cons mono_name mono_nil))) (wo_tup (wos_cons mono_name (wo_name (by decide)) (wos_cons mono_name (wo_name (by decide)) wos_nil))) (lt_test (le_op lr_in le_var (le_fld le_var))) le_var) la_nil))), ?z⟩)
  case z =>
    intro ds Qz h
    obtain ⟨size, rows, right, st, rfl, hs, h0, h1, k⟩ := h
    have f2 : FldOk K (He.ga K "Scheme") "steps" := ⟨T.c_Scheme, T.na_Scheme_steps⟩
    have f3 : FldOk K (He.ga K "Scheme") "right" := ⟨T.c_Scheme, T.na_Scheme_right⟩
    have s1 := hs.s1
    have s2 := hs.s2
    try walk_at "z"
    refine ⟨f2, _, schL2, ?_⟩
    try walk_at "z"
    refine ⟨_, at_rows hs h0 h1, ?_⟩
    obtain ⟨rl, rb⟩ := row_len hs h0 h1
    try walk_at "z"
    refine zlc (fun i acc M' => M' = w0.M ∧ acc = dInts (((List.range i).filter fun s => decide (stepI rows st (s : Nat) ∈ right)).map fun (s : Nat) => (s : Int))) (by rw [enumD_len, ints_len, sizeLine_eq]; omega) ?_ ?_ ⟨rfl, rfl⟩
    · rintro i d acc M' k1 k2 hd ⟨rfl, rfl⟩ hk1 hk2
      obtain ⟨e, he, rfl⟩ := enumD_get hd
      rw [Zl.ints_get] at he
      cases e1 : (rows[st.toNat]?.getD [])[i]? with
      | none => rw [e1] at he; cases he
      | some v =>
        rw [e1] at he
        cases he
        have hv : stepI rows st i = v := by
          unfold stepI
          rw [Int.toNat_natCast, e1]
          rfl
        try walk_at "z"
        refine ⟨f3, _, schL3, ?_⟩
        refine (e_inRow (neg := false)).mpr ?_
        try walk_at "z"
        by_cases q : v ∈ right
        · rw [if_pos (by simpa using q)]
          refine hk1 _ _ ⟨rfl, ?_⟩
          rw [List.range_succ, List.filter_append, List.map_append, List.filter_cons, hv, decide_eq_true q]
          unfold dInts
          simp
        · rw [if_neg (by simpa using q)]
          refine hk2 _ ⟨rfl, ?_⟩
          rw [List.range_succ, List.filter_append, List.map_append, List.filter_cons, hv, decide_eq_false q]
          unfold dInts
          simp
    · rintro acc M' ⟨rfl, rfl⟩ _
      rw [enumD_len, ints_len, show (rows[st.toNat]?.getD []).length = size.toNat by omega]
      exact k
theorem ok_check_signs (T : Tx K mg base) : DefAt P w K mg base 6 "check_signs" ["scheme", "row"] (zp_check_signs K) := by
  refine zok T.d_check_signs sc_check_signs hl_check_signs (fun f cdv A outer s H E w0 Ez hr hW => ⟨(tSeq (tDrop (tCallW (spOf K (zp_check_scheme K)) (WB E) (tCons (tVar 0) tNil)))
  (tSeq (tDrop (tCallW (spOf K (zp_check_row)) (WB E) (tCons (tFld K (tVar 0) "size") (tCons (tVar 1) tNil))))
  (tRet (tCallW (spOf K (zp_signs_of K)) (WB E) (tCons (tVar 0) (tCons (tCallW (spOf K (zp_led_on K)) (WB E) (tCons (tVar 0) (tCons (tC (.int 0)) (tCons (tVar 1) tNil)))) tNil)))))), _,
  (pss_cons (ps_expr (zc_call (ok_check_scheme T) (hr.mono (by decide)) rfl tkB (pa_cons (pv 0) pa_nil)))
  (pss_cons (ps_expr (zc_call (ok_check_row T) (hr.mono (by decide)) rfl tkB (pa_cons (pe_fld (pv 0) rfl) (pa_cons (pv 1) pa_nil))))
  (pss_one (ps_ret (zc_call (ok_signs_of T) (hr.mono (by decide)) rfl tkB (pa_cons (pv 0) (pa_cons (zc_call (ok_led_on T) (hr.mono (by decide)) rfl tkB (pa_cons (pv 0) (pa_cons pe_int (pa_cons (pv 1) pa_nil)))) pa_nil))))))),
  (ls_seq (ls_drop (le_call hW (la_cons le_var la_nil)))
  (ls_seq (ls_drop (le_call hW (la_cons (le_fld le_var) (la_cons le_var la_nil))))
  (ls_ret (le_call hW (la_cons le_var (la_cons (le_call hW (la_cons le_var (la_cons le_c (la_cons le_var la_nil)))) la_nil)))))), ?z⟩)
  case z =>
    intro ds Qz h
    obtain ⟨size, rows, right, row, rfl, hs, hl, hr, k⟩ := h
    have f1 : FldOk K (He.ga K "Scheme") "size" := ⟨T.c_Scheme, T.na_Scheme_size⟩
    have n1 := hs.n1
    try walk_at "z"
    refine ⟨_, rfl, size, rows, right, rfl, ?_⟩
    try walk_at "z"
    refine ⟨f1, _, schL1, ?_⟩
    try walk_at "z"
    refine ⟨size, row, rfl, hl, hr, ?_⟩
    try walk_at "z"
    refine ⟨size, rows, right, 0, row, rfl, hs, by decide, by omega, hr, ?_⟩
    try walk_at "z"
    have := led_ok hs (Int.le_refl 0) (by omega) hr
    exact ⟨size, rows, right, _, rfl, hs, this.1, this.2, k⟩
theorem ok_first_incomplete (T : Tx K mg base) : DefAt P w K mg base 2 "first_incomplete" ["scheme"] (zp_first_incomplete K) := by
  refine zok T.d_first_incomplete sc_first_incomplete hl_first_incomplete (fun f cdv A outer s H E w0 Ez hr hW => ⟨(tSeq (tAsg (tD1 (0) (tTup tNil)) (gName 1))
  (tSeq (tAsg (tLst (tCons (tC (.int 0)) tNil)) (gName 2))
  (tSeq (tAsg (tC (.int 0)) (gName 3))
  (tSeq (tWhile (tTest (tOp (rI0 fun i j => .bl (decide (i < j))) (tVar 3) (tCB (rLenA K) (tCons (tVar 2) tNil))))
  (tSeq (tAsg (tOp (rIx K) (tVar 2) (tVar 3)) (gName 4))
  (tSeq (tAug 3 (tC (.int 1)) (ipI fun i j => i + j))
  (tSeq (tIfS (tTest (tOp (rI0 fun i j => .bl (decide (j < i))) (tCB (rLenA K) (tCons (tCallW (spOf K (zp_signs_of K)) (WB E) (tCons (tVar 0) (tCons (tVar 4) tNil))) tNil)) (tC (.int 1)))) (tRet (tDGet (tVar 1) (tVar 4))) tNext)
  (tFor (iEnumA K (tCons (tOp (rIx K) (tFld K (tVar 0) "steps") (tVar 4)) tNil)) (gTup K 2 (gCons (gName 5) (gCons (gName 6) gNil)))
  (tIfS (tTest (tOp (rDIn true) (tVar 6) (tVar 1))) (tSeq (sDPut (tVar 1) (tVar 6) (tOp (rAddA K) (tDGet (tVar 1) (tVar 4)) (tTup (tCons (tVar 5) tNil))))
  (tDrop (tBM K "list" rAppend (tVar 2) (tCons (tVar 6) tNil)))) tNext))))))
  (tRet (tC .non)))))), _,
  (pss_cons (ps_set (i := 1) sc_first_incomplete.nd rfl (Or.inl rfl) (zp_d1 (pe_tup pa_nil)))
  (pss_cons (ps_set (i := 2) sc_first_incomplete.nd rfl (Or.inl rfl) (pe_lst (pa_cons pe_int pa_nil)))
  (pss_cons (ps_set (i := 3) sc_first_incomplete.nd rfl (Or.inl rfl) pe_int)
  (pss_cons (ps_while (passes_of rfl) (pt_cmpR op_lt (pv 3) (pe_callB call_lenA rfl T.f_len (by decide +kernel) (pa_cons (pv 2) pa_nil)) (nomark _))
  (pss_cons (ps_set (i := 4) sc_first_incomplete.nd rfl (Or.inl rfl) (pe_ix ix_seq (pv 2) (pv 3) (fun _ _ => rfl)))
  (pss_cons (ps_aug (i := 3) sc_first_incomplete.nd rfl (Or.inl rfl) pe_int ip_add)
  (pss_cons (ps_if (pt_cmpR op_gt (pe_callB call_lenA rfl T.f_len (by decide +kernel) (pa_cons (zc_call (ok_signs_of T) (hr.mono (by decide)) rfl tkB (pa_cons (pv 0) (pa_cons (pv 4) pa_nil))) pa_nil)) pe_int (nomark _)) (pss_one (ps_ret (pe_dget (room1 hr) (pv 1) (pv 4) (fun _ _ => rfl)))) pss_nil)
  (pss_one (ps_for (passes_of rfl) rfl (pi_enumA rfl T.f_enumerate (pa_cons (pe_ix ix_seq (pe_fld (pv 0) rfl) (pv 4) (fun _ _ => rfl)) pa_nil)) (pg_tup rfl (pgs_cons (pg_name (i := 5) sc_first_incomplete.nd rfl (Or.inl rfl)) (pgs_cons (pg_name (i := 6) sc_first_incomplete.nd rfl (Or.inl rfl)) pgs_nil)))
  (pss_one (ps_if (pt_cmpR (op_notInD (room9 hr)) (pv 6) (pv 1) (by rfl)) (pss_cons (ps_dput (room1 hr) (pv 1) (pv 6) (pe_op op_addA (pe_dget (room1 hr) (pv 1) (pv 4) (fun _ _ => rfl)) (pe_tup (pa_cons (pv 5) pa_nil))) rfl)
  (pss_one (ps_expr (pe_bm PySem.F.plainAttrs_list PySem.F.slot_list_append PySem.F.type_list_append mt_append (pv 2) (pa_cons (pv 6) pa_nil))))) pss_nil))))))))
  (pss_one (ps_ret pe_non)))))),
  (ls_seq (ls_asg (le_d1M (le_tup la_nil)) lg_name)
  (ls_seq (ls_asg (le_lstM (la_cons le_c la_nil)) lg_name)
  (ls_seq (ls_asg le_c lg_name)
  (ls_seq (ls_while (lt_test (le_op lr_I0 le_var (le_cb lra_len (la_cons le_var la_nil))))
  (ls_seq (ls_asg (le_op lr_ix le_var le_var) lg_name)
  (ls_seq (ls_aug le_c lr_ipI)
  (ls_seq (ls_if (lt_test (le_op lr_I0 (le_cb lra_len (la_cons (le_call hW (la_cons le_var (la_cons le_var la_nil))) la_nil)) le_c)) (ls_ret (le_dget le_var le_var)) ls_next)
  (ls_for (li_enum (la_cons (le_op lr_ix (le_fld le_var) le_var) la_nil)) (lg_tup (lgs_cons lg_name (lgs_cons lg_name lgs_nil)))
  (ls_if (lt_test (le_op lr_din le_var le_var)) (ls_seq (ls_dput (le_op lr_add (le_dget le_var le_var) (le_tup (la_cons le_var la_nil))) le_var le_var)
  (ls_drop (le_bmL lrm_append le_var (la_cons le_var la_nil)))) ls_next))))))
  (ls_ret le_c))))), ?z⟩)
  case z =>
    intro ds Qz h
    obtain ⟨size, A, ra, rfl, hs, k⟩ := h
    have f1 : FldOk K (He.ga K "Scheme") "size" := ⟨T.c_Scheme, T.na_Scheme_size⟩
    have f2 : FldOk K (He.ga K "Scheme") "steps" := ⟨T.c_Scheme, T.na_Scheme_steps⟩
    have n1 := hs.n1
    have n2 := hs.n2
    have s1 := hs.s1
    have s2 := hs.s2
    try walk_at "z"
    intro p1 hp1 p2 hp2
    obtain ⟨n21, hp2⟩ := mput_none hp2
    refine zwhile (fun m δ M' => ∃ (L : List E1) (at_ : Nat) (q1 q2 q3 : Option D), δ = [some (schD K size A ra), some (.v (.ref p1)), some (.v (.ref p2)), some (.v (.int ((at_ : Nat) : Int))), q1, q2, q3] ∧ M' p1 = some (.dct (kv1 L)) ∧ M' p2 = some (.lst (dInts (L.map (·.1)))) ∧ Kp w0.M M' ∧ RI A size L ∧ at_ ≤ L.length ∧ m + at_ = 5000 ∧ inc A ra size m L at_ = incF A ra size)
      ⟨5000, [(0, [])], 0, _, _, _, rfl, by rw [mput_ne n21.symm, mput_same]; rfl, by rw [mput_same]; rfl, ((Kp.rf _).put hp1).put hp2, RI.start n1, by simp, rfl, rfl⟩ ?_
    rintro m δ M' kk ⟨L, at_, q1, q2, q3, rfl, e1, e2, kp, ri, hat, hm, hinc⟩ hk
    have len := ri.len
    try walk_at "z"
    refine ⟨L.length, by rw [lenD_lst e2, ints_len, List.length_map], ?_⟩
    try walk_at "z"
    obtain ⟨m', rfl⟩ : ∃ m', m = m' + 1 := ⟨m - 1, by omega⟩
    unfold inc at hinc
    by_cases hlt : at_ < L.length
    · rw [if_pos (by omega)]
      obtain ⟨⟨st, row⟩, hL⟩ : ∃ e, L[at_]? = some e := ⟨_, List.getElem?_eq_getElem hlt⟩
      obtain ⟨x0, x1⟩ : 0 ≤ st ∧ st < A.length := ri.bd _ (List.mem_of_getElem? hL)
      have hrl : row.length ≤ at_ := ri.ln _ _ hL
      rw [hL] at hinc
      dsimp only at hinc
      try walk_at "z"
      refine ⟨_, e2, .v (.int st), row_at (by rw [List.getElem?_map, hL]; rfl), ?_⟩
      try walk_at "z"
      refine ⟨size, A, ra, st, rfl, hs, x0, x1, ?_⟩
      try walk_at "z"
      have ht : (1 < (((dInts (sgI A ra size st)).length : Nat) : Int)) = (two A ra size st = true) := by
        unfold two
        rw [ints_len, decide_eq_true_eq]
        exact propext ⟨fun _ => by omega, fun _ => by omega⟩
      simp only [ht]
      by_cases hc : two A ra size st = true
      · rw [if_pos hc] at hinc ⊢
        refine ⟨_, e1, _, at_kv1 ri.nd hL, ?_⟩
        have := k M' kp
        rw [← hinc] at this
        exact this
      · rw [if_neg hc] at hinc ⊢
        refine ⟨f2, _, schL2, ?_⟩
        try walk_at "z"
        refine ⟨_, at_rows hs x0 x1, ?_⟩
        obtain ⟨rl, rb⟩ := row_len hs x0 x1
        try walk_at "z"
        refine zloop (fun i δ M2 => ∃ (q2 q3 : Option D), δ = [some (schD K size A ra), some (.v (.ref p1)), some (.v (.ref p2)), some (.v (.int ((at_ : Nat) + 1))), some (.v (.int st)), q2, q3] ∧ M2 p1 = some (.dct (kv1 (exR A st row i L))) ∧ M2 p2 = some (.lst (dInts ((exR A st row i L).map (·.1)))) ∧ Kp w0.M M2) ?_ ?_ ⟨_, _, rfl, e1, e2, kp⟩
        · rintro i d δ M2 k2 hd ⟨q2, q3, rfl, g1, g2, g3⟩ hk2
          obtain ⟨e, he, rfl⟩ := enumD_get hd
          rw [Zl.ints_get] at he
          cases ev : (A[st.toNat]?.getD [])[i]? with
          | none => rw [ev] at he; cases he
          | some v =>
            rw [ev] at he
            cases he
            have hi := (List.getElem?_eq_some_iff.mp ev).1
            have hv : stepI A st i = v := by
              unfold stepI
              rw [Int.toNat_natCast, ev]
              rfl
            obtain ⟨ri', t, et⟩ := exR_keep ri hs hL i (by omega)
            have len2 := ri'.len
            have hL' : (exR A st row i L)[at_]? = some (st, row) := by rw [et, List.getElem?_append_left hlt]; exact hL
            try walk_at "z"
            refine ⟨_, g1, ?_⟩
            rw [some_kv1]
            by_cases hin : v ∈ (exR A st row i L).map (·.1)
            · rw [decide_eq_true hin, if_neg (by decide)]
              have ee : exR A st row (i + 1) L = exR A st row i L := by rw [exR_succ, addR, hv, if_pos hin]
              exact hk2 _ _ ⟨_, _, rfl, by rw [ee]; exact g1, by rw [ee]; exact g2, g3⟩
            · rw [decide_eq_false hin, if_pos (by decide)]
              have ee : exR A st row (i + 1) L = exR A st row i L ++ [(v, row ++ [(i : Int)])] := by rw [exR_succ, addR, hv, if_neg hin]
              have hd1 : dInts row ++ [D.v (.int (i : Int))] = dInts (row ++ [(i : Int)]) := by unfold dInts; simp
              try walk_at "z"
              refine ⟨_, g1, _, at_kv1 ri'.nd hL', ?_⟩
              try walk_at "z"
              refine ⟨by rw [ints_len]; omega, _, g1, by rw [kv1_len]; omega, ⟨_, by rw [mput_ne n21]; exact g2⟩, _, by rw [mput_ne n21]; exact g2, by rw [ints_len, List.length_map]; omega, hk2 _ _ ⟨_, _, rfl, ?_, ?_, (g3.put hp1).put hp2⟩⟩
              · rw [mput_ne n21.symm, mput_same, ee, ← put_kv1 hin, hd1]
              · rw [mput_same, ee, List.map_append]
                unfold dInts
                simp
        · rintro δ M2 ⟨q2, q3, rfl, g1, g2, g3⟩
          rw [enumD_len, ints_len, show (A[st.toNat]?.getD []).length = size.toNat by omega] at g1 g2
          obtain ⟨ri', t, et⟩ := exR_keep ri hs hL size.toNat (by omega)
          exact hk _ _ m' (by omega) ⟨_, at_ + 1, _, _, _, rfl, g1, g2, g3, ri', by rw [et, List.length_append]; omega, by omega, hinc⟩
    · rw [if_neg (by omega)]
      rw [List.getElem?_eq_none (by omega)] at hinc
      have := k M' kp
      rw [← hinc] at this
      exact this
theorem ok_is_complete (T : Tx K mg base) : DefAt P w K mg base 4 "is_complete" ["scheme"] (zp_is_complete K) := by
  refine zok T.d_is_complete sc_is_complete hl_is_complete (fun f cdv A outer s H E w0 Ez hr hW => ⟨(tSeq (tDrop (tCallW (spOf K (zp_check_scheme K)) (WB E) (tCons (tVar 0) tNil)))
  (tRet (tOp (fun x y H Q => y = .non ∧ Q (.bl (decide (x = .non))) H) (tCallW (spOf K (zp_first_incomplete K)) (WB E) (tCons (tVar 0) tNil)) (tC .non)))), _,
  (pss_cons (ps_expr (zc_call (ok_check_scheme T) (hr.mono (by decide)) rfl tkB (pa_cons (pv 0) pa_nil)))
  (pss_one (ps_ret (pe_cmpR op_isN (zc_call (ok_first_incomplete T) (hr.mono (by decide)) rfl tkB (pa_cons (pv 0) pa_nil)) pe_non (nomark _))))),
  (ls_seq (ls_drop (le_call hW (la_cons le_var la_nil)))
  (ls_ret (le_op lr_isN (le_call hW (la_cons le_var la_nil)) le_c))), ?z⟩)
  case z =>
    intro ds Qz h
    obtain ⟨size, rows, right, rfl, hs, k⟩ := h
    try walk_at "z"
    refine ⟨_, rfl, size, rows, right, rfl, ?_⟩
    try walk_at "z"
    refine ⟨size, rows, right, rfl, hs, fun M' hM => ?_⟩
    have := k M' hM
    cases e : incF rows right size with
    | none =>
      rw [e] at this
      unfold optD
      try walk_at "z"
      exact this
    | some r =>
      rw [e] at this
      unfold optD
      try walk_at "z"
      exact this
theorem ok_incomplete (T : Tx K mg base) : DefAt P w K mg base 4 "incomplete" ["scheme"] (zp_incomplete K) := by
  refine zok T.d_incomplete sc_incomplete hl_incomplete (fun f cdv A outer s H E w0 Ez hr hW => ⟨(tSeq (tDrop (tCallW (spOf K (zp_check_scheme K)) (WB E) (tCons (tVar 0) tNil)))
  (tRet (tCallW (spOf K (zp_first_incomplete K)) (WB E) (tCons (tVar 0) tNil)))), _,
  (pss_cons (ps_expr (zc_call (ok_check_scheme T) (hr.mono (by decide)) rfl tkB (pa_cons (pv 0) pa_nil)))
  (pss_one (ps_ret (zc_call (ok_first_incomplete T) (hr.mono (by decide)) rfl tkB (pa_cons (pv 0) pa_nil))))),
  (ls_seq (ls_drop (le_call hW (la_cons le_var la_nil)))
  (ls_ret (le_call hW (la_cons le_var la_nil)))), ?z⟩)
  case z =>
    intro ds Qz h
    obtain ⟨size, rows, right, rfl, hs, k⟩ := h
    try walk_at "z"
    refine ⟨_, rfl, size, rows, right, rfl, ?_⟩
    try walk_at "z"
    exact ⟨size, rows, right, rfl, hs, k⟩
theorem ok__law_is (T : Tx K mg base) : ∀ n : Nat, DefAt P w K mg base n "_law_is" ["thing", "due"] (zp__law_is n) := by
  intro n
  induction n with
  | zero => exact DefAt.never T.d__law_is
  | succ n ih =>
  refine zok T.d__law_is sc__law_is hl__law_is (fun f cdv A outer s H E w0 Ez hr hW => ⟨(tSeq (tIfS (tB (tCB (rIsiA K) (tCons (tVar 1) (tCons (tTup (tCons (tC (.ty "tuple")) (tCons (tC (.ty "list")) tNil))) tNil)))) (tSeq (tIfS (tOr (tTest (tOp (rNeD K) (tCB (rIsiA K) (tCons (tVar 0) (tCons (tC (.ty "tuple")) tNil))) (tCB (rIsiA K) (tCons (tVar 1) (tCons (tC (.ty "tuple")) tNil))))) (tTest (tOp (rNeD K) (tCB (rIsiA K) (tCons (tVar 0) (tCons (tC (.ty "list")) tNil))) (tCB (rIsiA K) (tCons (tVar 1) (tCons (tC (.ty "list")) tNil)))))) (tRet (tC (.bl false))) tNext)
  (tRet (tAndV (tOp (rEqD K) (tCB (rLenA K) (tCons (tVar 0) tNil)) (tCB (rLenA K) (tCons (tVar 1) tNil))) (tCB (rAll K) (tCons (tLc (RZ.iZipA K (tCons (tVar 0) (tCons (tVar 1) tNil))) (gTup K 2 (gCons (gName 2) (gCons (gName 3) gNil))) tYes (tCallW (spOf K (zp__law_is n)) W0 (tCons (tVar 2) (tCons (tVar 3) tNil))) [2, 3]) tNil))))) tNext)
  (tSeq (tIfS (tOr (tTest (tOp (rNeD K) (tCB (rIsiA K) (tCons (tVar 0) (tCons (tC (.ty "bool")) tNil))) (tCB (rIsiA K) (tCons (tVar 1) (tCons (tC (.ty "bool")) tNil))))) (tTest (tOp (rNeD K) (tCB (rIsiA K) (tCons (tVar 0) (tCons (tC (.ty "int")) tNil))) (tCB (rIsiA K) (tCons (tVar 1) (tCons (tC (.ty "int")) tNil)))))) (tRet (tC (.bl false))) tNext)
  (tRet (tOp (rEqD K) (tVar 0) (tVar 1))))), _,
  (pss_cons (ps_if (pt_val (pe_callB call_isiA rfl T.f_isinstance (by decide +kernel) (pa_cons (pv 1) (pa_cons (pe_tup (pa_cons (zp_ty (n := "tuple") T.f_tuple (by decide +kernel) rfl) (pa_cons (zp_ty (n := "list") T.f_list (by decide +kernel) rfl) pa_nil))) pa_nil)))) (pss_cons (ps_if (PW.pt (pw_or (pt_cmpR (op_neD hr.units) (pe_callB call_isiA rfl T.f_isinstance (by decide +kernel) (pa_cons (pv 0) (pa_cons (zp_ty (n := "tuple") T.f_tuple (by decide +kernel) rfl) pa_nil))) (pe_callB call_isiA rfl T.f_isinstance (by decide +kernel) (pa_cons (pv 1) (pa_cons (zp_ty (n := "tuple") T.f_tuple (by decide +kernel) rfl) pa_nil))) (nomark _)) (pw_or1 (pt_cmpR (op_neD hr.units) (pe_callB call_isiA rfl T.f_isinstance (by decide +kernel) (pa_cons (pv 0) (pa_cons (zp_ty (n := "list") T.f_list (by decide +kernel) rfl) pa_nil))) (pe_callB call_isiA rfl T.f_isinstance (by decide +kernel) (pa_cons (pv 1) (pa_cons (zp_ty (n := "list") T.f_list (by decide +kernel) rfl) pa_nil))) (nomark _))))) (pss_one (ps_ret pe_bl)) pss_nil)
  (pss_one (ps_ret (pe_and (pe_cmpR (op_eqD hr.units) (pe_callB call_lenA rfl T.f_len (by decide +kernel) (pa_cons (pv 0) pa_nil)) (pe_callB call_lenA rfl T.f_len (by decide +kernel) (pa_cons (pv 1) pa_nil)) (nomark _)) (pe_one (pe_callB (cr_all rfl) rfl T.f_all (by decide +kernel) (pa_cons (pe_lc (own := [("one", 2), ("other", 3)]) rfl sc__law_is.nd (RZ.pi_zipA rfl T.f_zip (pa_cons (pv 0) (pa_cons (pv 1) pa_nil))) (blkOk_by (by kernel_rfl)) (fun _ _ _ _ _ => (pg_tup rfl (pgs_cons (pg_name (i := 2) sc__law_is.nd rfl (Or.inl rfl)) (pgs_cons (pg_name (i := 3) sc__law_is.nd rfl (Or.inl rfl)) pgs_nil)))) (fun _ _ _ _ _ => pts_nil) (fun _ _ _ _ _ => (zc_call (ih) (hr.mono (Nat.le_refl _)) rfl tk0 (pa_cons (pv 2) (pa_cons (pv 3) pa_nil))))) pa_nil))))))) pss_nil)
  (pss_cons (ps_if (PW.pt (pw_or (pt_cmpR (op_neD hr.units) (pe_callB call_isiA rfl T.f_isinstance (by decide +kernel) (pa_cons (pv 0) (pa_cons (zp_ty (n := "bool") T.f_bool (by decide +kernel) rfl) pa_nil))) (pe_callB call_isiA rfl T.f_isinstance (by decide +kernel) (pa_cons (pv 1) (pa_cons (zp_ty (n := "bool") T.f_bool (by decide +kernel) rfl) pa_nil))) (nomark _)) (pw_or1 (pt_cmpR (op_neD hr.units) (pe_callB call_isiA rfl T.f_isinstance (by decide +kernel) (pa_cons (pv 0) (pa_cons (zp_ty (n := "int") T.f_int (by decide +kernel) rfl) pa_nil))) (pe_callB call_isiA rfl T.f_isinstance (by decide +kernel) (pa_cons (pv 1) (pa_cons (zp_ty (n := "int") T.f_int (by decide +kernel) rfl) pa_nil))) (nomark _))))) (pss_one (ps_ret pe_bl)) pss_nil)
  (pss_one (ps_ret (pe_cmpR (op_eqD hr.units) (pv 0) (pv 1) (nomark _)))))),
  (ls_seq (ls_if (lt_B (le_cb lra_isi (la_cons le_var (la_cons (le_tup (la_cons le_c (la_cons le_c la_nil))) la_nil)))) (ls_seq (ls_if (lt_or (lt_test (le_op lr_ne (le_cb lra_isi (la_cons le_var (la_cons le_c la_nil))) (le_cb lra_isi (la_cons le_var (la_cons le_c la_nil))))) (lt_test (le_op lr_ne (le_cb lra_isi (la_cons le_var (la_cons le_c la_nil))) (le_cb lra_isi (la_cons le_var (la_cons le_c la_nil)))))) (ls_ret le_c) ls_next)
  (ls_ret (le_andV (le_op lr_eq (le_cb lra_len (la_cons le_var la_nil)) (le_cb lra_len (la_cons le_var la_nil))) (le_cb lra_all (la_cons (le_lc (li_zip (la_cons le_var (la_cons le_var la_nil))) (lg_tup (lgs_cons lg_name (lgs_cons lg_name lgs_nil))) (mono_tup (mono_cons mono_name (mono_cons mono_name mono_nil))) (wo_tup (wos_cons mono_name (wo_name (by decide)) (wos_cons mono_name (wo_name (by decide)) wos_nil))) lt_yes (le_call ctW0' (la_cons le_var (la_cons le_var la_nil)))) la_nil))))) ls_next)
  (ls_seq (ls_if (lt_or (lt_test (le_op lr_ne (le_cb lra_isi (la_cons le_var (la_cons le_c la_nil))) (le_cb lra_isi (la_cons le_var (la_cons le_c la_nil))))) (lt_test (le_op lr_ne (le_cb lra_isi (la_cons le_var (la_cons le_c la_nil))) (le_cb lra_isi (la_cons le_var (la_cons le_c la_nil)))))) (ls_ret le_c) ls_next)
  (ls_ret (le_op lr_eq le_var le_var)))), ?z⟩)
  case z =>
    intro ds Qz h
    obtain ⟨d, rfl, hp, h6, k⟩ := h
    have go : ∀ (n : Nat) (ds : List D), n + 1 ≤ 60 → (∀ d ∈ ds, Pd n d) → ∀ d, d ∈ zipD ds ds → ∃ e, d = .tup [e, e] ∧ Pd n e := fun n ds _ hd d h => by
      obtain ⟨i, hi⟩ := List.mem_iff_getElem?.mp h
      rw [zipD_get] at hi
      cases e : ds[i]? with
      | none => rw [e] at hi; cases hi
      | some e' =>
        rw [e] at hi
        cases hi
        exact ⟨e', rfl, hd e' (List.mem_of_getElem? e)⟩
    cases hp with
    | @tup n ds hl hd =>
      try walk_at "z"
      refine zlc_map1 (fun d => .v (.bl true)) (by rw [zipD_len, sizeLine_eq]; omega) (fun d k1 k2 hd2 hk => ?_) ?_
      · obtain ⟨e, rfl, he⟩ := go n ds h6 hd d hd2
        try walk_at "z"
        exact ⟨e, rfl, he, by omega, hk⟩
      · try walk_at "z"
        rw [show (zipD ds ds).all (fun d => true) = true from List.all_eq_true.mpr fun _ _ => rfl]
        exact k
    | @lst n ds hl hd =>
      try walk_at "z"
      refine zlc_map1 (fun d => .v (.bl true)) (by rw [zipD_len, sizeLine_eq]; omega) (fun d k1 k2 hd2 hk => ?_) ?_
      · obtain ⟨e, rfl, he⟩ := go n ds h6 hd d hd2
        try walk_at "z"
        exact ⟨e, rfl, he, by omega, hk⟩
      · try walk_at "z"
        rw [show (zipD ds ds).all (fun d => true) = true from List.all_eq_true.mpr fun _ _ => rfl]
        exact k
    | non =>
      try walk_at "z"
      exact (e_eqS rfl (by decide)).mpr k
    | bl =>
      try walk_at "z"
      simpa using k
    | int =>
      try walk_at "z"
      exact k
    | str h =>
      try walk_at "z"
      exact (e_eqS (show nb (.v (.str _)) = true from h) (by show 0 ≤ 64; decide)).mpr k
theorem ok__law_drawn (T : Tx K mg base) : DefAt P w K mg base 3 "_law_drawn" ["hand", "most"] (zp__law_drawn) := by
  refine zok T.d__law_drawn sc__law_drawn hl__law_drawn (fun f cdv A outer s H E w0 Ez hr hW => ⟨(tSeq (tAsg (tTup (tCons (tCallW (spOf K (zp__law_any)) (WB E) (tCons (tVar 0) (tCons (tLst (tCons (tC (.int 2)) (tCons (tC (.int 2)) (tCons (tC (.int 3)) (tCons (tC (.int 3)) (tCons (tC (.int 4)) (tCons (tC (.int 5)) (tCons (tC (.int 10)) (tCons (tC (.int 12)) tNil))))))))) tNil))) (tCons (tOp (rAddA K) (tC (.int 1)) (tCallW (spOf K (zp__law_draw)) (WB E) (tCons (tVar 0) (tCons (tVar 1) tNil)))) tNil))) (gTup K 2 (gCons (gName 2) (gCons (gName 3) gNil))))
  (tSeq (tAsg (tCB (rTuple K) (tCons (tLc (iRng1 (tCons (tVar 3) tNil)) (gName 6) tYes (tCB (rTuple K) (tCons (tLc (iRng1 (tCons (tVar 2) tNil)) (gName 5) tYes (tCallW (spOf K (zp__law_draw)) W0 (tCons (tVar 0) (tCons (tVar 3) tNil))) [5]) tNil)) [6]) tNil)) (gName 4))
  (tSeq (tAsg (tOp (rAddA K) (tC (.int 1)) (tCallW (spOf K (zp__law_draw)) (WB E) (tCons (tVar 0) (tCons (tC (.int 4)) tNil)))) (gName 7))
  (tRet (tTup (tCons (tVar 2) (tCons (tVar 4) (tCons (tCB (rTuple K) (tCons (tLc (iRng1 (tCons (tVar 3) tNil)) (gName 6) (tTest (tOp (rI0 fun i j => .bl (decide (i < j))) (tCallW (spOf K (zp__law_draw)) W0 (tCons (tVar 0) (tCons (tC (.int 5)) tNil))) (tVar 7))) (tVar 6) [6]) tNil)) tNil)))))))), _,
  (pss_cons (ps_asg (pe_tup (pa_cons (zc_call (ok__law_any T) (hr.mono (by decide)) rfl tkB (pa_cons (pv 0) (pa_cons (pe_lst (pa_cons pe_int (pa_cons pe_int (pa_cons pe_int (pa_cons pe_int (pa_cons pe_int (pa_cons pe_int (pa_cons pe_int (pa_cons pe_int pa_nil))))))))) pa_nil))) (pa_cons (pe_op op_addA pe_int (zc_call (ok__law_draw T) (hr.mono (by decide)) rfl tkB (pa_cons (pv 0) (pa_cons (pv 1) pa_nil)))) pa_nil))) (pg_tup rfl (pgs_cons (pg_name (i := 2) sc__law_drawn.nd rfl (Or.inr rfl)) (pgs_cons (pg_name (i := 3) sc__law_drawn.nd rfl (Or.inr rfl)) pgs_nil))))
  (pss_cons (ps_set (i := 4) sc__law_drawn.nd rfl (Or.inl rfl) (pe_callTy call_tuple_of rfl T.f_tuple (by decide +kernel) (pa_cons (pe_lc (own := [("stand", 6)]) rfl sc__law_drawn.nd (pi_range1 rfl T.f_range (pa_cons (pv 3) pa_nil)) (blkOk_by (by kernel_rfl)) (fun _ _ _ _ _ => (pg_name (i := 6) sc__law_drawn.nd rfl (Or.inl rfl))) (fun _ _ _ _ _ => pts_nil) (fun _ _ _ _ _ => (pe_callTy call_tuple_of rfl T.f_tuple (by decide +kernel) (pa_cons (pe_lc (own := [("sign", 5)]) rfl sc__law_drawn.nd (pi_range1 rfl T.f_range (pa_cons (pv 2) pa_nil)) (blkOk_by (by kernel_rfl)) (fun _ _ _ _ _ => (pg_name (i := 5) sc__law_drawn.nd rfl (Or.inl rfl))) (fun _ _ _ _ _ => pts_nil) (fun _ _ _ _ _ => (zc_call (ok__law_draw T) (hr.mono (by decide)) rfl tk0 (pa_cons (pv 0) (pa_cons (pv 3) pa_nil))))) pa_nil)))) pa_nil)))
  (pss_cons (ps_set (i := 7) sc__law_drawn.nd rfl (Or.inr rfl) (pe_op op_addA pe_int (zc_call (ok__law_draw T) (hr.mono (by decide)) rfl tkB (pa_cons (pv 0) (pa_cons pe_int pa_nil)))))
  (pss_one (ps_ret (pe_tup (pa_cons (pv 2) (pa_cons (pv 4) (pa_cons (pe_callTy call_tuple_of rfl T.f_tuple (by decide +kernel) (pa_cons (pe_lc (own := [("stand", 6)]) rfl sc__law_drawn.nd (pi_range1 rfl T.f_range (pa_cons (pv 3) pa_nil)) (blkOk_by (by kernel_rfl)) (fun _ _ _ _ _ => (pg_name (i := 6) sc__law_drawn.nd rfl (Or.inl rfl))) (fun _ _ _ _ _ => (pts_one (pt_cmpR op_lt (zc_call (ok__law_draw T) (hr.mono (by decide)) rfl tk0 (pa_cons (pv 0) (pa_cons pe_int pa_nil))) (pv 7) (nomark _)))) (fun _ _ _ _ _ => (pv 6))) pa_nil)) pa_nil))))))))),
  (ls_seq (ls_asg (le_tup (la_cons (le_call hW (la_cons le_var (la_cons (le_lst (la_cons le_c (la_cons le_c (la_cons le_c (la_cons le_c (la_cons le_c (la_cons le_c (la_cons le_c (la_cons le_c la_nil))))))))) la_nil))) (la_cons (le_op lr_add le_c (le_call hW (la_cons le_var (la_cons le_var la_nil)))) la_nil))) (lg_tup (lgs_cons lg_name (lgs_cons lg_name lgs_nil))))
  (ls_seq (ls_asg (le_cb lra_tuple (la_cons (le_lc (li_rng1 (la_cons le_var la_nil)) lg_name mono_name (wo_name (by decide)) lt_yes (le_cb lra_tuple (la_cons (le_lc (li_rng1 (la_cons le_var la_nil)) lg_name mono_name (wo_name (by decide)) lt_yes (le_call ctW0' (la_cons le_var (la_cons le_var la_nil)))) la_nil))) la_nil)) lg_name)
  (ls_seq (ls_asg (le_op lr_add le_c (le_call hW (la_cons le_var (la_cons le_c la_nil)))) lg_name)
  (ls_ret (le_tup (la_cons le_var (la_cons le_var (la_cons (le_cb lra_tuple (la_cons (le_lc (li_rng1 (la_cons le_var la_nil)) lg_name mono_name (wo_name (by decide)) (lt_test (le_op lr_I0 (le_call ctW0' (la_cons le_var (la_cons le_c la_nil))) le_var)) le_var) la_nil)) la_nil)))))))), ?z⟩)
  case z =>
    intro ds Qz h
    obtain ⟨h, most, rfl, hd, h1, h2, k⟩ := h
    try walk_at "z"
    refine ⟨h, _, _, rfl, .inl rfl, hd, by simp, by simp [sizeLine_eq], fun x M1 hx1 hM1 => ?_⟩
    obtain ⟨size, rfl, s1, s2⟩ : ∃ s : Int, x = .v (.int s) ∧ 2 ≤ s ∧ s ≤ 12 := by
      simp only [List.mem_cons, List.not_mem_nil, or_false] at hx1
      rcases hx1 with rfl | rfl | rfl | rfl | rfl | rfl | rfl | rfl <;> exact ⟨_, rfl, by decide, by decide⟩
    refine ⟨h, most, rfl, hM1.1, by omega, log2_small (by omega), fun r M2 hM2 r0 r1 => ?_⟩
    try walk_at "z"
    refine ⟨by omega, by omega, ?_⟩
    refine zlc (fun i acc M' => Hx h w0.M M' ∧ ∃ rows : List (List Int), rows.length = i ∧ acc = rows.map rowD ∧ ∀ q ∈ rows, (q.length : Int) = size ∧ ∀ x ∈ q, 0 ≤ x ∧ x < 1 + r) (by rw [List.length_map, List.length_range, sizeLine_eq]; omega) ?_ ?_ ⟨hM1.tr hM2, [], rfl, rfl, fun q hq => nomatch hq⟩
    · rintro i d acc M' k1 k2 _ ⟨hM', rows, rl, rfl, hr⟩ hk _
      try walk_at "z"
      refine ⟨by omega, by omega, ?_⟩
      refine zlc (fun i acc M'' => Hx h w0.M M'' ∧ ∃ q : List Int, q.length = i ∧ acc = dInts q ∧ ∀ x ∈ q, 0 ≤ x ∧ x < 1 + r) (by rw [List.length_map, List.length_range, sizeLine_eq]; omega) ?_ ?_ ⟨hM', [], rfl, rfl, fun q hq => nomatch hq⟩
      · rintro j d2 acc2 M3 k3 k4 _ ⟨hM3, q, ql, rfl, hq⟩ hk2 _
        try walk_at "z"
        refine ⟨h, 1 + r, rfl, hM3.1, by omega, log2_small (by omega), fun y M4 hM4 y0 y1 => hk2 _ _ ⟨hM3.tr hM4, q ++ [y], by simp [ql], by unfold dInts; simp, fun x hx => ?_⟩⟩
        rcases List.mem_append.mp hx with hx | hx
        · exact hq x hx
        · rw [List.mem_singleton.mp hx]
          exact ⟨y0, y1⟩
      · rintro acc2 M3 ⟨hM3, q, ql, rfl, hq⟩ _
        try walk_at "z"
        rw [List.length_map, List.length_range] at ql
        refine hk _ _ ⟨hM3, rows ++ [q], by simp [rl], by simp, fun x hx => ?_⟩
        rcases List.mem_append.mp hx with hx | hx
        · exact hr x hx
        · rw [List.mem_singleton.mp hx]
          exact ⟨by omega, hq⟩
    · rintro acc M3 ⟨hM3, rows, rl, rfl, hr⟩ _
      rw [List.length_map, List.length_range] at rl
      have rl2 : (rows.length : Int) = 1 + r := by omega
      try walk_at "z"
      refine ⟨h, 4, rfl, hM3.1, by decide, log2_small (by decide), fun t M4 hM4 t0 t1 => ?_⟩
      try walk_at "z"
      refine ⟨by omega, by omega, ?_⟩
      refine zlc (fun i acc M'' => Hx h w0.M M'' ∧ ∃ q : List Int, acc = dInts q ∧ q.Pairwise (· < ·) ∧ ∀ x ∈ q, 0 ≤ x ∧ x < i) (by rw [List.length_map, List.length_range, sizeLine_eq]; omega) ?_ ?_ ⟨hM3.tr hM4, [], rfl, .nil, fun q hq => nomatch hq⟩
      · rintro i d acc M' k1 k2 hd2 ⟨hM', q, rfl, hp, hq⟩ hk1 hk2
        obtain ⟨hi, rfl⟩ : i < (1 + r).toNat ∧ d = .v (.int i) := by
          rw [List.getElem?_map] at hd2
          by_cases hi : i < (1 + r).toNat
          · rw [List.getElem?_range hi] at hd2
            cases hd2
            exact ⟨hi, rfl⟩
          · rw [List.getElem?_eq_none (by simpa using hi)] at hd2
            cases hd2
        try walk_at "z"
        refine ⟨h, 5, rfl, hM'.1, by decide, log2_small (by decide), fun y M5 hM5 y0 y1 => ?_⟩
        try walk_at "z"
        split
        · refine hk1 _ _ ⟨hM'.tr hM5, q ++ [(i : Int)], by unfold dInts; simp, ?_, fun x hx => ?_⟩
          · rw [List.pairwise_append]
            refine ⟨hp, List.pairwise_singleton .., fun a ha b hb => ?_⟩
            rw [List.mem_singleton.mp hb]
            exact (hq a ha).2
          · rcases List.mem_append.mp hx with hx | hx
            · have := hq x hx
              omega
            · rw [List.mem_singleton.mp hx]
              omega
        · refine hk2 _ ⟨hM'.tr hM5, q, rfl, hp, fun x hx => ?_⟩
          have := hq x hx
          omega
      · rintro acc M' ⟨hM', q, rfl, hp, hq⟩ _
        try walk_at "z"
        rw [List.length_map, List.length_range] at hq
        refine k size rows q _ ⟨s1, s2, by omega, by omega, fun x hx => ?_, hp, fun x hx => ?_⟩ hM'
        · rw [rl2]
          exact hr x hx
        · have := hq x hx
          omega
theorem ok__law_made (T : Tx K mg base) : DefAt P w K mg base 6 "_law_made" ["parts"] (zp__law_made K) := by
  refine zok T.d__law_made sc__law_made hl__law_made (fun f cdv A outer s H E w0 Ez hr hW => ⟨(tRet (tMakeW (He.ga K "Scheme") (spOf K (zp_Scheme___init__ K)) (WB E) (tCons (tOp (rIx K) (tVar 0) (tC (.int 0))) (tCons (tOp (rIx K) (tVar 0) (tC (.int 1))) (tCons (tOp (rIx K) (tVar 0) (tC (.int 2))) tNil))))), _,
  (pss_one (ps_ret (zc_make (ok_Scheme T) (hr.mono (by decide)) rfl tkB (pa_cons (pe_ix ix_seq (pv 0) pe_int (fun _ _ => rfl)) (pa_cons (pe_ix ix_seq (pv 0) pe_int (fun _ _ => rfl)) (pa_cons (pe_ix ix_seq (pv 0) pe_int (fun _ _ => rfl)) pa_nil)))))),
  (ls_ret (le_make mk_Scheme hW (la_cons (le_op lr_ix le_var le_c) (la_cons (le_op lr_ix le_var le_c) (la_cons (le_op lr_ix le_var le_c) la_nil))))), ?z⟩)
  case z =>
    intro ds Qz h
    obtain ⟨size, rows, right, rfl, hs, k⟩ := h
    try walk_at "z"
    exact ⟨size, rows, right, rfl, hs, k⟩
theorem ok__law_led (T : Tx K mg base) : DefAt P w K mg base 1 "_law_led" ["parts", "row"] (zp__law_led) := by
  refine zok T.d__law_led sc__law_led hl__law_led (fun f cdv A outer s H E w0 Ez hr hW => ⟨(tSeq (tAsg (tC (.int 0)) (gName 2))
  (tSeq (tFor (iSeq K (tVar 1)) (gName 3)
  (tAsg (tOp (rIx K) (tOp (rIx K) (tOp (rIx K) (tVar 0) (tC (.int 1))) (tVar 2)) (tVar 3)) (gName 2)))
  (tRet (tVar 2)))), _,
  (pss_cons (ps_set (i := 2) sc__law_led.nd rfl (Or.inl rfl) pe_int)
  (pss_cons (ps_for (passes_of rfl) rfl (pi_seq (pv 1)) (pg_name (i := 3) sc__law_led.nd rfl (Or.inl rfl))
  (pss_one (ps_set (i := 2) sc__law_led.nd rfl (Or.inl rfl) (pe_ix ix_seq (pe_ix ix_seq (pe_ix ix_seq (pv 0) pe_int (fun _ _ => rfl)) (pv 2) (fun _ _ => rfl)) (pv 3) (fun _ _ => rfl)))))
  (pss_one (ps_ret (pv 2))))),
  (ls_seq (ls_asg le_c lg_name)
  (ls_seq (ls_for (li_seq le_var) lg_name
  (ls_asg (le_op lr_ix (le_op lr_ix (le_op lr_ix le_var le_c) le_var) le_var) lg_name))
  (ls_ret le_var))), ?z⟩)
  case z =>
    intro ds Qz h
    obtain ⟨size, rows, right, row, rfl, hs, hr, k⟩ := h
    have n1 := hs.n1
    have h0 : (0 : Int) ≤ 0 := by decide
    have h1 : (0 : Int) < rows.length := by omega
    try walk_at "z"
    refine zloop (fun i δ M' => M' = w0.M ∧ ∃ a, δ = [some (ptD size rows right), some (rowD row), some (.v (.int (ledI rows 0 (row.take i)))), a]) ?_ ?_ ⟨rfl, _, rfl⟩
    · rintro i d δ M' kk hd ⟨rfl, a, rfl⟩ hk
      rw [Zl.ints_get] at hd
      cases e1 : row[i]? with
      | none => rw [e1] at hd; cases hd
      | some s =>
        rw [e1] at hd
        cases hd
        have hs1 := hr s (List.mem_of_getElem? e1)
        have hl := led_ok hs h0 h1 (r := row.take i) fun x hx => hr x (List.mem_of_mem_take hx)
        have es : row.take (i + 1) = row.take i ++ [s] := by rw [List.take_succ, e1]; rfl
        try walk_at "z"
        refine ⟨_, at_rows hs hl.1 hl.2, ?_⟩
        try walk_at "z"
        refine ⟨_, at_row hs hl.1 hl.2 hs1.1 hs1.2, ?_⟩
        try walk_at "z"
        exact hk _ _ ⟨rfl, _, by rw [es, led_app]⟩
    · rintro δ M' ⟨rfl, a, rfl⟩
      try walk_at "z"
      rw [ints_len, List.take_length]
      exact k
theorem ok__law_row (T : Tx K mg base) : DefAt P w K mg base 2 "_law_row" ["hand", "size", "most"] (zp__law_row) := by
  refine zok T.d__law_row sc__law_row hl__law_row (fun f cdv A outer s H E w0 Ez hr hW => ⟨(tRet (tCB (rTuple K) (tCons (tLc (iRng1 (tCons (tCallW (spOf K (zp__law_draw)) (WB E) (tCons (tVar 0) (tCons (tOp (rAddA K) (tVar 2) (tC (.int 1))) tNil))) tNil)) (gName 3) tYes (tCallW (spOf K (zp__law_draw)) W0 (tCons (tVar 0) (tCons (tVar 1) tNil))) [3]) tNil))), _,
  (pss_one (ps_ret (pe_callTy call_tuple_of rfl T.f_tuple (by decide +kernel) (pa_cons (pe_lc (own := [("turn", 3)]) rfl sc__law_row.nd (pi_range1 rfl T.f_range (pa_cons (zc_call (ok__law_draw T) (hr.mono (by decide)) rfl tkB (pa_cons (pv 0) (pa_cons (pe_op op_addA (pv 2) pe_int) pa_nil))) pa_nil)) (blkOk_by (by kernel_rfl)) (fun _ _ _ _ _ => (pg_name (i := 3) sc__law_row.nd rfl (Or.inl rfl))) (fun _ _ _ _ _ => pts_nil) (fun _ _ _ _ _ => (zc_call (ok__law_draw T) (hr.mono (by decide)) rfl tk0 (pa_cons (pv 0) (pa_cons (pv 1) pa_nil))))) pa_nil)))),
  (ls_ret (le_cb lra_tuple (la_cons (le_lc (li_rng1 (la_cons (le_call hW (la_cons le_var (la_cons (le_op lr_add le_var le_c) la_nil))) la_nil)) lg_name mono_name (wo_name (by decide)) lt_yes (le_call ctW0' (la_cons le_var (la_cons le_var la_nil)))) la_nil))), ?z⟩)
  case z =>
    intro ds Qz h
    obtain ⟨h, size, most, rfl, hd, s1, s2, m1, m2, k⟩ := h
    try walk_at "z"
    refine ⟨h, most + 1, rfl, hd, by omega, log2_small (by omega), fun r M1 hM1 r0 r1 => ?_⟩
    try walk_at "z"
    refine ⟨by omega, by omega, ?_⟩
    refine zlc (fun i acc M'' => Hx h w0.M M'' ∧ ∃ q : List Int, q.length = i ∧ acc = dInts q ∧ ∀ x ∈ q, 0 ≤ x ∧ x < size) (by rw [List.length_map, List.length_range, sizeLine_eq]; omega) ?_ ?_ ⟨hM1, [], rfl, rfl, (fun q hq => nomatch hq)⟩
    · rintro j d2 acc2 M3 k3 k4 _ ⟨hM3, q, ql, rfl, hq⟩ hk2 _
      try walk_at "z"
      refine ⟨h, size, rfl, hM3.1, by omega, log2_small (by omega), fun y M4 hM4 y0 y1 => hk2 _ _ ⟨hM3.tr hM4, q ++ [y], by simp [ql], by unfold dInts; simp, fun x hx => ?_⟩⟩
      rcases List.mem_append.mp hx with hx | hx
      · exact hq x hx
      · rw [List.mem_singleton.mp hx]
        exact ⟨y0, y1⟩
    · rintro acc2 M3 ⟨hM3, q, ql, rfl, hq⟩ _
      rw [List.length_map, List.length_range] at ql
      try walk_at "z"
      exact k q _ hq (by omega) hM3
theorem ok__law_reached (T : Tx K mg base) : DefAt P w K mg base 1 "_law_reached" ["parts"] (zp__law_reached) := by
  refine zok T.d__law_reached sc__law_reached hl__law_reached (fun f cdv A outer s H E w0 Ez hr hW => ⟨(tSeq (tPar 1 2 (tCons (tD1 (0) (tTup tNil)) (tCons (tLst (tCons (tC (.int 0)) tNil)) tNil)))
  (tSeq (tAsg (tC (.int 0)) (gName 3))
  (tSeq (tWhile (tTest (tOp (rI0 fun i j => .bl (decide (i < j))) (tVar 3) (tCB (rLenA K) (tCons (tVar 2) tNil))))
  (tSeq (tFor (iEnumA K (tCons (tOp (rIx K) (tOp (rIx K) (tVar 0) (tC (.int 1))) (tOp (rIx K) (tVar 2) (tVar 3))) tNil)) (gTup K 2 (gCons (gName 4) (gCons (gName 5) gNil)))
  (tIfS (tTest (tOp (rDIn true) (tVar 5) (tVar 1))) (tSeq (sDPut (tVar 1) (tVar 5) (tOp (rAddA K) (tDGet (tVar 1) (tOp (rIx K) (tVar 2) (tVar 3))) (tTup (tCons (tVar 4) tNil))))
  (tDrop (tBM K "list" rAppend (tVar 2) (tCons (tVar 5) tNil)))) tNext))
  (tAsg (tOp (rAddA K) (tVar 3) (tC (.int 1))) (gName 3))))
  (tRet (tVar 1))))), _,
  (pss_cons (ps_par (i := 1) (j := 2) rfl sc__law_reached.nd rfl rfl (by decide) rfl rfl (pa_cons (zp_d1 (pe_tup pa_nil)) (pa_cons (pe_lst (pa_cons pe_int pa_nil)) pa_nil)) rfl)
  (pss_cons (ps_set (i := 3) sc__law_reached.nd rfl (Or.inl rfl) pe_int)
  (pss_cons (ps_while (passes_of rfl) (pt_cmpR op_lt (pv 3) (pe_callB call_lenA rfl T.f_len (by decide +kernel) (pa_cons (pv 2) pa_nil)) (nomark _))
  (pss_cons (ps_for (passes_of rfl) rfl (pi_enumA rfl T.f_enumerate (pa_cons (pe_ix ix_seq (pe_ix ix_seq (pv 0) pe_int (fun _ _ => rfl)) (pe_ix ix_seq (pv 2) (pv 3) (fun _ _ => rfl)) (fun _ _ => rfl)) pa_nil)) (pg_tup rfl (pgs_cons (pg_name (i := 4) sc__law_reached.nd rfl (Or.inl rfl)) (pgs_cons (pg_name (i := 5) sc__law_reached.nd rfl (Or.inl rfl)) pgs_nil)))
  (pss_one (ps_if (pt_cmpR (op_notInD (room9 hr)) (pv 5) (pv 1) (by rfl)) (pss_cons (ps_dput (room1 hr) (pv 1) (pv 5) (pe_op op_addA (pe_dget (room1 hr) (pv 1) (pe_ix ix_seq (pv 2) (pv 3) (fun _ _ => rfl)) (fun _ _ => rfl)) (pe_tup (pa_cons (pv 4) pa_nil))) rfl)
  (pss_one (ps_expr (pe_bm PySem.F.plainAttrs_list PySem.F.slot_list_append PySem.F.type_list_append mt_append (pv 2) (pa_cons (pv 5) pa_nil))))) pss_nil)))
  (pss_one (ps_set (i := 3) sc__law_reached.nd rfl (Or.inl rfl) (pe_op op_addA (pv 3) pe_int)))))
  (pss_one (ps_ret (pv 1)))))),
  (ls_seq (ls_par (la_cons (le_d1M (le_tup la_nil)) (la_cons (le_lstM (la_cons le_c la_nil)) la_nil)))
  (ls_seq (ls_asg le_c lg_name)
  (ls_seq (ls_while (lt_test (le_op lr_I0 le_var (le_cb lra_len (la_cons le_var la_nil))))
  (ls_seq (ls_for (li_enum (la_cons (le_op lr_ix (le_op lr_ix le_var le_c) (le_op lr_ix le_var le_var)) la_nil)) (lg_tup (lgs_cons lg_name (lgs_cons lg_name lgs_nil)))
  (ls_if (lt_test (le_op lr_din le_var le_var)) (ls_seq (ls_dput (le_op lr_add (le_dget le_var (le_op lr_ix le_var le_var)) (le_tup (la_cons le_var la_nil))) le_var le_var)
  (ls_drop (le_bmL lrm_append le_var (la_cons le_var la_nil)))) ls_next))
  (ls_asg (le_op lr_add le_var le_c) lg_name)))
  (ls_ret le_var)))), ?z⟩)
  case z =>
    intro ds Qz h
    obtain ⟨size, A, ra, rfl, hs, k⟩ := h
    have n1 := hs.n1
    have n2 := hs.n2
    have s1 := hs.s1
    have s2 := hs.s2
    try walk_at "z"
    intro p1 hp1 p2 hp2
    obtain ⟨n21, hp2⟩ := mput_none hp2
    refine zwhile (fun m δ M' => ∃ (L : List E1) (at_ : Nat) (q1 q2 : Option D), δ = [some (ptD size A ra), some (.v (.ref p1)), some (.v (.ref p2)), some (.v (.int ((at_ : Nat) : Int))), q1, q2] ∧ M' p1 = some (.dct (kv1 L)) ∧ M' p2 = some (.lst (dInts (L.map (·.1)))) ∧ Kp w0.M M' ∧ RI A size L ∧ at_ ≤ L.length ∧ m + at_ = 5000 ∧ reach A size.toNat m L at_ = reachF A size)
      ⟨5000, [(0, [])], 0, _, _, rfl, by rw [mput_ne n21.symm, mput_same]; rfl, by rw [mput_same]; rfl, ((Kp.rf _).put hp1).put hp2, RI.start n1, by simp, rfl, rfl⟩ ?_
    rintro m δ M' kk ⟨L, at_, q1, q2, rfl, e1, e2, kp, ri, hat, hm, hinc⟩ hk
    have len := ri.len
    try walk_at "z"
    refine ⟨L.length, by rw [lenD_lst e2, ints_len, List.length_map], ?_⟩
    try walk_at "z"
    obtain ⟨m', rfl⟩ : ∃ m', m = m' + 1 := ⟨m - 1, by omega⟩
    unfold reach at hinc
    by_cases hlt : at_ < L.length
    · rw [if_pos (by omega)]
      obtain ⟨⟨st, row⟩, hL⟩ : ∃ e, L[at_]? = some e := ⟨_, List.getElem?_eq_getElem hlt⟩
      obtain ⟨x0, x1⟩ : 0 ≤ st ∧ st < A.length := ri.bd _ (List.mem_of_getElem? hL)
      have hrl : row.length ≤ at_ := ri.ln _ _ hL
      rw [hL] at hinc
      dsimp only at hinc
      try walk_at "z"
      refine ⟨_, e2, .v (.int st), row_at (by rw [List.getElem?_map, hL]; rfl), ?_⟩
      try walk_at "z"
      refine ⟨_, at_rows hs x0 x1, ?_⟩
      obtain ⟨rl, rb⟩ := row_len hs x0 x1
      try walk_at "z"
      refine zloop (fun i δ M2 => ∃ (q2 q3 : Option D), δ = [some (ptD size A ra), some (.v (.ref p1)), some (.v (.ref p2)), some (.v (.int (at_ : Nat))), q2, q3] ∧ M2 p1 = some (.dct (kv1 (exR A st row i L))) ∧ M2 p2 = some (.lst (dInts ((exR A st row i L).map (·.1)))) ∧ Kp w0.M M2) ?_ ?_ ⟨_, _, rfl, e1, e2, kp⟩
      · rintro i d δ M2 k2 hd ⟨q2, q3, rfl, g1, g2, g3⟩ hk2
        obtain ⟨e, he, rfl⟩ := enumD_get hd
        rw [Zl.ints_get] at he
        cases ev : (A[st.toNat]?.getD [])[i]? with
        | none => rw [ev] at he; cases he
        | some v =>
          rw [ev] at he
          cases he
          have hi := (List.getElem?_eq_some_iff.mp ev).1
          have hv : stepI A st i = v := by
            unfold stepI
            rw [Int.toNat_natCast, ev]
            rfl
          obtain ⟨ri', t, et⟩ := exR_keep ri hs hL i (by omega)
          have len2 := ri'.len
          have hL' : (exR A st row i L)[at_]? = some (st, row) := by rw [et, List.getElem?_append_left hlt]; exact hL
          try walk_at "z"
          refine ⟨_, g1, ?_⟩
          rw [some_kv1]
          by_cases hin : v ∈ (exR A st row i L).map (·.1)
          · rw [decide_eq_true hin, if_neg (by decide)]
            have ee : exR A st row (i + 1) L = exR A st row i L := by rw [exR_succ, addR, hv, if_pos hin]
            exact hk2 _ _ ⟨_, _, rfl, by rw [ee]; exact g1, by rw [ee]; exact g2, g3⟩
          · rw [decide_eq_false hin, if_pos (by decide)]
            have ee : exR A st row (i + 1) L = exR A st row i L ++ [(v, row ++ [(i : Int)])] := by rw [exR_succ, addR, hv, if_neg hin]
            have hd1 : dInts row ++ [D.v (.int (i : Int))] = dInts (row ++ [(i : Int)]) := by unfold dInts; simp
            try walk_at "z"
            refine ⟨_, g2, .v (.int st), row_at (by rw [List.getElem?_map, hL']; rfl), ?_⟩
            try walk_at "z"
            refine ⟨_, g1, _, at_kv1 ri'.nd hL', ?_⟩
            try walk_at "z"
            refine ⟨by rw [ints_len]; omega, _, g1, by rw [kv1_len]; omega, ⟨_, by rw [mput_ne n21]; exact g2⟩, _, by rw [mput_ne n21]; exact g2, by rw [ints_len, List.length_map]; omega, hk2 _ _ ⟨_, _, rfl, ?_, ?_, (g3.put hp1).put hp2⟩⟩
            · rw [mput_ne n21.symm, mput_same, ee, ← put_kv1 hin, hd1]
            · rw [mput_same, ee, List.map_append]
              unfold dInts
              simp
      · rintro δ M2 ⟨q2, q3, rfl, g1, g2, g3⟩
        rw [enumD_len, ints_len, show (A[st.toNat]?.getD []).length = size.toNat by omega] at g1 g2
        obtain ⟨ri', t, et⟩ := exR_keep ri hs hL size.toNat (by omega)
        try walk_at "z"
        exact hk _ _ m' (by omega) ⟨_, at_ + 1, _, _, rfl, g1, g2, g3, ri', by rw [et, List.length_append]; omega, by omega, hinc⟩
    · rw [if_neg (by omega)]
      rw [List.getElem?_eq_none (by omega)] at hinc
      have hinc : L = reachF A size := hinc
      try walk_at "z"
      exact k M' p1 hp1 kp (by rw [← hinc]; exact e1)
theorem ok__law_signs (T : Tx K mg base) : DefAt P w K mg base 1 "_law_signs" ["parts", "stand"] (zp__law_signs) := by
  refine zok T.d__law_signs sc__law_signs hl__law_signs (fun f cdv A outer s H E w0 Ez hr hW => ⟨(tRet (tCB (rTuple K) (tCons (tLc (iEnumA K (tCons (tOp (rIx K) (tOp (rIx K) (tVar 0) (tC (.int 1))) (tVar 1)) tNil)) (gTup K 2 (gCons (gName 2) (gCons (gName 3) gNil))) (tTest (tOp (rIn K false) (tVar 3) (tOp (rIx K) (tVar 0) (tC (.int 2))))) (tVar 2) [2, 3]) tNil))), _,
  (pss_one (ps_ret (pe_callTy call_tuple_of rfl T.f_tuple (by decide +kernel) (pa_cons (pe_lc (own := [("sign", 2), ("goal", 3)]) rfl sc__law_signs.nd (pi_enumA rfl T.f_enumerate (pa_cons (pe_ix ix_seq (pe_ix ix_seq (pv 0) pe_int (fun _ _ => rfl)) (pv 1) (fun _ _ => rfl)) pa_nil)) (blkOk_by (by kernel_rfl)) (fun _ _ _ _ _ => (pg_tup rfl (pgs_cons (pg_name (i := 2) sc__law_signs.nd rfl (Or.inl rfl)) (pgs_cons (pg_name (i := 3) sc__law_signs.nd rfl (Or.inl rfl)) pgs_nil)))) (fun _ _ _ _ _ => (pts_one (pt_cmpR op_in_seq (pv 3) (pe_ix ix_seq (pv 0) pe_int (fun _ _ => rfl)) (by rfl)))) (fun _ _ _ _ _ => (pv 2))) pa_nil)))),
  (ls_ret (le_cb lra_tuple (la_cons (le_lc (li_enum (la_cons (le_op lr_ix (le_op lr_ix le_var le_c) le_var) la_nil)) (lg_tup (lgs_cons lg_name (lgs_cons lg_name lgs_nil))) (mono_tup (mono_cons mono_name (mono_cons mono_name mono_nil))) (wo_tup (wos_cons mono_name (wo_name (by decide)) (wos_cons mono_name (wo_name (by decide)) wos_nil))) (lt_test (le_op lr_in le_var (le_op lr_ix le_var le_c))) le_var) la_nil))), ?z⟩)
  case z =>
    intro ds Qz h
    obtain ⟨size, rows, right, st, rfl, hs, h0, h1, k⟩ := h
    have s1 := hs.s1
    have s2 := hs.s2
    try walk_at "z"
    refine ⟨_, at_rows hs h0 h1, ?_⟩
    obtain ⟨rl, rb⟩ := row_len hs h0 h1
    try walk_at "z"
    refine zlc (fun i acc M' => M' = w0.M ∧ acc = dInts (((List.range i).filter fun s => decide (stepI rows st (s : Nat) ∈ right)).map fun (s : Nat) => (s : Int))) (by rw [enumD_len, ints_len, sizeLine_eq]; omega) ?_ ?_ ⟨rfl, rfl⟩
    · rintro i d acc M' k1 k2 hd ⟨rfl, rfl⟩ hk1 hk2
      obtain ⟨e, he, rfl⟩ := enumD_get hd
      rw [Zl.ints_get] at he
      cases e1 : (rows[st.toNat]?.getD [])[i]? with
      | none => rw [e1] at he; cases he
      | some v =>
        rw [e1] at he
        cases he
        have hv : stepI rows st i = v := by
          unfold stepI
          rw [Int.toNat_natCast, e1]
          rfl
        try walk_at "z"
        refine (e_inRow (neg := false)).mpr ?_
        try walk_at "z"
        by_cases q : v ∈ right
        · rw [if_pos (by simpa using q)]
          refine hk1 _ _ ⟨rfl, ?_⟩
          rw [List.range_succ, List.filter_append, List.map_append, List.filter_cons, hv, decide_eq_true q]
          unfold dInts
          simp
        · rw [if_neg (by simpa using q)]
          refine hk2 _ ⟨rfl, ?_⟩
          rw [List.range_succ, List.filter_append, List.map_append, List.filter_cons, hv, decide_eq_false q]
          unfold dInts
          simp
    · rintro acc M' ⟨rfl, rfl⟩ _
      rw [enumD_len, ints_len, show (rows[st.toNat]?.getD []).length = size.toNat by omega]
      exact k
theorem ok__law_first (T : Tx K mg base) : DefAt P w K mg base 2 "_law_first" ["parts"] (zp__law_first) := by
  refine zok T.d__law_first sc__law_first hl__law_first (fun f cdv A outer s H E w0 Ez hr hW => ⟨(tSeq (tAsg (tLk (tCallW (spOf K (zp__law_reached)) (WB E) (tCons (tVar 0) tNil))) (gName 1))
  (tSeq (tFor (iKeysZ (tVar 1)) (gName 2)
  (tIfS (tTest (tOp (rI0 fun i j => .bl (decide (j < i))) (tCB (rLenA K) (tCons (tCallW (spOf K (zp__law_signs)) (WB E) (tCons (tVar 0) (tCons (tVar 2) tNil))) tNil)) (tC (.int 1)))) (tRet (tDGet (tVar 1) (tVar 2))) tNext))
  (tRet (tC .non)))), _,
  (pss_cons (ps_set (i := 1) sc__law_first.nd rfl (Or.inl rfl) (pe_lk (zc_call (ok__law_reached T) (hr.mono (by decide)) rfl tkB (pa_cons (pv 0) pa_nil))))
  (pss_cons (ps_for (passes_of rfl) rfl (pi_keysZ (pv 1)) (pg_name (i := 2) sc__law_first.nd rfl (Or.inl rfl))
  (pss_one (ps_if (pt_cmpR op_gt (pe_callB call_lenA rfl T.f_len (by decide +kernel) (pa_cons (zc_call (ok__law_signs T) (hr.mono (by decide)) rfl tkB (pa_cons (pv 0) (pa_cons (pv 2) pa_nil))) pa_nil)) pe_int (nomark _)) (pss_one (ps_ret (pe_dget (room1 hr) (pv 1) (pv 2) (fun _ _ => rfl)))) pss_nil)))
  (pss_one (ps_ret pe_non)))),
  (ls_seq (ls_asg (le_lk (le_call hW (la_cons le_var la_nil))) lg_name)
  (ls_seq (ls_for (li_keysZ le_var) lg_name
  (ls_if (lt_test (le_op lr_I0 (le_cb lra_len (la_cons (le_call hW (la_cons le_var (la_cons le_var la_nil))) la_nil)) le_c)) (ls_ret (le_dget le_var le_var)) ls_next))
  (ls_ret le_c))), ?z⟩)
  case z =>
    intro ds Qz h
    obtain ⟨size, A, ra, rfl, hs, k⟩ := h
    have s1 := hs.s1
    try walk_at "z"
    refine ⟨size, A, ra, rfl, hs, fun M1 p hp hM1 e1 => ?_⟩
    have hM2 : Kp w0.M (mdel M1 p) := hM1.del hp
    obtain ⟨ri, _⟩ := reach_keep hs 5000 [(0, [])] 0 (RI.start hs.n1)
    have ri : RI A size (reachF A size) := ri
    try walk_at "z"
    refine ⟨_, e1, ?_⟩
    refine zloop (fun i δ M' => M' = mdel M1 p ∧ ((reachF A size).take i).find? (fun e => two A ra size e.1) = none ∧ ∃ q1, δ = [some (ptD size A ra), some (.dct (kv1 (reachF A size))), q1]) ?_ ?_ ⟨rfl, rfl, _, rfl⟩
    · rintro i d δ M' kk hd ⟨rfl, hn, q1, rfl⟩ hk
      unfold kv1 at hd
      rw [List.map_map, List.getElem?_map] at hd
      cases e : (reachF A size)[i]? with
      | none => rw [e] at hd; cases hd
      | some q =>
        obtain ⟨st, row⟩ := q
        rw [e] at hd
        cases hd
        obtain ⟨x0, x1⟩ : 0 ≤ st ∧ st < A.length := ri.bd _ (List.mem_of_getElem? e)
        show zgName 2 (.v (.int st)) _ _ _
        try walk_at "z"
        refine ⟨size, A, ra, st, rfl, hs, x0, x1, ?_⟩
        have ht : (1 < (((dInts (sgI A ra size st)).length : Nat) : Int)) = (two A ra size st = true) := by
          unfold two
          rw [ints_len, decide_eq_true_eq]
          exact propext ⟨fun _ => by omega, fun _ => by omega⟩
        try walk_at "z"
        simp only [ht]
        by_cases hc : two A ra size st = true
        · rw [if_pos hc]
          refine ⟨_, at_kv1 ri.nd e, ?_⟩
          have := k _ hM2
          have ef : fstF A ra size = some row := by
            unfold fstF
            rw [← List.take_append_drop i (reachF A size), List.find?_append, hn]
            obtain ⟨hl, hg⟩ := List.getElem?_eq_some_iff.mp e
            rw [List.drop_eq_getElem_cons hl, hg, List.find?_cons, hc]
            rfl
          rw [ef] at this
          exact this
        · rw [if_neg hc]
          refine hk _ _ ⟨rfl, ?_, _, rfl⟩
          rw [List.take_succ, e, List.find?_append, hn]
          have hc' : two A ra size st = false := by simpa using hc
          simp [hc']
    · rintro δ M' ⟨rfl, hn, q1, rfl⟩
      rw [List.length_map, kv1_len, List.take_length] at hn
      try walk_at "z"
      have := k _ hM2
      unfold fstF at this
      rw [hn] at this
      exact this
theorem ok__law_case_right (T : Tx K mg base) : DefAt P w K mg base 7 "_law_case_right" ["hand", "scheme", "parts"] (zp__law_case_right K) := by
  refine zok T.d__law_case_right sc__law_case_right hl__law_case_right (fun f cdv A outer s H E w0 Ez hr hW => ⟨(tSeq (tAsg (tCallW (spOf K (zp__law_first)) (WB E) (tCons (tVar 2) tNil)) (gName 3))
  (tSeq (tIfS (tNot (tB (tCallW (spOf K (zp__law_is 6)) (WB E) (tCons (tLst (tCons (tCallW (spOf K (zp_is_complete K)) (WB E) (tCons (tVar 1) tNil)) (tCons (tCallW (spOf K (zp_incomplete K)) (WB E) (tCons (tVar 1) tNil)) tNil))) (tCons (tLst (tCons (tOp (fun x y H Q => y = .non ∧ Q (.bl (decide (x = .non))) H) (tVar 3) (tC .non)) (tCons (tVar 3) tNil))) tNil))))) (tRet (tC (.bl false))) tNext)
  (tSeq (tFor (iRng1 (tCons (tC (.int 5)) tNil)) (gName 4)
  (tSeq (tAsg (tCallW (spOf K (zp__law_row)) (WB E) (tCons (tVar 0) (tCons (tOp (rIx K) (tVar 2) (tC (.int 0))) (tCons (tC (.int 20)) tNil)))) (gName 5))
  (tSeq (tAsg (tCallW (spOf K (zp__law_signs)) (WB E) (tCons (tVar 2) (tCons (tCallW (spOf K (zp__law_led)) (WB E) (tCons (tVar 2) (tCons (tVar 5) tNil))) tNil))) (gName 6))
  (tSeq (tIfS (tNot (tB (tCallW (spOf K (zp__law_is 6)) (WB E) (tCons (tCallW (spOf K (zp_check_signs K)) (WB E) (tCons (tVar 1) (tCons (tVar 5) tNil))) (tCons (tVar 6) tNil))))) (tRet (tC (.bl false))) tNext)
  (tIfS (tNot (tB (tCB (rAll K) (tCons (tLc (iRng1 (tCons (tOp (rIx K) (tVar 2) (tC (.int 0))) tNil)) (gName 7) tYes (tOp (rEqD K) (tCallW (spOf K (zp_is_right K)) W0 (tCons (tVar 1) (tCons (tOp (rAddA K) (tVar 5) (tTup (tCons (tVar 7) tNil))) tNil))) (tOp (rIn K false) (tVar 7) (tVar 6))) [7]) tNil)))) (tRet (tC (.bl false))) tNext)))))
  (tRet (tOrV (tOp (fun x y H Q => y = .non ∧ Q (.bl (decide (x = .non))) H) (tVar 3) (tC .non)) (tOp (rI0 fun i j => .bl (decide (j < i))) (tCB (rLenA K) (tCons (tCallW (spOf K (zp_check_signs K)) (WB E) (tCons (tVar 1) (tCons (tVar 3) tNil))) tNil)) (tC (.int 1)))))))), _,
  (pss_cons (ps_set (i := 3) sc__law_case_right.nd rfl (Or.inl rfl) (zc_call (ok__law_first T) (hr.mono (by decide)) rfl tkB (pa_cons (pv 2) pa_nil)))
  (pss_cons (ps_if (pt_not (pt_val (zc_call (ok__law_is T 6) (hr.mono (by decide)) rfl tkB (pa_cons (pe_lst (pa_cons (zc_call (ok_is_complete T) (hr.mono (by decide)) rfl tkB (pa_cons (pv 1) pa_nil)) (pa_cons (zc_call (ok_incomplete T) (hr.mono (by decide)) rfl tkB (pa_cons (pv 1) pa_nil)) pa_nil))) (pa_cons (pe_lst (pa_cons (pe_cmpR op_isN (pv 3) pe_non (nomark _)) (pa_cons (pv 3) pa_nil))) pa_nil))))) (pss_one (ps_ret pe_bl)) pss_nil)
  (pss_cons (ps_for (passes_of rfl) rfl (pi_range1 rfl T.f_range (pa_cons pe_int pa_nil)) (pg_name (i := 4) sc__law_case_right.nd rfl (Or.inl rfl))
  (pss_cons (ps_set (i := 5) sc__law_case_right.nd rfl (Or.inr rfl) (zc_call (ok__law_row T) (hr.mono (by decide)) rfl tkB (pa_cons (pv 0) (pa_cons (pe_ix ix_seq (pv 2) pe_int (fun _ _ => rfl)) (pa_cons pe_int pa_nil)))))
  (pss_cons (ps_set (i := 6) sc__law_case_right.nd rfl (Or.inr rfl) (zc_call (ok__law_signs T) (hr.mono (by decide)) rfl tkB (pa_cons (pv 2) (pa_cons (zc_call (ok__law_led T) (hr.mono (by decide)) rfl tkB (pa_cons (pv 2) (pa_cons (pv 5) pa_nil))) pa_nil))))
  (pss_cons (ps_if (pt_not (pt_val (zc_call (ok__law_is T 6) (hr.mono (by decide)) rfl tkB (pa_cons (zc_call (ok_check_signs T) (hr.mono (by decide)) rfl tkB (pa_cons (pv 1) (pa_cons (pv 5) pa_nil))) (pa_cons (pv 6) pa_nil))))) (pss_one (ps_ret pe_bl)) pss_nil)
  (pss_one (ps_if (pt_not (pt_val (pe_callB (cr_all rfl) rfl T.f_all (by decide +kernel) (pa_cons (pe_lc (own := [("sign", 7)]) rfl sc__law_case_right.nd (pi_range1 rfl T.f_range (pa_cons (pe_ix ix_seq (pv 2) pe_int (fun _ _ => rfl)) pa_nil)) (blkOk_by (by kernel_rfl)) (fun _ _ _ _ _ => (pg_name (i := 7) sc__law_case_right.nd rfl (Or.inl rfl))) (fun _ _ _ _ _ => pts_nil) (fun _ _ _ _ _ => (pe_cmpR (op_eqD hr.units) (zc_call (ok_is_right T) (hr.mono (by decide)) rfl tk0 (pa_cons (pv 1) (pa_cons (pe_op op_addA (pv 5) (pe_tup (pa_cons (pv 7) pa_nil))) pa_nil))) (pe_cmpR op_in_seq (pv 7) (pv 6) (by rfl)) (nomark _)))) pa_nil)))) (pss_one (ps_ret pe_bl)) pss_nil))))))
  (pss_one (ps_ret (pe_or (pe_cmpR op_isN (pv 3) pe_non (nomark _)) (pe_one (pe_cmpR op_gt (pe_callB call_lenA rfl T.f_len (by decide +kernel) (pa_cons (zc_call (ok_check_signs T) (hr.mono (by decide)) rfl tkB (pa_cons (pv 1) (pa_cons (pv 3) pa_nil))) pa_nil)) pe_int (nomark _))))))))),
  (ls_seq (ls_asg (le_call hW (la_cons le_var la_nil)) lg_name)
  (ls_seq (ls_if (lt_not (lt_B (le_call hW (la_cons (le_lst (la_cons (le_call hW (la_cons le_var la_nil)) (la_cons (le_call hW (la_cons le_var la_nil)) la_nil))) (la_cons (le_lst (la_cons (le_op lr_isN le_var le_c) (la_cons le_var la_nil))) la_nil))))) (ls_ret le_c) ls_next)
  (ls_seq (ls_for (li_rng1 (la_cons le_c la_nil)) lg_name
  (ls_seq (ls_asg (le_call hW (la_cons le_var (la_cons (le_op lr_ix le_var le_c) (la_cons le_c la_nil)))) lg_name)
  (ls_seq (ls_asg (le_call hW (la_cons le_var (la_cons (le_call hW (la_cons le_var (la_cons le_var la_nil))) la_nil))) lg_name)
  (ls_seq (ls_if (lt_not (lt_B (le_call hW (la_cons (le_call hW (la_cons le_var (la_cons le_var la_nil))) (la_cons le_var la_nil))))) (ls_ret le_c) ls_next)
  (ls_if (lt_not (lt_B (le_cb lra_all (la_cons (le_lc (li_rng1 (la_cons (le_op lr_ix le_var le_c) la_nil)) lg_name mono_name (wo_name (by decide)) lt_yes (le_op lr_eq (le_call ctW0' (la_cons le_var (la_cons (le_op lr_add le_var (le_tup (la_cons le_var la_nil))) la_nil))) (le_op lr_in le_var le_var))) la_nil)))) (ls_ret le_c) ls_next)))))
  (ls_ret (le_orV (le_op lr_isN le_var le_c) (le_op lr_I0 (le_cb lra_len (la_cons (le_call hW (la_cons le_var (la_cons le_var la_nil))) la_nil)) le_c)))))), ?z⟩)
  case z =>
    intro ds Qz h
    obtain ⟨h, size, A, ra, rfl, hd, hs, k⟩ := h
    have s1 := hs.s1
    have s2 := hs.s2
    have n1 := hs.n1
    try walk_at "z"
    refine ⟨size, A, ra, rfl, hs, fun M1 hM1 => ?_⟩
    try walk_at "z"
    refine ⟨size, A, ra, rfl, hs, fun M2 hM2 => ?_⟩
    try walk_at "z"
    refine ⟨size, A, ra, rfl, hs, fun M3 hM3 => ?_⟩
    have hk3 : Hk h w0.M M3 := ((hM1.tr hM2).tr hM3).hk hd
    try walk_at "z"
    rw [inc_fst hs]
    have ei : Zl.isNon (optD (fstF A ra size)) = (fstF A ra size).isNone := by
      cases fstF A ra size <;> rfl
    rw [ei]
    have pO : Pd 4 (optD (fstF A ra size)) := by
      cases e : fstF A ra size with
      | none => exact .non
      | some row => exact pd_row (by have := (fst_some hs e).2.1; omega)
    refine ⟨_, rfl, .lst (by simp) (fun x hx => ?_), by decide, ?_⟩
    · simp only [List.mem_cons, List.not_mem_nil, or_false] at hx
      rcases hx with rfl | rfl
      · exact .bl
      · exact pO
    try walk_at "z"
    refine ⟨by decide, by decide, ?_⟩
    generalize hO : optD (fstF A ra size) = O
    refine zloop (fun i δ M' => Hk h w0.M M' ∧ ∃ a b c d, δ = [some (.v (.ref h)), some (schD K size A ra), some (ptD size A ra), some O, a, b, c, d]) ?_ ?_ ⟨hk3, _, _, _, _, rfl⟩
    · rintro i d δ M' kk _ ⟨hk, a, b, c, d, rfl⟩ hkk
      try walk_at "z"
      refine ⟨h, size, 20, rfl, hk.1, s1, s2, by decide, by decide, fun row M4 hr hl hM4 => ?_⟩
      have hk4 : Hk h w0.M M4 := hk.tr hM4.k
      try walk_at "z"
      refine ⟨size, A, ra, row, rfl, hs, hr, ?_⟩
      obtain ⟨l0, l1⟩ := led_ok hs (Int.le_refl 0) (by omega) hr
      try walk_at "z"
      refine ⟨size, A, ra, _, rfl, hs, l0, l1, ?_⟩
      try walk_at "z"
      refine ⟨size, A, ra, row, rfl, hs, by omega, hr, ?_⟩
      try walk_at "z"
      refine ⟨_, rfl, pd_row (by have := sg_len (rows := A) (right := ra) (size := size) (st := ledI A 0 row); omega), by decide, ?_⟩
      try walk_at "z"
      refine ⟨by omega, by omega, ?_⟩
      refine zlc_map1 (fun d => .v (.bl true)) (by rw [List.length_map, List.length_range, sizeLine_eq]; omega) (fun d k1 k2 hd2 hk2 => ?_) ?_
      · obtain ⟨s, hs2, rfl⟩ := List.mem_map.mp hd2
        have hs2 := List.mem_range.mp hs2
        have hr2 : ∀ x ∈ row ++ [(s : Int)], 0 ≤ x ∧ x < size := fun x hx => by
          rcases List.mem_append.mp hx with hx | hx
          · exact hr x hx
          · rw [List.mem_singleton.mp hx]; omega
        try walk_at "z"
        refine ⟨by rw [ints_len]; omega, size, A, ra, row ++ [(s : Int)], by unfold rowD dInts; simp, hs, by rw [List.length_append]; simp; omega, hr2, ?_⟩
        try walk_at "z"
        refine (e_inRow (neg := false)).mpr ?_
        have ee : decide ((s : Int) ∈ sgI A ra size (ledI A 0 row)) = decide (ledI A 0 (row ++ [(s : Int)]) ∈ ra) := by
          rw [led_app]
          exact decide_eq_decide.mpr ⟨fun q => (sg_mem.mp q).2.2, fun q => sg_mem.mpr ⟨by omega, by omega, q⟩⟩
        rw [ee]
        try walk_at "z"
        exact hk2
      · try walk_at "z"
        rw [show (List.map (fun i => D.v (.int ((i : Nat) : Int))) (List.range size.toNat)).all (fun d => true) = true from List.all_eq_true.mpr fun _ _ => rfl]
        exact hkk _ _ ⟨hk4, _, _, _, _, rfl⟩
    · rintro δ M' ⟨hk, a, b, c, d, rfl⟩
      try walk_at "z"
      cases e : fstF A ra size with
      | none =>
        rw [e] at hO
        rw [← hO]
        unfold optD
        try walk_at "z"
        exact k _ hk
      | some row =>
        obtain ⟨hr, hl, ht⟩ := fst_some hs e
        rw [e] at hO
        rw [← hO]
        unfold optD
        try walk_at "z"
        refine ⟨size, A, ra, row, rfl, hs, by omega, hr, ?_⟩
        unfold two at ht
        have ht := of_decide_eq_true ht
        try walk_at "z"
        rw [decide_eq_true (by rw [ints_len]; omega)]
        exact k _ hk
theorem ok__law_table (T : Tx K mg base) : DefAt P w K mg base 2 "_law_table" ["hand", "size"] (zp__law_table) := by
  refine zok T.d__law_table sc__law_table hl__law_table (fun f cdv A outer s H E w0 Ez hr hW => ⟨(tSeq (tAsg (tTup (tCons (tLst tNil) (tCons (tLstRg (tRg1 (tVar 1))) tNil))) (gTup K 2 (gCons (gName 2) (gCons (gName 3) gNil))))
  (tSeq (tWhile (tTest (tOp (rI0 fun i j => .bl (decide (j < i))) (tCB (rLenA K) (tCons (tVar 3) tNil)) (tC (.int 0))))
  (tDrop (tBM K "list" rAppend (tVar 2) (tCons (tBM K "list" rPopAt (tVar 3) (tCons (tCallW (spOf K (zp__law_draw)) (WB E) (tCons (tVar 0) (tCons (tCB (rLenA K) (tCons (tVar 3) tNil)) tNil))) tNil)) tNil))))
  (tSeq (tIfS (tTest (tOp (rEqD K) (tCallW (spOf K (zp__law_draw)) (WB E) (tCons (tVar 0) (tCons (tC (.int 2)) tNil))) (tC (.int 0)))) (tRet (tCB (rTuple K) (tCons (tLc (iRng1 (tCons (tVar 1) tNil)) (gName 5) tYes (tCB (rTuple K) (tCons (tLc (iRng1 (tCons (tVar 1) tNil)) (gName 4) tYes (tCallW (spOf K (zp__law_draw)) W0 (tCons (tVar 0) (tCons (tVar 1) tNil))) [4]) tNil)) [5]) tNil))) tNext)
  (tRet (tCB (rTuple K) (tCons (tLc (iRng1 (tCons (tVar 1) tNil)) (gName 5) tYes (tCB (rTuple K) (tCons (tLc (iRng1 (tCons (tVar 1) tNil)) (gName 4) tYes (tOp (rIx K) (tVar 2) (tOp (rI (fun _ j => 0 < j) fun i j => .int (i % j)) (tCB rInt1 (tCons (tOp (rAddA K) (tVar 5) (tVar 4)) tNil)) (tVar 1))) [4]) tNil)) [5]) tNil)))))), _,
  (pss_cons (ps_asg (pe_tup (pa_cons (pe_lst pa_nil) (pa_cons (pe_listRg rfl rfl T.f_list (prg_1 rfl T.f_range (pv 1))) pa_nil))) (pg_tup rfl (pgs_cons (pg_name (i := 2) sc__law_table.nd rfl (Or.inr rfl)) (pgs_cons (pg_name (i := 3) sc__law_table.nd rfl (Or.inl rfl)) pgs_nil))))
  (pss_cons (ps_while (passes_of rfl) (pt_cmpR op_gt (pe_callB call_lenA rfl T.f_len (by decide +kernel) (pa_cons (pv 3) pa_nil)) pe_int (nomark _))
  (pss_one (ps_expr (pe_bm PySem.F.plainAttrs_list PySem.F.slot_list_append PySem.F.type_list_append mt_append (pv 2) (pa_cons (pe_bm PySem.F.plainAttrs_list PySem.F.slot_list_pop PySem.F.type_list_pop mt_popAt (pv 3) (pa_cons (zc_call (ok__law_draw T) (hr.mono (by decide)) rfl tkB (pa_cons (pv 0) (pa_cons (pe_callB call_lenA rfl T.f_len (by decide +kernel) (pa_cons (pv 3) pa_nil)) pa_nil))) pa_nil)) pa_nil)))))
  (pss_cons (ps_if (pt_cmpR (op_eqD hr.units) (zc_call (ok__law_draw T) (hr.mono (by decide)) rfl tkB (pa_cons (pv 0) (pa_cons pe_int pa_nil))) pe_int (nomark _)) (pss_one (ps_ret (pe_callTy call_tuple_of rfl T.f_tuple (by decide +kernel) (pa_cons (pe_lc (own := [("stand", 5)]) rfl sc__law_table.nd (pi_range1 rfl T.f_range (pa_cons (pv 1) pa_nil)) (blkOk_by (by kernel_rfl)) (fun _ _ _ _ _ => (pg_name (i := 5) sc__law_table.nd rfl (Or.inl rfl))) (fun _ _ _ _ _ => pts_nil) (fun _ _ _ _ _ => (pe_callTy call_tuple_of rfl T.f_tuple (by decide +kernel) (pa_cons (pe_lc (own := [("sign", 4)]) rfl sc__law_table.nd (pi_range1 rfl T.f_range (pa_cons (pv 1) pa_nil)) (blkOk_by (by kernel_rfl)) (fun _ _ _ _ _ => (pg_name (i := 4) sc__law_table.nd rfl (Or.inl rfl))) (fun _ _ _ _ _ => pts_nil) (fun _ _ _ _ _ => (zc_call (ok__law_draw T) (hr.mono (by decide)) rfl tk0 (pa_cons (pv 0) (pa_cons (pv 1) pa_nil))))) pa_nil)))) pa_nil)))) pss_nil)
  (pss_one (ps_ret (pe_callTy call_tuple_of rfl T.f_tuple (by decide +kernel) (pa_cons (pe_lc (own := [("stand", 5)]) rfl sc__law_table.nd (pi_range1 rfl T.f_range (pa_cons (pv 1) pa_nil)) (blkOk_by (by kernel_rfl)) (fun _ _ _ _ _ => (pg_name (i := 5) sc__law_table.nd rfl (Or.inr rfl))) (fun _ _ _ _ _ => pts_nil) (fun _ _ _ _ _ => (pe_callTy call_tuple_of rfl T.f_tuple (by decide +kernel) (pa_cons (pe_lc (own := [("sign", 4)]) rfl sc__law_table.nd (pi_range1 rfl T.f_range (pa_cons (pv 1) pa_nil)) (blkOk_by (by kernel_rfl)) (fun _ _ _ _ _ => (pg_name (i := 4) sc__law_table.nd rfl (Or.inl rfl))) (fun _ _ _ _ _ => pts_nil) (fun _ _ _ _ _ => (pe_ix ix_seq (pv 2) (pe_op op_mod (pe_callTy call_int1 rfl T.f_int (by decide +kernel) (pa_cons (pe_op op_addA (pv 5) (pv 4)) pa_nil)) (pv 1)) (fun _ _ => rfl)))) pa_nil)))) pa_nil))))))),
  (ls_seq (ls_asg (le_tup (la_cons (le_lstM la_nil) (la_cons (le_lstRg1M le_var) la_nil))) (lg_tup (lgs_cons lg_name (lgs_cons lg_name lgs_nil))))
  (ls_seq (ls_while (lt_test (le_op lr_I0 (le_cb lra_len (la_cons le_var la_nil)) le_c))
  (ls_drop (le_bmL lrm_append le_var (la_cons (le_bmL lrm_popI le_var (la_cons (le_call hW (la_cons le_var (la_cons (le_cb lra_len (la_cons le_var la_nil)) la_nil))) la_nil)) la_nil))))
  (ls_seq (ls_if (lt_test (le_op lr_eq (le_call hW (la_cons le_var (la_cons le_c la_nil))) le_c)) (ls_ret (le_cb lra_tuple (la_cons (le_lc (li_rng1 (la_cons le_var la_nil)) lg_name mono_name (wo_name (by decide)) lt_yes (le_cb lra_tuple (la_cons (le_lc (li_rng1 (la_cons le_var la_nil)) lg_name mono_name (wo_name (by decide)) lt_yes (le_call ctW0' (la_cons le_var (la_cons le_var la_nil)))) la_nil))) la_nil))) ls_next)
  (ls_ret (le_cb lra_tuple (la_cons (le_lc (li_rng1 (la_cons le_var la_nil)) lg_name mono_name (wo_name (by decide)) lt_yes (le_cb lra_tuple (la_cons (le_lc (li_rng1 (la_cons le_var la_nil)) lg_name mono_name (wo_name (by decide)) lt_yes (le_op lr_ix le_var (le_op lr_I (le_cb lra_int (la_cons (le_op lr_add le_var le_var) la_nil)) le_var))) la_nil))) la_nil)))))), ?z⟩)
  case z =>
    intro ds Qz h
    obtain ⟨h, size, rfl, hd, s1, s2, k⟩ := h
    try walk_at "z"
    intro p hp
    have nph : p ≠ h := hd.ne hp
    refine ⟨by unfold RgOk; omega, fun q hq => ?_⟩
    obtain ⟨nqp, hq⟩ := mput_none hq
    have nqh : q ≠ h := hd.ne hq
    have rg0 : rgD 0 size = dInts ((List.range size.toNat).map fun (i : Nat) => (i : Int)) := by
      unfold rgD dInts
      rw [List.map_map, Int.sub_zero]
      refine List.map_congr_left fun i _ => ?_
      show D.v (.int (0 + (i : Int))) = D.v (.int (i : Int))
      rw [Int.zero_add]
    rw [rg0]
    refine zwhile (fun m δ M' => ∃ a b names left, δ = [some (.v (.ref h)), some (.v (.int size)), some (.v (.ref p)), some (.v (.ref q)), a, b] ∧ Hk h w0.M M' ∧ M' p = some (.lst (dInts names)) ∧ M' q = some (.lst (dInts left)) ∧ (∀ x ∈ names, 0 ≤ x ∧ x < size) ∧ (∀ x ∈ left, 0 ≤ x ∧ x < size) ∧ left.length = m ∧ ((names.length + left.length : Nat) : Int) = size)
      ⟨size.toNat, _, _, [], _, rfl, ((Hk.rf hd).put hp nph).put hq nqh, by rw [mput_ne nqp.symm, mput_same]; rfl, by rw [mput_same], (fun x hx => nomatch hx), fun x hx => ?_, by simp, by simp; omega⟩ ?_
    · obtain ⟨i, hi, rfl⟩ := List.mem_map.mp hx
      have := List.mem_range.mp hi
      omega
    rintro m δ M' kk ⟨a, b, names, left, rfl, hk, e1, e2, hn, hl, hlm, hsz⟩ hkk
    try walk_at "z"
    refine ⟨left.length, by rw [lenD_lst e2, ints_len], ?_⟩
    try walk_at "z"
    by_cases hz : 0 < left.length
    · rw [if_pos (by omega)]
      refine ⟨⟨_, e1⟩, ⟨_, e2⟩, _, lenD_lst e2, ?_⟩
      rw [ints_len]
      refine ⟨h, left.length, rfl, hk.1, by omega, log2_small (by omega), fun r M4 hM4 r0 r1 => ?_⟩
      obtain ⟨j, rfl⟩ := Int.eq_ofNat_of_zero_le r0
      have hj : j < left.length := by omega
      have e1' : M4 p = some (.lst (dInts names)) := by rw [hM4.2 p nph]; exact e1
      have e2' : M4 q = some (.lst (dInts left)) := by rw [hM4.2 q nqh]; exact e2
      have her : (left.eraseIdx j).length + 1 = left.length := by rw [List.length_eraseIdx, if_pos hj]; omega
      try walk_at "z"
      refine ⟨_, .v (.int left[j]), j, rfl, by omega, e2', by rw [Zl.ints_get, List.getElem?_eq_getElem hj]; rfl, _, by rw [mput_ne nqp.symm]; exact e1', by rw [ints_len]; omega, ?_⟩
      refine hkk _ _ (left.length - 1) (by omega) ⟨_, _, names ++ [left[j]], left.eraseIdx j, rfl, ((hk.tr hM4.k).put hq nqh).put hp nph, ?_, ?_, fun x hx => ?_, fun x hx => hl x (List.mem_of_mem_eraseIdx hx), by omega, by rw [List.length_append, List.length_singleton]; omega⟩
      · rw [mput_same]
        unfold dInts
        simp
      · rw [mput_ne nqp, mput_same, ints_erase]
      · rcases List.mem_append.mp hx with hx | hx
        · exact hn x hx
        · rw [List.mem_singleton.mp hx]
          exact hl _ (List.getElem_mem hj)
    · rw [if_neg (by omega)]
      refine ⟨h, 2, rfl, hk.1, by decide, log2_small (by decide), fun r M4 hM4 r0 r1 => ?_⟩
      have hk4 : Hk h w0.M M4 := hk.tr hM4.k
      have e1' : M4 p = some (.lst (dInts names)) := by rw [hM4.2 p nph]; exact e1
      try walk_at "z"
      by_cases q0 : r = 0
      · rw [if_pos q0]
        refine ⟨by omega, by omega, ?_⟩
        refine zlc (fun i acc M' => Hk h w0.M M' ∧ ∃ rows : List (List Int), rows.length = i ∧ acc = rows.map rowD ∧ ∀ q ∈ rows, (q.length : Int) = size ∧ ∀ x ∈ q, 0 ≤ x ∧ x < size) (by rw [List.length_map, List.length_range, sizeLine_eq]; omega) ?_ ?_ ⟨hk4, [], rfl, rfl, (fun q hq => nomatch hq)⟩
        · rintro i d acc M' k1 k2 _ ⟨hM', rows, rl, rfl, hr⟩ hkc _
          try walk_at "z"
          refine ⟨by omega, by omega, ?_⟩
          refine zlc (fun i acc M'' => Hk h w0.M M'' ∧ ∃ q : List Int, q.length = i ∧ acc = dInts q ∧ ∀ x ∈ q, 0 ≤ x ∧ x < size) (by rw [List.length_map, List.length_range, sizeLine_eq]; omega) ?_ ?_ ⟨hM', [], rfl, rfl, (fun q hq => nomatch hq)⟩
          · rintro j d2 acc2 M3 k3 k4 _ ⟨hM3, q, ql, rfl, hq⟩ hk2 _
            try walk_at "z"
            refine ⟨h, size, rfl, hM3.1, by omega, log2_small (by omega), fun y M4 hM4 y0 y1 => hk2 _ _ ⟨hM3.tr hM4.k, q ++ [y], by simp [ql], by unfold dInts; simp, fun x hx => ?_⟩⟩
            rcases List.mem_append.mp hx with hx | hx
            · exact hq x hx
            · rw [List.mem_singleton.mp hx]
              exact ⟨y0, y1⟩
          · rintro acc2 M3 ⟨hM3, q, ql, rfl, hq⟩ _
            try walk_at "z"
            rw [List.length_map, List.length_range] at ql
            refine hkc _ _ ⟨hM3, rows ++ [q], by simp [rl], by simp, fun x hx => ?_⟩
            rcases List.mem_append.mp hx with hx | hx
            · exact hr x hx
            · rw [List.mem_singleton.mp hx]
              exact ⟨by omega, hq⟩
        · rintro acc M' ⟨hM', rows, rl, rfl, hr⟩ _
          rw [List.length_map, List.length_range] at rl
          exact k rows M' ⟨s1, s2, by omega, hr⟩ hM'
      · rw [if_neg q0]
        have hnl : names.length = size.toNat := by omega
        refine ⟨by omega, by omega, ?_⟩
        refine zlc (fun i acc M' => M' = M4 ∧ ∃ rows : List (List Int), rows.length = i ∧ acc = rows.map rowD ∧ ∀ q ∈ rows, (q.length : Int) = size ∧ ∀ x ∈ q, 0 ≤ x ∧ x < size) (by rw [List.length_map, List.length_range, sizeLine_eq]; omega) ?_ ?_ ⟨rfl, [], rfl, rfl, (fun q hq => nomatch hq)⟩
        · rintro i d acc M' k1 k2 hd1 ⟨rfl, rows, rl, rfl, hr⟩ hkc _
          obtain ⟨hi, rfl⟩ := rg_at hd1
          try walk_at "z"
          refine ⟨by omega, by omega, ?_⟩
          refine zlc (fun i acc M'' => M'' = M' ∧ ∃ q : List Int, q.length = i ∧ acc = dInts q ∧ ∀ x ∈ q, 0 ≤ x ∧ x < size) (by rw [List.length_map, List.length_range, sizeLine_eq]; omega) ?_ ?_ ⟨rfl, [], rfl, rfl, (fun q hq => nomatch hq)⟩
          · rintro j d2 acc2 M3 k3 k4 hd2 ⟨rfl, q, ql, rfl, hq⟩ hk2 _
            obtain ⟨hj, rfl⟩ := rg_at hd2
            have b0 := Int.emod_nonneg ((i : Int) + j) (by omega : size ≠ 0)
            have b1 := Int.emod_lt_of_pos ((i : Int) + j) (by omega : 0 < size)
            obtain ⟨v, hv⟩ := Int.eq_ofNat_of_zero_le b0
            have hvl : v < names.length := by omega
            try walk_at "z"
            refine ⟨by omega, _, e1', .v (.int names[v]), by rw [hv]; exact row_at (List.getElem?_eq_getElem hvl), ?_⟩
            refine hk2 _ _ ⟨rfl, q ++ [names[v]], by simp [ql], by unfold dInts; simp, fun x hx => ?_⟩
            rcases List.mem_append.mp hx with hx | hx
            · exact hq x hx
            · rw [List.mem_singleton.mp hx]
              exact hn _ (List.getElem_mem hvl)
          · rintro acc2 M3 ⟨rfl, q, ql, rfl, hq⟩ _
            try walk_at "z"
            rw [List.length_map, List.length_range] at ql
            refine hkc _ _ ⟨rfl, rows ++ [q], by simp [rl], by simp, fun x hx => ?_⟩
            rcases List.mem_append.mp hx with hx | hx
            · exact hr x hx
            · rw [List.mem_singleton.mp hx]
              exact ⟨by omega, hq⟩
        · rintro acc M' ⟨rfl, rows, rl, rfl, hr⟩ _
          rw [List.length_map, List.length_range] at rl
          exact k rows M' ⟨s1, s2, by omega, hr⟩ hk4
theorem ok_law (T : Tx K mg base) {f : Addr} {fd : FuncData} (F : FunD K "law" "law" (defArgs (top 51)) (defBody (top 51)) (defScope (top 51)) [] [] f fd) : FnOk P w K mg base (L2N.CX P w) 8 f fd ["script"] (spOf K (spLawT ((ts K).map (·.2)))) := by
  refine zok_core F sc_law hl_lawT (fun cdv A outer s H E w0 Ez hr hW => ⟨(tSeq (tAsg (tCallW (spOf K (zp__law_hand)) (WB E) (tCons (tVar 0) tNil)) (gName 1))
  (tSeq (tFor (iRng1 (tCons (tC (.int 3)) tNil)) (gName 2)
  (tSeq (tAsg (tCallW (spOf K (zp__law_drawn)) (WB E) (tCons (tVar 1) (tCons (tC (.int 7)) tNil))) (gName 3))
  (tSeq (tIfS (tTest (tOp (rEqD K) (tCallW (spOf K (zp__law_draw)) (WB E) (tCons (tVar 1) (tCons (tC (.int 2)) tNil))) (tC (.int 0)))) (tAsg (tOp (rAddA K) (tSl (rSlS K) (tVar 3) tNoPart (tPart (tC (.int 2)))) (tTup (tCons (tSl (rSlS K) (tOp (rIx K) (tVar 3) (tC (.int 2))) tNoPart (tPart (tC (.int 1)))) tNil))) (gName 3)) tNext)
  (tSeq (tIfS (tNot (tB (tCallW (spOf K (zp__law_case_right K)) (WB E) (tCons (tVar 1) (tCons (tCallW (spOf K (zp__law_made K)) (WB E) (tCons (tVar 3) tNil)) (tCons (tVar 3) tNil)))))) (tRet (tC (.bl false))) tNext)
  (tSeq (tAsg (tCallW (spOf K (zp__law_any)) (WB E) (tCons (tVar 1) (tCons (tLst (tCons (tC (.int 2)) (tCons (tC (.int 3)) (tCons (tC (.int 4)) (tCons (tC (.int 5)) (tCons (tC (.int 10)) tNil)))))) tNil))) (gName 4))
  (tSeq (tAsg (tCallW (spOf K (zp__law_table)) (WB E) (tCons (tVar 1) (tCons (tVar 4) tNil))) (gName 5))
  (tSeq (tIfS (tNot (tB (tCallW (spOf K (zp__law_case_right K)) (WB E) (tCons (tVar 1) (tCons (tCallW (spOf K (zp_by_table K)) (WB E) (tCons (tVar 4) (tCons (tVar 5) tNil))) (tCons (tTup (tCons (tVar 4) (tCons (tVar 5) (tCons (tTup (tCons (tC (.int 0)) tNil)) tNil)))) tNil)))))) (tRet (tC (.bl false))) tNext)
  (tSeq (tAsg (tCallW (spOf K (zp__law_any)) (WB E) (tCons (tVar 1) (tCons (tLst (tCons (tTup (tCons (tC (.int 2)) (tCons (tC (.int 1)) tNil))) (tCons (tTup (tCons (tC (.int 3)) (tCons (tC (.int 2)) tNil))) (tCons (tTup (tCons (tC (.int 5)) (tCons (tC (.int 3)) tNil))) (tCons (tTup (tCons (tC (.int 7)) (tCons (tC (.int 4)) tNil))) (tCons (tTup (tCons (tC (.int 10)) (tCons (tC (.int 3)) tNil))) (tCons (tTup (tCons (tC (.int 10)) (tCons (tC (.int 7)) tNil))) (tCons (tTup (tCons (tC (.int 11)) (tCons (tC (.int 10)) tNil))) tNil)))))))) tNil))) (gTup K 2 (gCons (gName 4) (gCons (gName 6) gNil))))
  (tSeq (tAsg (tCallW (spOf K (zp_weighted K)) (WB E) (tCons (tVar 4) (tCons (tTup (tCons (tVar 6) tNil)) (tCons (tVar 4) (tCons (tCallW (spOf K (zp__law_draw)) (WB E) (tCons (tVar 1) (tCons (tVar 4) tNil))) tNil))))) (gName 7))
  (tSeq (tIfS (tOr (tTest (tOp rNotB (tCallW (spOf K (zp_is_complete K)) (WB E) (tCons (tVar 7) tNil)) (tC (.bl true)))) (tTest (tOp (rNeD K) (tCB (rLenA K) (tCons (tCallW (spOf K (zp_check_signs K)) (WB E) (tCons (tVar 7) (tCons (tCallW (spOf K (zp__law_row)) (WB E) (tCons (tVar 1) (tCons (tVar 4) (tCons (tC (.int 9)) tNil)))) tNil))) tNil)) (tC (.int 1))))) (tRet (tC (.bl false))) tNext)
  (tSeq (tAsg (tCallW (spOf K (zp_weighted K)) (WB E) (tCons (tC (.int 10)) (tCons (tTup (tCons (tC (.int 1)) (tCons (tC (.int 3)) tNil))) (tCons (tC (.int 10)) (tCons (tC (.int 0)) tNil))))) (gName 7))
  (tIfS (tOr (tTest (tOp rNotB (tCallW (spOf K (zp_is_complete K)) (WB E) (tCons (tVar 7) tNil)) (tC (.bl true)))) (tTest (tOp (fun x y H Q => y = .non ∧ Q (.bl (!decide (x = .non))) H) (tCallW (spOf K (zp_incomplete K)) (WB E) (tCons (tVar 7) tNil)) (tC .non)))) (tRet (tC (.bl false))) tNext))))))))))))
  (tRet (tOp (rEqD K) (tCallW (spOf K (zp_incomplete K)) (WB E) (tCons (tCallW (spOf K (zp_weighted K)) (WB E) (tCons (tC (.int 10)) (tCons (tTup (tCons (tC (.int 1)) (tCons (tC (.int 2)) tNil))) (tCons (tC (.int 10)) (tCons (tC (.int 0)) tNil))))) tNil)) (tTup (tCons (tC (.int 0)) tNil)))))), _,
  (pss_cons (ps_set (i := 1) sc_law.nd rfl (Or.inl rfl) (zc_call (ok__law_hand T) (hr.mono (by decide)) rfl tkB (pa_cons (pv 0) pa_nil)))
  (pss_cons (ps_for (passes_of rfl) rfl (pi_range1 rfl T.f_range (pa_cons pe_int pa_nil)) (pg_name (i := 2) sc_law.nd rfl (Or.inl rfl))
  (pss_cons (ps_set (i := 3) sc_law.nd rfl (Or.inl rfl) (zc_call (ok__law_drawn T) (hr.mono (by decide)) rfl tkB (pa_cons (pv 1) (pa_cons pe_int pa_nil))))
  (pss_cons (ps_if (pt_cmpR (op_eqD hr.units) (zc_call (ok__law_draw T) (hr.mono (by decide)) rfl tkB (pa_cons (pv 1) (pa_cons pe_int pa_nil))) pe_int (nomark _)) (pss_one (ps_set (i := 3) sc_law.nd rfl (Or.inl rfl) (pe_op op_addA (pe_slice sl_seqA (pv 3) po_none (po_some pe_int)) (pe_tup (pa_cons (pe_slice sl_seqA (pe_ix ix_seq (pv 3) pe_int (fun _ _ => rfl)) po_none (po_some pe_int)) pa_nil))))) pss_nil)
  (pss_cons (ps_if (pt_not (pt_val (zc_call (ok__law_case_right T) (hr.mono (by decide)) rfl tkB (pa_cons (pv 1) (pa_cons (zc_call (ok__law_made T) (hr.mono (by decide)) rfl tkB (pa_cons (pv 3) pa_nil)) (pa_cons (pv 3) pa_nil)))))) (pss_one (ps_ret pe_bl)) pss_nil)
  (pss_cons (ps_set (i := 4) sc_law.nd rfl (Or.inl rfl) (zc_call (ok__law_any T) (hr.mono (by decide)) rfl tkB (pa_cons (pv 1) (pa_cons (pe_lst (pa_cons pe_int (pa_cons pe_int (pa_cons pe_int (pa_cons pe_int (pa_cons pe_int pa_nil)))))) pa_nil))))
  (pss_cons (ps_set (i := 5) sc_law.nd rfl (Or.inl rfl) (zc_call (ok__law_table T) (hr.mono (by decide)) rfl tkB (pa_cons (pv 1) (pa_cons (pv 4) pa_nil))))
  (pss_cons (ps_if (pt_not (pt_val (zc_call (ok__law_case_right T) (hr.mono (by decide)) rfl tkB (pa_cons (pv 1) (pa_cons (zc_call (ok_by_table T) (hr.mono (by decide)) rfl tkB (pa_cons (pv 4) (pa_cons (pv 5) pa_nil))) (pa_cons (pe_tup (pa_cons (pv 4) (pa_cons (pv 5) (pa_cons (pe_tup (pa_cons pe_int pa_nil)) pa_nil)))) pa_nil)))))) (pss_one (ps_ret pe_bl)) pss_nil)
  (pss_cons (ps_asg (zc_call (ok__law_any T) (hr.mono (by decide)) rfl tkB (pa_cons (pv 1) (pa_cons (pe_lst (pa_cons (pe_tup (pa_cons pe_int (pa_cons pe_int pa_nil))) (pa_cons (pe_tup (pa_cons pe_int (pa_cons pe_int pa_nil))) (pa_cons (pe_tup (pa_cons pe_int (pa_cons pe_int pa_nil))) (pa_cons (pe_tup (pa_cons pe_int (pa_cons pe_int pa_nil))) (pa_cons (pe_tup (pa_cons pe_int (pa_cons pe_int pa_nil))) (pa_cons (pe_tup (pa_cons pe_int (pa_cons pe_int pa_nil))) (pa_cons (pe_tup (pa_cons pe_int (pa_cons pe_int pa_nil))) pa_nil)))))))) pa_nil))) (pg_tup rfl (pgs_cons (pg_name (i := 4) sc_law.nd rfl (Or.inl rfl)) (pgs_cons (pg_name (i := 6) sc_law.nd rfl (Or.inl rfl)) pgs_nil))))
  (pss_cons (ps_set (i := 7) sc_law.nd rfl (Or.inl rfl) (zc_call (ok_weighted T) (hr.mono (by decide)) rfl tkB (pa_cons (pv 4) (pa_cons (pe_tup (pa_cons (pv 6) pa_nil)) (pa_cons (pv 4) (pa_cons (zc_call (ok__law_draw T) (hr.mono (by decide)) rfl tkB (pa_cons (pv 1) (pa_cons (pv 4) pa_nil))) pa_nil))))))
  (pss_cons (ps_if (PW.pt (pw_or (pt_cmpR op_notBl (zc_call (ok_is_complete T) (hr.mono (by decide)) rfl tkB (pa_cons (pv 7) pa_nil)) pe_bl (nomark _)) (pw_or1 (pt_cmpR (op_neD hr.units) (pe_callB call_lenA rfl T.f_len (by decide +kernel) (pa_cons (zc_call (ok_check_signs T) (hr.mono (by decide)) rfl tkB (pa_cons (pv 7) (pa_cons (zc_call (ok__law_row T) (hr.mono (by decide)) rfl tkB (pa_cons (pv 1) (pa_cons (pv 4) (pa_cons pe_int pa_nil)))) pa_nil))) pa_nil)) pe_int (nomark _))))) (pss_one (ps_ret pe_bl)) pss_nil)
  (pss_cons (ps_set (i := 7) sc_law.nd rfl (Or.inl rfl) (zc_call (ok_weighted T) (hr.mono (by decide)) rfl tkB (pa_cons pe_int (pa_cons (pe_tup (pa_cons pe_int (pa_cons pe_int pa_nil))) (pa_cons pe_int (pa_cons pe_int pa_nil))))))
  (pss_one (ps_if (PW.pt (pw_or (pt_cmpR op_notBl (zc_call (ok_is_complete T) (hr.mono (by decide)) rfl tkB (pa_cons (pv 7) pa_nil)) pe_bl (nomark _)) (pw_or1 (pt_cmpR op_notN (zc_call (ok_incomplete T) (hr.mono (by decide)) rfl tkB (pa_cons (pv 7) pa_nil)) pe_non (nomark _))))) (pss_one (ps_ret pe_bl)) pss_nil)))))))))))))
  (pss_one (ps_ret (pe_cmpR (op_eqD hr.units) (zc_call (ok_incomplete T) (hr.mono (by decide)) rfl tkB (pa_cons (zc_call (ok_weighted T) (hr.mono (by decide)) rfl tkB (pa_cons pe_int (pa_cons (pe_tup (pa_cons pe_int (pa_cons pe_int pa_nil))) (pa_cons pe_int (pa_cons pe_int pa_nil))))) pa_nil)) (pe_tup (pa_cons pe_int pa_nil)) (nomark _)))))),
  (ls_seq (ls_asg (le_call hW (la_cons le_var la_nil)) lg_name)
  (ls_seq (ls_for (li_rng1 (la_cons le_c la_nil)) lg_name
  (ls_seq (ls_asg (le_call hW (la_cons le_var (la_cons le_c la_nil))) lg_name)
  (ls_seq (ls_if (lt_test (le_op lr_eq (le_call hW (la_cons le_var (la_cons le_c la_nil))) le_c)) (ls_asg (le_op lr_add (le_cut le_var lo_none (lo_some le_c)) (le_tup (la_cons (le_cut (le_op lr_ix le_var le_c) lo_none (lo_some le_c)) la_nil))) lg_name) ls_next)
  (ls_seq (ls_if (lt_not (lt_B (le_call hW (la_cons le_var (la_cons (le_call hW (la_cons le_var la_nil)) (la_cons le_var la_nil)))))) (ls_ret le_c) ls_next)
  (ls_seq (ls_asg (le_call hW (la_cons le_var (la_cons (le_lst (la_cons le_c (la_cons le_c (la_cons le_c (la_cons le_c (la_cons le_c la_nil)))))) la_nil))) lg_name)
  (ls_seq (ls_asg (le_call hW (la_cons le_var (la_cons le_var la_nil))) lg_name)
  (ls_seq (ls_if (lt_not (lt_B (le_call hW (la_cons le_var (la_cons (le_call hW (la_cons le_var (la_cons le_var la_nil))) (la_cons (le_tup (la_cons le_var (la_cons le_var (la_cons (le_tup (la_cons le_c la_nil)) la_nil)))) la_nil)))))) (ls_ret le_c) ls_next)
  (ls_seq (ls_asg (le_call hW (la_cons le_var (la_cons (le_lst (la_cons (le_tup (la_cons le_c (la_cons le_c la_nil))) (la_cons (le_tup (la_cons le_c (la_cons le_c la_nil))) (la_cons (le_tup (la_cons le_c (la_cons le_c la_nil))) (la_cons (le_tup (la_cons le_c (la_cons le_c la_nil))) (la_cons (le_tup (la_cons le_c (la_cons le_c la_nil))) (la_cons (le_tup (la_cons le_c (la_cons le_c la_nil))) (la_cons (le_tup (la_cons le_c (la_cons le_c la_nil))) la_nil)))))))) la_nil))) (lg_tup (lgs_cons lg_name (lgs_cons lg_name lgs_nil))))
  (ls_seq (ls_asg (le_call hW (la_cons le_var (la_cons (le_tup (la_cons le_var la_nil)) (la_cons le_var (la_cons (le_call hW (la_cons le_var (la_cons le_var la_nil))) la_nil))))) lg_name)
  (ls_seq (ls_if (lt_or (lt_test (le_op lr_notBl (le_call hW (la_cons le_var la_nil)) le_c)) (lt_test (le_op lr_ne (le_cb lra_len (la_cons (le_call hW (la_cons le_var (la_cons (le_call hW (la_cons le_var (la_cons le_var (la_cons le_c la_nil)))) la_nil))) la_nil)) le_c))) (ls_ret le_c) ls_next)
  (ls_seq (ls_asg (le_call hW (la_cons le_c (la_cons (le_tup (la_cons le_c (la_cons le_c la_nil))) (la_cons le_c (la_cons le_c la_nil))))) lg_name)
  (ls_if (lt_or (lt_test (le_op lr_notBl (le_call hW (la_cons le_var la_nil)) le_c)) (lt_test (le_op lr_isNotN (le_call hW (la_cons le_var la_nil)) le_c))) (ls_ret le_c) ls_next))))))))))))
  (ls_ret (le_op lr_eq (le_call hW (la_cons (le_call hW (la_cons le_c (la_cons (le_tup (la_cons le_c (la_cons le_c la_nil))) (la_cons le_c (la_cons le_c la_nil))))) la_nil)) (le_tup (la_cons le_c la_nil)))))), ?z⟩)
  case z =>
    intro ds Qz h
    obtain ⟨ns, rfl, hn, hb, h0, k⟩ := h
    have hPt : w0.M (tP K "weighted") = some (.tbl (qN "weighted" "onward")) := by
      rw [h0]
      unfold tabM ts tf
      simp
      decide +kernel
    try walk_at "z"
    refine ⟨ns, rfl, hn, fun h M1 hM0 hM1 => ?_⟩
    have nP : tP K "weighted" ≠ h := fun q => by rw [q, hM0] at hPt; cases hPt
    have hT1 : M1 (tP K "weighted") = some (.tbl (qN "weighted" "onward")) := by rw [hM1.2 _ nP]; exact hPt
    have tb : ∀ {M : MS}, Hk h M1 M → M (tP K "weighted") = some (.tbl (qN "weighted" "onward")) := fun hk => hk.2 _ _ nP hT1
    try walk_at "z"
    refine ⟨by decide, by decide, ?_⟩
    refine zloop (fun i δ M' => Hk h M1 M' ∧ ∃ r, δ = some (.rd (ns.map fun n => .v (.int n))) :: some (.v (.ref h)) :: r ∧ r.length = 6) ?_ ?_ ⟨Hk.rf hM1.1, [none, none, none, none, none, none], rfl, rfl⟩
    · rintro i d δ M' kk _ ⟨hk, r, rfl, hr⟩ hkk
      match r, hr with
      | [r0, r1, r2, r3, r4, r5], _ =>
      generalize some (D.rd (ns.map fun n => D.v (.int n))) = SC at hkk ⊢
      simp only [↓u_gn2]
      refine zcut (fun δ M2 => Hk h M1 M2 ∧ ∃ size A ra, Sch size A ra ∧ δ = [SC, some (.v (.ref h)), some d, some (ptD size A ra), r2, r3, r4, r5]) ?_ ?_
      · intro k1 hk1
        try walk_at "z"
        refine ⟨h, 7, rfl, hk.1, by decide, by decide, fun size A ra M2 hdr hM2 => ?_⟩
        try walk_at "z"
        exact hk1 _ _ ⟨hk.tr hM2.k, size, A, ra, hdr.mono (by decide), rfl⟩
      rintro δ M2 ⟨hk2, size, A, ra, hA, rfl⟩
      refine zcut (fun δ M2 => Hk h M1 M2 ∧ ∃ size A ra, Sch size A ra ∧ δ = [SC, some (.v (.ref h)), some d, some (ptD size A ra), r2, r3, r4, r5]) ?_ ?_
      · intro k1 hk1
        try walk_at "z"
        refine ⟨h, 2, rfl, hk2.1, by decide, log2_small (by decide), fun r M3 hM3 r0 r1 => ?_⟩
        have hk3 := hk2.tr hM3.k
        try walk_at "z"
        by_cases q : r = 0
        · rw [if_pos q]
          refine ⟨by rw [cut2]; simp, ?_⟩
          refine hk1 _ _ ⟨hk3, size, A, Zl.cutD ra none (some 1), sch_cut hA, ?_⟩
          rw [cut2, show Zl.cutD (dInts ra) none (some 1) = dInts (Zl.cutD ra none (some 1)) from cut_map]
          rfl
        · rw [if_neg q]
          exact hk1 _ _ ⟨hk3, size, A, ra, hA, rfl⟩
      rintro δ M3 ⟨hk3, size, A, ra, hA, rfl⟩
      refine zcut (fun δ M4 => Hk h M1 M4 ∧ δ = [SC, some (.v (.ref h)), some d, some (ptD size A ra), r2, r3, r4, r5]) ?_ ?_
      · intro k1 hk1
        try walk_at "z"
        refine ⟨size, A, ra, rfl, hA, ?_⟩
        try walk_at "z"
        refine ⟨h, size, A, ra, rfl, hk3.1, hA, fun M4 hM4 => ?_⟩
        try walk_at "z"
        exact hk1 _ _ ⟨hk3.tr hM4, rfl⟩
      rintro δ M4 ⟨hk4, rfl⟩
      generalize some (ptD size A ra) = PT
      clear hA
      refine zcut (fun δ M5 => Hk h M1 M5 ∧ ∃ z : Int, 2 ≤ z ∧ z ≤ 12 ∧ δ = [SC, some (.v (.ref h)), some d, PT, some (.v (.int z)), r3, r4, r5]) ?_ ?_
      · intro k1 hk1
        try walk_at "z"
        refine ⟨h, _, _, rfl, .inl rfl, hk4.1, List.cons_ne_nil _ _, by simp only [List.length_cons, List.length_nil, sizeLine_eq]; omega, fun x M5 hx hM5 => ?_⟩
        obtain ⟨z, rfl, z0, z1⟩ : ∃ m : Int, x = .v (.int m) ∧ 2 ≤ m ∧ m ≤ 12 := by
          simp only [List.mem_cons, List.not_mem_nil, or_false] at hx
          rcases hx with rfl | rfl | rfl | rfl | rfl <;> exact ⟨_, rfl, by decide, by decide⟩
        try walk_at "z"
        exact hk1 _ _ ⟨hk4.tr hM5.k, z, z0, z1, rfl⟩
      rintro δ M5 ⟨hk5, z, z0, z1, rfl⟩
      refine zcut (fun δ M6 => Hk h M1 M6 ∧ ∃ B, TbOk z B ∧ δ = [SC, some (.v (.ref h)), some d, PT, some (.v (.int z)), some (rowsD B), r4, r5]) ?_ ?_
      · intro k1 hk1
        try walk_at "z"
        refine ⟨h, z, rfl, hk5.1, z0, z1, fun B M6 hB hM6 => ?_⟩
        try walk_at "z"
        exact hk1 _ _ ⟨hk5.tr hM6, B, hB, rfl⟩
      rintro δ M6 ⟨hk6, B, hB, rfl⟩
      refine zcut (fun δ M7 => Hk h M1 M7 ∧ δ = [SC, some (.v (.ref h)), some d, PT, some (.v (.int z)), some (rowsD B), r4, r5]) ?_ ?_
      · intro k1 hk1
        try walk_at "z"
        refine ⟨z, B, rfl, hB, ?_⟩
        try walk_at "z"
        refine ⟨h, z, B, [0], rfl, hk6.1, hB.sch, fun M7 hM7 => ?_⟩
        try walk_at "z"
        exact hk1 _ _ ⟨hk6.tr hM7, rfl⟩
      rintro δ M7 ⟨hk7, rfl⟩
      refine zcut (fun δ M8 => Hk h M1 M8 ∧ ∃ (s w : Int), (s, w) ∈ ([(2, 1), (3, 2), (5, 3), (7, 4), (10, 3), (10, 7), (11, 10)] : List (Int × Int)) ∧ 2 ≤ s ∧ s ≤ 12 ∧ δ = [SC, some (.v (.ref h)), some d, PT, some (.v (.int s)), some (rowsD B), some (.v (.int w)), r5]) ?_ ?_
      · intro k1 hk1
        try walk_at "z"
        refine ⟨h, _, _, rfl, .inl rfl, hk7.1, List.cons_ne_nil _ _, by simp only [List.length_cons, List.length_nil, sizeLine_eq]; omega, fun x M8 hx hM8 => ?_⟩
        obtain ⟨s, w, rfl, hsw, s0, s1⟩ : ∃ s w : Int, x = .tup [.v (.int s), .v (.int w)] ∧ (s, w) ∈ ([(2, 1), (3, 2), (5, 3), (7, 4), (10, 3), (10, 7), (11, 10)] : List (Int × Int)) ∧ 2 ≤ s ∧ s ≤ 12 := by
          simp only [List.mem_cons, List.not_mem_nil, or_false] at hx
          rcases hx with rfl | rfl | rfl | rfl | rfl | rfl | rfl <;> exact ⟨_, _, rfl, by decide, by decide, by decide⟩
        try walk_at "z"
        exact hk1 _ _ ⟨hk7.tr hM8.k, s, w, hsw, s0, s1, rfl⟩
      rintro δ M8 ⟨hk8, s, w, hsw, s0, s1, rfl⟩
      refine zcut (fun δ M9 => Hk h M1 M9 ∧ ∃ r, 0 ≤ r ∧ r < s ∧ δ = [SC, some (.v (.ref h)), some d, PT, some (.v (.int s)), some (rowsD B), some (.v (.int w)), some (schD K s (wtR s [w] s) (wtT s [w] s r))]) ?_ ?_
      · intro k1 hk1
        try walk_at "z"
        refine ⟨h, s, rfl, hk8.1, by omega, log2_small (by omega), fun r M9 hM9 r0 r1 => ?_⟩
        have hk9 := hk8.tr hM9.k
        try walk_at "z"
        refine ⟨s, s, r, [w], rfl, (wt_ok hsw r0 r1).1, tb hk9, fun M10 hM10 => ?_⟩
        try walk_at "z"
        exact hk1 _ _ ⟨hk9.tr (hM10.hk hk9.1), r, r0, r1, rfl⟩
      rintro δ M9 ⟨hk9, r, r0, r1, rfl⟩
      obtain ⟨wk, wc⟩ := wt_ok hsw r0 r1
      have wS := wt_sch wk
      refine zcut (fun δ M10 => Hk h M1 M10 ∧ δ = [SC, some (.v (.ref h)), some d, PT, some (.v (.int s)), some (rowsD B), some (.v (.int w)), some (schD K s (wtR s [w] s) (wtT s [w] s r))]) ?_ ?_
      · intro k1 hk1
        try walk_at "z"
        refine ⟨s, _, _, rfl, wS, fun M10 hM10 => ?_⟩
        have hk10 := hk9.tr (hM10.hk hk9.1)
        rw [comp_inc wS wc]
        unfold zIsB
        try walk_at "z"
        refine ⟨h, s, 9, rfl, hk10.1, s0, s1, by decide, by decide, fun row M11 hr hl hM11 => ?_⟩
        have hk11 := hk10.tr hM11.k
        have n1 := wS.n1
        obtain ⟨l0, l1⟩ := led_ok wS (Int.le_refl 0) (by omega) hr
        try walk_at "z"
        refine ⟨s, _, _, row, rfl, wS, by omega, hr, ?_⟩
        try walk_at "z"
        rw [ints_len, comp_sg wc l0 l1]
        try walk_at "z"
        exact hk1 _ _ ⟨hk11, rfl⟩
      rintro δ M10 ⟨hk10, rfl⟩
      have wS3 := wt_sch wt13
      refine zcut (fun δ M11 => Hk h M1 M11 ∧ δ = [SC, some (.v (.ref h)), some d, PT, some (.v (.int s)), some (rowsD B), some (.v (.int w)), some (schD K 10 (wtR 10 [1, 3] 10) (wtT 10 [1, 3] 10 0))]) ?_ ?_
      · intro k1 hk1
        try walk_at "z"
        refine ⟨10, 10, 0, [1, 3], rfl, wt13, tb hk10, fun M11 hM11 => ?_⟩
        try walk_at "z"
        exact hk1 _ _ ⟨hk10.tr (hM11.hk hk10.1), rfl⟩
      rintro δ M11 ⟨hk11, rfl⟩
      try walk_at "z"
      refine ⟨10, _, _, rfl, wS3, fun M12 hM12 => ?_⟩
      have hk12 := hk11.tr (hM12.hk hk11.1)
      rw [comp_inc wS3 comp2]
      unfold zIsB
      try walk_at "z"
      refine ⟨10, _, _, rfl, wS3, fun M13 hM13 => ?_⟩
      have hk13 := hk12.tr (hM13.hk hk12.1)
      rw [comp_inc wS3 comp2]
      unfold optD
      try walk_at "z"
      exact hkk _ _ ⟨hk13, _, rfl, rfl⟩
    · rintro δ M' ⟨hk, r, rfl, hr⟩
      match r, hr with
      | [r0, r1, r2, r3, r4, r5], _ =>
      try walk_at "z"
      refine ⟨10, 10, 0, [1, 2], rfl, wt12, tb hk, fun M2 hM2 => ?_⟩
      try walk_at "z"
      refine ⟨10, _, _, rfl, wt_sch wt12, fun M3 hM3 => ?_⟩
      rw [inc12]
      try walk_at "z"
      exact (e_eqS (show nb (rowD [0]) = true by decide +kernel) (by show 1 ≤ 64; decide)).mpr (k _)
end
/-! ### the head: facts by names, the run -/
def fn : List He.DefD := [d__law_hand, d__law_draw, d__law_any, d_is_int, d_is_within, d_are_within, d_is_row, d_BadScheme___init__, d_check_size, d_is_step, d_Scheme___init__, d_check_scheme, d_check_row, d_led_on, d_is_right, d_Growing___init__, d_weighted, d_check_table, d_by_table, d_signs_of, d_check_signs, d_first_incomplete, d_is_complete, d_incomplete, d__law_is, d__law_drawn, d__law_made, d__law_led, d__law_row, d__law_reached, d__law_signs, d__law_first, d__law_case_right, d__law_table, d_law]
def fa : List He.Fa := [.glo "Scheme", .glo "Growing", .glo "BadScheme", .glo "_law_hand", .glo "_law_draw", .glo "_law_any", .glo "is_int", .glo "is_within", .glo "are_within", .glo "is_row", .glo "check_size", .glo "is_step", .mkr "Scheme", .glo "check_scheme", .glo "check_row", .glo "led_on", .glo "is_right", .mkr "Growing", .glo "weighted", .glo "check_table", .glo "by_table", .glo "signs_of", .glo "check_signs", .glo "first_incomplete", .glo "is_complete", .glo "incomplete", .glo "_law_is", .glo "_law_drawn", .glo "_law_made", .glo "_law_led", .glo "_law_row", .glo "_law_reached", .glo "_law_signs", .glo "_law_first", .glo "_law_case_right", .glo "_law_table", .glo "law", .cls "Scheme", .noat "Scheme" "size", .noat "Scheme" "steps", .noat "Scheme" "right", .cls "Growing", .noat "Growing" "places", .noat "Growing" "number_of", .noat "Growing" "steps", .noat "BadScheme" "part", .noat "BadScheme" "at", .free "abs", .free "all", .free "bool", .free "enumerate", .free "int", .free "isinstance", .free "len", .free "list", .free "range", .free "tuple", .free "zip", .int "LEAST_SIZE" (2), .int "MOST_MODULUS" (100), .int "MOST_SIZE" (12), .int "MOST_STANDS" (200), .int "MOST_WEIGHT" (200), .int "MOST_WEIGHTS" (12)]
def exB (K : PySem.W.Frag) : Bool := (initB K (He.ga K "BadScheme") (He.ma K (He.ga K "BadScheme") "__init__") && (insB K (He.ga K "Scheme") && (insB K (He.ga K "Growing") && (oexB K (He.ga K "BadScheme") && (xccB K (He.ga K "BadScheme") && true)))))
theorem ex_of {K : PySem.W.Frag} {a : Bool} (h : exB K = true → a = true) (c : exB K = true) : a = true := h c
theorem ex_BadScheme_i {K : PySem.W.Frag} (h : exB K = true) : initB K (He.ga K "BadScheme") (He.ma K (He.ga K "BadScheme") "__init__") = true := (Bool.and_eq_true_iff.mp h).1
theorem ex_Scheme_s {K : PySem.W.Frag} (h : exB K = true) : insB K (He.ga K "Scheme") = true := (Bool.and_eq_true_iff.mp (Bool.and_eq_true_iff.mp h).2).1
theorem ex_Growing_s {K : PySem.W.Frag} (h : exB K = true) : insB K (He.ga K "Growing") = true := (Bool.and_eq_true_iff.mp (Bool.and_eq_true_iff.mp (Bool.and_eq_true_iff.mp h).2).2).1
theorem ex_BadScheme_o {K : PySem.W.Frag} (h : exB K = true) : oexB K (He.ga K "BadScheme") = true := (Bool.and_eq_true_iff.mp (Bool.and_eq_true_iff.mp (Bool.and_eq_true_iff.mp (Bool.and_eq_true_iff.mp h).2).2).2).1
theorem ex_BadScheme_c {K : PySem.W.Frag} (h : exB K = true) : xccB K (He.ga K "BadScheme") = true := (Bool.and_eq_true_iff.mp (Bool.and_eq_true_iff.mp (Bool.and_eq_true_iff.mp (Bool.and_eq_true_iff.mp (Bool.and_eq_true_iff.mp h).2).2).2).2).1
abbrev R : PySem.W.OpenRow := PySem.W.OpenLaw.row PySem.Challenge.rw_slipcaught_k07_whole_check_signs
abbrev hk : PySem.W.Hook := He.hookX 6 fa fn [] tf exB
def ob (s : PySem.W.SharedT) : He.AlX := He.obsX 6 fa fn [] tf exB (HandSHeadRun.getT s)
theorem ob_eq (s : PySem.W.SharedT) : ob s = hk.obs s.abs := He.obsX_eq (HandSHeadRun.getT_eq s)
def loose : List Str := [("is_int" : Str), ("is_within" : Str), ("are_within" : Str), ("is_row" : Str), ("SlipError" : Str), ("BadModulus" : Str), ("BadRest" : Str), ("BadScheme" : Str), ("BadWeights" : Str), ("NoRow" : Str), ("NoScheme" : Str), ("TooMany" : Str), ("LEAST_SIZE" : Str), ("MOST_SIZE" : Str), ("MOST_STANDS" : Str), ("MOST_WEIGHTS" : Str), ("MOST_WEIGHT" : Str), ("MOST_MODULUS" : Str), ("check_size" : Str), ("is_step" : Str), ("Scheme" : Str), ("check_scheme" : Str), ("check_row" : Str), ("led_on" : Str), ("is_right" : Str), ("Growing" : Str), ("weighted" : Str), ("by_table" : Str), ("check_table" : Str), ("signs_of" : Str), ("check_signs" : Str), ("first_incomplete" : Str), ("is_complete" : Str), ("incomplete" : Str), ("_law_hand" : Str), ("_law_draw" : Str), ("_law_any" : Str), ("_law_is" : Str), ("_law_drawn" : Str), ("_law_made" : Str), ("_law_led" : Str), ("_law_row" : Str), ("_law_reached" : Str), ("_law_signs" : Str), ("_law_first" : Str), ("_law_case_right" : Str), ("_law_table" : Str)]
theorem run (w : World) : HandSHeadRun.RunEq R (PySem.W.view R.prog [51]) hk ob 6000 loose w := by
  intro os
  kernel_rfl
theorem tx_of {w : World} {K : PySem.W.Frag} {h hh : Heap} {mg : Str → Option Value} (X : K.In h) (G : h.Ns mainGlobals mg) (c : He.SaysX fa fn [] tf exB w hh K) {base : Heap} (TB : ∀ p ∈ ts K, LamX.TabB base mg p.1 p.2.1) : Tx K mg base where
  a_Scheme := He.glo_ok X G (c.t.d.fact 0 (f := .glo "Scheme") rfl)
  a_Growing := He.glo_ok X G (c.t.d.fact 1 (f := .glo "Growing") rfl)
  a_BadScheme := He.glo_ok X G (c.t.d.fact 2 (f := .glo "BadScheme") rfl)
  d__law_hand := ⟨let ⟨fd, F⟩ := c.t.d.def_ 0 (d := d__law_hand) rfl; ⟨_, fd, F, He.glo_ok X G (c.t.d.fact 3 (f := .glo "_law_hand") rfl), F.bindsN fun _ _ _ _ _ _ us hl => match us, hl with | [_], _ => rfl⟩⟩
  d__law_draw := ⟨let ⟨fd, F⟩ := c.t.d.def_ 1 (d := d__law_draw) rfl; ⟨_, fd, F, He.glo_ok X G (c.t.d.fact 4 (f := .glo "_law_draw") rfl), F.bindsN fun _ _ _ _ _ _ us hl => match us, hl with | [_, _], _ => rfl⟩⟩
  d__law_any := ⟨let ⟨fd, F⟩ := c.t.d.def_ 2 (d := d__law_any) rfl; ⟨_, fd, F, He.glo_ok X G (c.t.d.fact 5 (f := .glo "_law_any") rfl), F.bindsN fun _ _ _ _ _ _ us hl => match us, hl with | [_, _], _ => rfl⟩⟩
  d_is_int := ⟨let ⟨fd, F⟩ := c.t.d.def_ 3 (d := d_is_int) rfl; ⟨_, fd, F, He.glo_ok X G (c.t.d.fact 6 (f := .glo "is_int") rfl), F.bindsN fun _ _ _ _ _ _ us hl => match us, hl with | [_], _ => rfl⟩⟩
  d_is_within := ⟨let ⟨fd, F⟩ := c.t.d.def_ 4 (d := d_is_within) rfl; ⟨_, fd, F, He.glo_ok X G (c.t.d.fact 7 (f := .glo "is_within") rfl), F.bindsN fun _ _ _ _ _ _ us hl => match us, hl with | [_, _, _], _ => rfl⟩⟩
  d_are_within := ⟨let ⟨fd, F⟩ := c.t.d.def_ 5 (d := d_are_within) rfl; ⟨_, fd, F, He.glo_ok X G (c.t.d.fact 8 (f := .glo "are_within") rfl), F.bindsN fun _ _ _ _ _ _ us hl => match us, hl with | [_, _, _], _ => rfl⟩⟩
  d_is_row := ⟨let ⟨fd, F⟩ := c.t.d.def_ 6 (d := d_is_row) rfl; ⟨_, fd, F, He.glo_ok X G (c.t.d.fact 9 (f := .glo "is_row") rfl), F.bindsN fun _ _ _ _ _ _ us hl => match us, hl with | [_, _], _ => rfl⟩⟩
  xi_BadScheme := let ⟨fd, F⟩ := c.t.d.def_ 7 (d := d_BadScheme___init__) rfl; ⟨_, fd, F, (initB_ok (ex_of ex_BadScheme_i c.more)).1, (initB_ok (ex_of ex_BadScheme_i c.more)).2, F.bindsN fun _ _ _ _ _ _ us hl => match us, hl with | [_, _, _], _ => rfl⟩
  d_check_size := ⟨let ⟨fd, F⟩ := c.t.d.def_ 8 (d := d_check_size) rfl; ⟨_, fd, F, He.glo_ok X G (c.t.d.fact 10 (f := .glo "check_size") rfl), F.bindsN fun _ _ _ _ _ _ us hl => match us, hl with | [_], _ => rfl⟩⟩
  d_is_step := ⟨let ⟨fd, F⟩ := c.t.d.def_ 9 (d := d_is_step) rfl; ⟨_, fd, F, He.glo_ok X G (c.t.d.fact 11 (f := .glo "is_step") rfl), F.bindsN fun _ _ _ _ _ _ us hl => match us, hl with | [_, _, _], _ => rfl⟩⟩
  in_Scheme := let ⟨fd, F⟩ := c.t.d.def_ 10 (d := d_Scheme___init__) rfl; ⟨_, fd, F, He.mkr_ok (c.t.d.fact 12 (f := .mkr "Scheme") rfl), F.bindsN fun _ _ _ _ _ _ us hl => match us, hl with | [_, _, _, _], _ => rfl⟩
  d_check_scheme := ⟨let ⟨fd, F⟩ := c.t.d.def_ 11 (d := d_check_scheme) rfl; ⟨_, fd, F, He.glo_ok X G (c.t.d.fact 13 (f := .glo "check_scheme") rfl), F.bindsN fun _ _ _ _ _ _ us hl => match us, hl with | [_], _ => rfl⟩⟩
  d_check_row := ⟨let ⟨fd, F⟩ := c.t.d.def_ 12 (d := d_check_row) rfl; ⟨_, fd, F, He.glo_ok X G (c.t.d.fact 14 (f := .glo "check_row") rfl), F.bindsN fun _ _ _ _ _ _ us hl => match us, hl with | [_, _], _ => rfl⟩⟩
  d_led_on := ⟨let ⟨fd, F⟩ := c.t.d.def_ 13 (d := d_led_on) rfl; ⟨_, fd, F, He.glo_ok X G (c.t.d.fact 15 (f := .glo "led_on") rfl), F.bindsN fun _ _ _ _ _ _ us hl => match us, hl with | [_, _, _], _ => rfl⟩⟩
  d_is_right := ⟨let ⟨fd, F⟩ := c.t.d.def_ 14 (d := d_is_right) rfl; ⟨_, fd, F, He.glo_ok X G (c.t.d.fact 16 (f := .glo "is_right") rfl), F.bindsN fun _ _ _ _ _ _ us hl => match us, hl with | [_, _], _ => rfl⟩⟩
  in_Growing := let ⟨fd, F⟩ := c.t.d.def_ 15 (d := d_Growing___init__) rfl; ⟨_, fd, F, He.mkr_ok (c.t.d.fact 17 (f := .mkr "Growing") rfl), F.bindsN fun _ _ _ _ _ _ us hl => match us, hl with | [_, _, _, _, _], _ => rfl⟩
  d_weighted := ⟨let ⟨fd, F⟩ := c.t.d.def_ 16 (d := d_weighted) rfl; ⟨_, fd, F, He.glo_ok X G (c.t.d.fact 18 (f := .glo "weighted") rfl), F.bindsN fun _ _ _ _ _ _ us hl => match us, hl with | [_, _, _, _], _ => rfl, Zl.code_of F⟩⟩
  b_weighted := TB _ (List.mem_map.mpr ⟨("weighted", none), (List.Mem.head _), rfl⟩)
  d_check_table := ⟨let ⟨fd, F⟩ := c.t.d.def_ 17 (d := d_check_table) rfl; ⟨_, fd, F, He.glo_ok X G (c.t.d.fact 19 (f := .glo "check_table") rfl), F.bindsN fun _ _ _ _ _ _ us hl => match us, hl with | [_, _], _ => rfl⟩⟩
  d_by_table := ⟨let ⟨fd, F⟩ := c.t.d.def_ 18 (d := d_by_table) rfl; ⟨_, fd, F, He.glo_ok X G (c.t.d.fact 20 (f := .glo "by_table") rfl), F.bindsN fun _ _ _ _ _ _ us hl => match us, hl with | [_, _], _ => rfl⟩⟩
  d_signs_of := ⟨let ⟨fd, F⟩ := c.t.d.def_ 19 (d := d_signs_of) rfl; ⟨_, fd, F, He.glo_ok X G (c.t.d.fact 21 (f := .glo "signs_of") rfl), F.bindsN fun _ _ _ _ _ _ us hl => match us, hl with | [_, _], _ => rfl⟩⟩
  d_check_signs := ⟨let ⟨fd, F⟩ := c.t.d.def_ 20 (d := d_check_signs) rfl; ⟨_, fd, F, He.glo_ok X G (c.t.d.fact 22 (f := .glo "check_signs") rfl), F.bindsN fun _ _ _ _ _ _ us hl => match us, hl with | [_, _], _ => rfl⟩⟩
  d_first_incomplete := ⟨let ⟨fd, F⟩ := c.t.d.def_ 21 (d := d_first_incomplete) rfl; ⟨_, fd, F, He.glo_ok X G (c.t.d.fact 23 (f := .glo "first_incomplete") rfl), F.bindsN fun _ _ _ _ _ _ us hl => match us, hl with | [_], _ => rfl⟩⟩
  d_is_complete := ⟨let ⟨fd, F⟩ := c.t.d.def_ 22 (d := d_is_complete) rfl; ⟨_, fd, F, He.glo_ok X G (c.t.d.fact 24 (f := .glo "is_complete") rfl), F.bindsN fun _ _ _ _ _ _ us hl => match us, hl with | [_], _ => rfl⟩⟩
  d_incomplete := ⟨let ⟨fd, F⟩ := c.t.d.def_ 23 (d := d_incomplete) rfl; ⟨_, fd, F, He.glo_ok X G (c.t.d.fact 25 (f := .glo "incomplete") rfl), F.bindsN fun _ _ _ _ _ _ us hl => match us, hl with | [_], _ => rfl⟩⟩
  d__law_is := ⟨let ⟨fd, F⟩ := c.t.d.def_ 24 (d := d__law_is) rfl; ⟨_, fd, F, He.glo_ok X G (c.t.d.fact 26 (f := .glo "_law_is") rfl), F.bindsN fun _ _ _ _ _ _ us hl => match us, hl with | [_, _], _ => rfl⟩⟩
  d__law_drawn := ⟨let ⟨fd, F⟩ := c.t.d.def_ 25 (d := d__law_drawn) rfl; ⟨_, fd, F, He.glo_ok X G (c.t.d.fact 27 (f := .glo "_law_drawn") rfl), F.bindsN fun _ _ _ _ _ _ us hl => match us, hl with | [_, _], _ => rfl⟩⟩
  d__law_made := ⟨let ⟨fd, F⟩ := c.t.d.def_ 26 (d := d__law_made) rfl; ⟨_, fd, F, He.glo_ok X G (c.t.d.fact 28 (f := .glo "_law_made") rfl), F.bindsN fun _ _ _ _ _ _ us hl => match us, hl with | [_], _ => rfl⟩⟩
  d__law_led := ⟨let ⟨fd, F⟩ := c.t.d.def_ 27 (d := d__law_led) rfl; ⟨_, fd, F, He.glo_ok X G (c.t.d.fact 29 (f := .glo "_law_led") rfl), F.bindsN fun _ _ _ _ _ _ us hl => match us, hl with | [_, _], _ => rfl⟩⟩
  d__law_row := ⟨let ⟨fd, F⟩ := c.t.d.def_ 28 (d := d__law_row) rfl; ⟨_, fd, F, He.glo_ok X G (c.t.d.fact 30 (f := .glo "_law_row") rfl), F.bindsN fun _ _ _ _ _ _ us hl => match us, hl with | [_, _, _], _ => rfl⟩⟩
  d__law_reached := ⟨let ⟨fd, F⟩ := c.t.d.def_ 29 (d := d__law_reached) rfl; ⟨_, fd, F, He.glo_ok X G (c.t.d.fact 31 (f := .glo "_law_reached") rfl), F.bindsN fun _ _ _ _ _ _ us hl => match us, hl with | [_], _ => rfl⟩⟩
  d__law_signs := ⟨let ⟨fd, F⟩ := c.t.d.def_ 30 (d := d__law_signs) rfl; ⟨_, fd, F, He.glo_ok X G (c.t.d.fact 32 (f := .glo "_law_signs") rfl), F.bindsN fun _ _ _ _ _ _ us hl => match us, hl with | [_, _], _ => rfl⟩⟩
  d__law_first := ⟨let ⟨fd, F⟩ := c.t.d.def_ 31 (d := d__law_first) rfl; ⟨_, fd, F, He.glo_ok X G (c.t.d.fact 33 (f := .glo "_law_first") rfl), F.bindsN fun _ _ _ _ _ _ us hl => match us, hl with | [_], _ => rfl⟩⟩
  d__law_case_right := ⟨let ⟨fd, F⟩ := c.t.d.def_ 32 (d := d__law_case_right) rfl; ⟨_, fd, F, He.glo_ok X G (c.t.d.fact 34 (f := .glo "_law_case_right") rfl), F.bindsN fun _ _ _ _ _ _ us hl => match us, hl with | [_, _, _], _ => rfl⟩⟩
  d__law_table := ⟨let ⟨fd, F⟩ := c.t.d.def_ 33 (d := d__law_table) rfl; ⟨_, fd, F, He.glo_ok X G (c.t.d.fact 35 (f := .glo "_law_table") rfl), F.bindsN fun _ _ _ _ _ _ us hl => match us, hl with | [_, _], _ => rfl⟩⟩
  d_law := ⟨let ⟨fd, F⟩ := c.t.d.def_ 34 (d := d_law) rfl; ⟨_, fd, F, He.glo_ok X G (c.t.d.fact 36 (f := .glo "law") rfl), F.bindsN fun _ _ _ _ _ _ us hl => match us, hl with | [_], _ => rfl⟩⟩
  c_Scheme := He.cls_ok (c.t.d.fact 37 (f := .cls "Scheme") rfl)
  s_Scheme := insB_ok (He.cls_ok (c.t.d.fact 37 (f := .cls "Scheme") rfl)) (ex_of ex_Scheme_s c.more)
  na_Scheme_size := He.noat_ok (c.t.d.fact 38 (f := .noat "Scheme" "size") rfl)
  na_Scheme_steps := He.noat_ok (c.t.d.fact 39 (f := .noat "Scheme" "steps") rfl)
  na_Scheme_right := He.noat_ok (c.t.d.fact 40 (f := .noat "Scheme" "right") rfl)
  c_Growing := He.cls_ok (c.t.d.fact 41 (f := .cls "Growing") rfl)
  s_Growing := insB_ok (He.cls_ok (c.t.d.fact 41 (f := .cls "Growing") rfl)) (ex_of ex_Growing_s c.more)
  na_Growing_places := He.noat_ok (c.t.d.fact 42 (f := .noat "Growing" "places") rfl)
  na_Growing_number_of := He.noat_ok (c.t.d.fact 43 (f := .noat "Growing" "number_of") rfl)
  na_Growing_steps := He.noat_ok (c.t.d.fact 44 (f := .noat "Growing" "steps") rfl)
  o_BadScheme := oexB_ok (ex_of ex_BadScheme_o c.more)
  x_BadScheme := xccB_ok (ex_of ex_BadScheme_c c.more)
  na_BadScheme_part := He.noat_ok (c.t.d.fact 45 (f := .noat "BadScheme" "part") rfl)
  na_BadScheme_at := He.noat_ok (c.t.d.fact 46 (f := .noat "BadScheme" "at") rfl)
  f_abs := He.free_ok X G (c.t.d.fact 47 (f := .free "abs") rfl)
  f_all := He.free_ok X G (c.t.d.fact 48 (f := .free "all") rfl)
  f_bool := He.free_ok X G (c.t.d.fact 49 (f := .free "bool") rfl)
  f_enumerate := He.free_ok X G (c.t.d.fact 50 (f := .free "enumerate") rfl)
  f_int := He.free_ok X G (c.t.d.fact 51 (f := .free "int") rfl)
  f_isinstance := He.free_ok X G (c.t.d.fact 52 (f := .free "isinstance") rfl)
  f_len := He.free_ok X G (c.t.d.fact 53 (f := .free "len") rfl)
  f_list := He.free_ok X G (c.t.d.fact 54 (f := .free "list") rfl)
  f_range := He.free_ok X G (c.t.d.fact 55 (f := .free "range") rfl)
  f_tuple := He.free_ok X G (c.t.d.fact 56 (f := .free "tuple") rfl)
  f_zip := He.free_ok X G (c.t.d.fact 57 (f := .free "zip") rfl)
  g_LEAST_SIZE := He.int_ok X G (c.t.d.fact 58 (f := .int "LEAST_SIZE" (2)) rfl)
  g_MOST_MODULUS := He.int_ok X G (c.t.d.fact 59 (f := .int "MOST_MODULUS" (100)) rfl)
  g_MOST_SIZE := He.int_ok X G (c.t.d.fact 60 (f := .int "MOST_SIZE" (12)) rfl)
  g_MOST_STANDS := He.int_ok X G (c.t.d.fact 61 (f := .int "MOST_STANDS" (200)) rfl)
  g_MOST_WEIGHT := He.int_ok X G (c.t.d.fact 62 (f := .int "MOST_WEIGHT" (200)) rfl)
  g_MOST_WEIGHTS := He.int_ok X G (c.t.d.fact 63 (f := .int "MOST_WEIGHTS" (12)) rfl)
theorem facts {P : Program} {w : World} {K : PySem.W.Frag} {h : Heap} {mg : Str → Option Value} {f : Addr} (X : K.In h) (G : h.Ns mainGlobals mg) (hfa : mg ("law" : Str) = some (.ref f)) (c : He.SaysX fa fn [] tf exB w h K) :
    ∃ fd : FuncData, (∀ (s : Shared) (v : Value), BindsTo s fd ⟨[v], []⟩ [("script", v)]) ∧ (∀ p ∈ ts K, h.get? p.2.1 = some { cls := .none, data := .fields #[] } ∧ K.lookup p.2.1 = none ∧ PySem.W.codeHdIn K p.1 p.2.1 = true) ∧
      ∀ base : Heap, K.In base → base.Ns mainGlobals mg → (∀ p ∈ ts K, LamX.TabB base mg p.1 p.2.1) → FnOk P w K mg base (L2N.CX P w) 8 f fd ["script"] (spOf K (spLawT ((ts K).map (·.2)))) := by
  obtain ⟨fd, F⟩ := c.t.d.def_ 34 (d := d_law) rfl
  have e : mg ("law" : Str) = some (.ref (He.ga K "law")) := He.glo_ok X G (c.t.d.fact 36 (f := .glo "law") rfl)
  have eq : He.ga K "law" = f := by
    have := e.symm.trans hfa
    cases this
    rfl
  subst eq
  have bb := FunD.bindsA (ps := ["script"]) F fun _ _ _ _ _ _ us hl => match us, hl with | [_], _ => rfl
  refine ⟨fd, fun s v => bb s [v] rfl, fun p hp => ?_, fun base _ _ TB => ok_law (tx_of X G c TB) F⟩
  obtain ⟨t, ht, rfl⟩ := List.mem_map.mp hp
  exact ⟨c.empty t ht, c.out t ht, c.hd t ht⟩
end K07
open PySem PySem.W PySem.Calls PyProof.Rows
theorem PySem.Challenge.cw_slipcaught_k07_whole_check_signs_holds : PySem.Challenge.rw_slipcaught_k07_whole_check_signs.Holds := by
  w_on; o_law
  refine HandSHeadRun.head_any (r := OpenLaw.row PySem.Challenge.rw_slipcaught_k07_whole_check_signs) (q := view (OpenLaw.row PySem.Challenge.rw_slipcaught_k07_whole_check_signs).prog [51]) (H := K07.hk) (ob := K07.ob) (M := 6000) (loose := K07.loose) (d := HandSHeadRun.topDef (OpenLaw.row PySem.Challenge.rw_slipcaught_k07_whole_check_signs).prog 51) (kwd := []) K07.ob_eq
    (by kernel_rfl) (fun s => by kernel_rfl) K07.run (by kernel_rfl) (by kernel_rfl) (by kernel_rfl) (by rfl) (by first | assumption | decide +kernel) (by decide +kernel) ⟨rfl, rfl, rfl, rfl, rfl, by decide +kernel⟩ ?hw ?hc
  case hw => w_witness2
  case hc =>
    refine Zl.walk_lawT (l := PySem.Challenge.rw_slipcaught_k07_whole_check_signs) (k := 8) rfl (by kernel_rfl) ⟨rfl, by decide, by decide⟩ ?F
    intro w mg fa h Y G hmg0
    obtain ⟨K, KX, c⟩ := Y
    have hmg : mg ("law" : PySem.Str) = some (.ref fa) := by
      have e : (HandSHeadRun.topDef (OpenLaw.row PySem.Challenge.rw_slipcaught_k07_whole_check_signs).prog 51).name = ("law" : PySem.Str) := by kernel_rfl
      rw [← e]
      exact hmg0
    obtain ⟨fd, hb, hT, hF⟩ := K07.facts (P := (PySem.Challenge.rw_slipcaught_k07_whole_check_signs).prog) (w := w) KX G hmg c
    exact ⟨K, fd, K07.ts K, KX, hb, hT, hF⟩
