import PyProof.Rows.All
import KE.KDictZip
import PyProof.EnumMake
import PyProof.Draws
import HandS.Conv
import Wide.All
import OpenK.AllK
import Wide.FinOn
import HandS.ForMost
import HandS.ForExc
import HandS.Walk
import HandS.IsInst
import KE.KDictKeyed
import KE.KDictCopyH
import HandS.More
import HandS.ExcInit
import HandS.ExcField
import KE.KExcIs
import HandS.Style
import HandS.SetFor
import PyProof.SeqRoads2
import KE.SortData
import HandS.DictEq
import HandS.TupAny
import HandS.Iter
import KE.KDictSum
import HandS.DictTup
import HandS.ListItems
import HandS.StrMore
import KE.KEqDict
import KE.KDictWalk
import HandS.Text
import HandS.Zip
import HandS.ReplaceLit
import PyProof.Rows.StrStrike
import HandS.Codes
import HandS.Strs
import KE.KDictDisplayH
import HandS.TupLen
import KE.KDictPairs
import HandS.Flow
import HandS.Flt
import PySem.Challenge.RW_anydelay_k59_whole_clashes_otherwise
set_option Elab.async false
set_option linter.all false
set_option maxRecDepth 100000
namespace VL
open PySem L2
abbrev NX := List (NestedKey × Addr × Value)

/-! data, results -/
inductive D where
  | non | bl (b : Bool) | int (i : Int) | str (x : List Nat) | tup (l : List D) | lst (l : List D) | dct (k : Bool) (l : List (D × D)) | opq (v : Option V) | exc (k : Nat) (l : List D) | fd (o : Obj) (kvs : List (Key × V)) (l : List (D × D)) | fz (l : List (D × D))
abbrev Lab := List Nat
inductive T where
  | f (x : D) | l (ds : List D) | ll (ts : List T) | tt (ts : List T) | dc (k : Bool) (kvs : List (D × D)) | dl (ks : List D) (ts : List T) | ob (k : Nat) (ks : List Str) (ts : List T) | nx (ep : Nat) (xs : NX) (l : List (D × D)) | no (ep : Nat) (xs : NX) (l : List (D × D)) | lf (l : List (D × D)) | hole (w : V)
structure Ex where
  k : Nat
  a : Option D
inductive Res (α : Type) where
  | ok (a : α) | err (e : Ex) | fail
def rb {α β : Type} (m : Res α) (k : α → Res β) : Res β := match m with | .ok a => k a | .err e => .err e | .fail => .fail
def ob {α β : Type} (m : Option α) (k : α → Res β) : Res β := match m with | some a => k a | none => .fail
theorem rb_cases {α β : Type} {m : Res α} {k : α → Res β} (h : rb m k ≠ .fail) : (∃ a, m = .ok a ∧ rb m k = k a) ∨ (∃ e, m = .err e ∧ rb m k = .err e) := by
  cases m with
  | ok a => exact .inl ⟨a, rfl, rfl⟩
  | err e => exact .inr ⟨e, rfl, rfl⟩
  | fail => exact absurd rfl h
theorem ob_cases {α β : Type} {m : Option α} {k : α → Res β} (h : ob m k ≠ .fail) : ∃ a, m = some a ∧ ob m k = k a := by
  cases m with
  | some a => exact ⟨a, rfl, rfl⟩
  | none => exact absurd rfl h

def mkS (l : List Nat) : Str := ⟨l.toArray⟩
theorem mkS_cps (l : List Nat) : (mkS l).cps.toList = l := by simp [mkS]
theorem mkS_len (l : List Nat) : (mkS l).length = l.length := by simp [mkS, Str.length]
theorem mkS_of (x : Str) : mkS x.cps.toList = x := by simp [mkS]
theorem mkS_inj {a b : List Nat} (h : mkS a = mkS b) : a = b := by
  have := congrArg (fun s : Str => s.cps.toList) h
  simpa [mkS] using this

/-! what a value tells, in a heap -/
def kD : Key → D
  | .inl i => .int i
  | .inr x => .str x.cps.toList
/-! dicts keyed by nested tuples -/
mutual
def nkD : D → Option NestedKey
  | .non => some .none
  | .bl b => some (.num (if b = true then 1 else 0))
  | .int i => some (.num i)
  | .str x => some (.text (mkS x))
  | .tup l => (nkDs l).map .tup
  | _ => none
def nkDs : List D → Option (List NestedKey)
  | [] => some []
  | d :: r => match nkD d, nkDs r with | some k, some q => some (k :: q) | _, _ => none
end
def exN (w : World) (a : Addr) (ep : Nat) (xs : NX) : HO :=
  .ext fun h => ∃ o es, h.get? a = some o ∧ o.ExactDict ∧ o.data = .dict es ep ∧ es.toList = xs.map fun x => (⟨x.1.hash w, .ref x.2.1, x.2.2⟩ : DictEntry)
def NDg (a : Addr) (xs : NX) : Prop := (xs.map (·.1)).Nodup ∧ xs.length ≤ sizeLine ∧ (a == sysModules) = false
/-! exceptions: the address of each class; an exception that was caught -/
class EC where
  ec : Nat → Addr
  pg : Program
  wd : World
variable [EC]
def exH (x C : Addr) (dd : Option Addr) : HO := .ext fun h => ∃ (oe : Obj) (vs : Array Value), h.get? x = some oe ∧ Zc (.ref C) dd oe ∧ oe.data = .fields vs
/-- one whose context is None -/
def exHn (x C : Addr) (dd : Option Addr) : HO := .ext fun h => ∃ (oe : Obj) (vs : Array Value), h.get? x = some oe ∧ Zc (.ref C) dd oe ∧ oe.data = .fields vs ∧ vs[2]? = some .none
abbrev IsExc (G : Hp) (x C : Addr) (dd : Option Addr) : Prop := G x = some (exH x C dd) ∨ G x = some (exHn x C dd)
mutual
def Rep (G : Hp) : D → V → Prop
  | .non, v => v = .non
  | .bl b, v => v = .bl b
  | .int i, v => v = .int i
  | .str x, v => v = .str (mkS x)
  | .tup l, v => ∃ a vs, v = .ref a ∧ G a = some (.tup vs) ∧ l.length ≤ sizeLine ∧ Reps G l vs
  | .lst l, v => ∃ a vs, v = .ref a ∧ Rd G a (.lst vs) ∧ l.length ≤ sizeLine ∧ Reps G l vs
  | .dct false l, v => ∃ a kvs, v = .ref a ∧ Rd G a (.dK kvs) ∧ RepK G l kvs
  | .dct true l, v => ∃ a ep xs, v = .ref a ∧ G a = some (exN EC.wd a ep xs) ∧ NDg a xs ∧ RepX G l xs
  | .opq w, v => ∀ u, w = some u → v = u
  | .exc k l, v => ∃ x dd us, v = .ref x ∧ IsExc G x (EC.ec k) dd ∧ Reps G l us ∧ ((us = [] ∧ dd = none) ∨ ∃ u dx, us = [u] ∧ dd = some dx ∧ G dx = some (.xd [("at", u)]))
  | .fd o kvs l, v => ∃ a, v = .ref a ∧ G a = some (.frz o (.dK kvs)) ∧ RepK G l kvs
  | .fz l, v => ∃ a o kvs, v = .ref a ∧ G a = some (.frz o (.dK kvs)) ∧ RepK G l kvs
def Reps (G : Hp) : List D → List V → Prop
  | [], vs => vs = []
  | d :: ds, vs => ∃ v r, vs = v :: r ∧ Rep G d v ∧ Reps G ds r
def RepK (G : Hp) : List (D × D) → List (Key × V) → Prop
  | [], vs => vs = []
  | (k, d) :: ds, vs => ∃ kk v r, vs = (kk, v) :: r ∧ k = kD kk ∧ Rep G d v ∧ RepK G ds r
def RepX (G : Hp) : List (D × D) → NX → Prop
  | [], xs => xs = []
  | (k, d) :: ds, xs => ∃ kk b u x r, xs = (kk, b, u) :: r ∧ nkD k = some kk ∧ kk.depth ≤ 8 ∧ RelV x u ∧ Rep G k (.ref b) ∧ Rep G d x ∧ RepX G ds r
end
/-! own dicts with keys None, whole numbers and texts -/
def lfD : D → Option Leaf | .non => some .none | .int i => some (.num i) | .str x => some (.text (mkS x)) | _ => none
def lfH (a : Addr) (kvs : List (Leaf × V)) : HO := .ext fun h => ∃ vs, KV kvs vs ∧ h.DictOf (leafKind EC.pg EC.wd) a vs
def RepL (G : Hp) : List (D × D) → List (Leaf × V) → Prop
  | [], vs => vs = []
  | (k, d) :: ds, vs => ∃ kk v r, vs = (kk, v) :: r ∧ lfD k = some kk ∧ Rep G d v ∧ RepL G ds r
theorem Same.rd {G G' : Hp} (s : Same G G') {a : Addr} {o : HO} (h : Rd G a o) : Rd G' a o := by
  rcases h with h | ⟨x, h⟩
  · exact .inl (s _ _ h)
  · exact .inr ⟨x, s _ _ h⟩
mutual
theorem Rep.mono {G G' : Hp} (s : Same G G') : ∀ (d : D) (v : V), Rep G d v → Rep G' d v
  | .non, _, h => h
  | .bl _, _, h => h
  | .int _, _, h => h
  | .str _, _, h => h
  | .opq _, _, h => h
  | .exc k l, _, ⟨x, dd, us, e, r, q, z⟩ => ⟨x, dd, us, e, r.imp (s _ _) (s _ _), Reps.mono s l us q, z.imp id fun ⟨u, dx, a, b, c⟩ => ⟨u, dx, a, b, s _ _ c⟩⟩
  | .fd o kvs l, _, ⟨a, e, r, q⟩ => ⟨a, e, s _ _ r, RepK.mono s l kvs q⟩
  | .fz l, _, ⟨a, o, kvs, e, r, q⟩ => ⟨a, o, kvs, e, s _ _ r, RepK.mono s l kvs q⟩
  | .tup l, _, ⟨a, vs, e, r, z, q⟩ => ⟨a, vs, e, s _ _ r, z, Reps.mono s l vs q⟩
  | .lst l, _, ⟨a, vs, e, r, z, q⟩ => ⟨a, vs, e, Same.rd s r, z, Reps.mono s l vs q⟩
  | .dct false l, _, ⟨a, kvs, e, r, q⟩ => ⟨a, kvs, e, Same.rd s r, RepK.mono s l kvs q⟩
  | .dct true l, _, ⟨a, ep, xs, e, r, g, q⟩ => ⟨a, ep, xs, e, s _ _ r, g, RepX.mono s l xs q⟩
theorem Reps.mono {G G' : Hp} (s : Same G G') : ∀ (l : List D) (vs : List V), Reps G l vs → Reps G' l vs
  | [], _, h => h
  | d :: ds, _, ⟨v, r, e, h, q⟩ => ⟨v, r, e, Rep.mono s d v h, Reps.mono s ds r q⟩
theorem RepK.mono {G G' : Hp} (s : Same G G') : ∀ (l : List (D × D)) (vs : List (Key × V)), RepK G l vs → RepK G' l vs
  | [], _, h => h
  | (k, d) :: ds, _, ⟨kk, v, r, e, ek, h, q⟩ => ⟨kk, v, r, e, ek, Rep.mono s d v h, RepK.mono s ds r q⟩
theorem RepX.mono {G G' : Hp} (s : Same G G') : ∀ (l : List (D × D)) (xs : NX), RepX G l xs → RepX G' l xs
  | [], _, h => h
  | (k, d) :: ds, _, ⟨kk, b, u, x, r, e, ek, dp, rv, hk, h, q⟩ => ⟨kk, b, u, x, r, e, ek, dp, rv, Rep.mono s k _ hk, Rep.mono s d x h, RepX.mono s ds r q⟩
end
theorem Reps.length {G : Hp} : ∀ {l : List D} {vs : List V}, Reps G l vs → l.length = vs.length
  | [], _, h => by cases h; rfl
  | d :: ds, _, ⟨v, r, e, h, q⟩ => by subst e; simp [Reps.length q]
theorem Reps.get {G : Hp} : ∀ {l : List D} {vs : List V} {i : Nat} {d : D}, Reps G l vs → l[i]? = some d → ∃ v, vs[i]? = some v ∧ Rep G d v
  | [], _, _, _, _, e => by simp at e
  | d :: ds, _, 0, x, ⟨v, r, e, h, q⟩, e2 => by subst e; simp at e2; subst e2; exact ⟨v, rfl, h⟩
  | d :: ds, _, i + 1, x, ⟨v, r, e, h, q⟩, e2 => by
    subst e
    obtain ⟨v', a, b⟩ := Reps.get (i := i) q (by simpa using e2)
    exact ⟨v', by simpa using a, b⟩
theorem Reps.of {G : Hp} : ∀ {l : List D} {vs : List V}, l.length = vs.length → (∀ (i : Nat) d v, l[i]? = some d → vs[i]? = some v → Rep G d v) → Reps G l vs
  | [], [], _, _ => rfl
  | [], _ :: _, e, _ => by simp at e
  | _ :: _, [], e, _ => by simp at e
  | d :: ds, v :: vs, e, h => ⟨v, vs, rfl, h 0 d v rfl rfl, Reps.of (by simpa using e) fun i d' v' a b => h (i + 1) d' v' (by simpa using a) (by simpa using b)⟩
theorem Reps.append {G : Hp} : ∀ {l m : List D} {vs ws : List V}, Reps G l vs → Reps G m ws → Reps G (l ++ m) (vs ++ ws)
  | [], _, _, _, h, q => by cases h; exact q
  | d :: ds, _, _, _, ⟨v, r, e, h, q⟩, q2 => by subst e; exact ⟨v, r ++ _, rfl, h, Reps.append q q2⟩
theorem Reps.take {G : Hp} (n : Nat) : ∀ {l : List D} {vs : List V}, Reps G l vs → Reps G (l.take n) (vs.take n) := fun {l vs} h => by
  refine Reps.of (by simp [h.length]) fun i d v a b => ?_
  rw [List.getElem?_take] at a b
  split at a
  · rename_i hi
    rw [if_pos hi] at b
    obtain ⟨v', e, r⟩ := h.get a
    rw [b] at e; cases e; exact r
  · cases a
theorem Reps.drop {G : Hp} (n : Nat) : ∀ {l : List D} {vs : List V}, Reps G l vs → Reps G (l.drop n) (vs.drop n) := fun {l vs} h => by
  refine Reps.of (by simp [h.length]) fun i d v a b => ?_
  rw [List.getElem?_drop] at a b
  obtain ⟨v', e, r⟩ := h.get a
  rw [b] at e; cases e; exact r
theorem Reps.set {G : Hp} {l : List D} {vs : List V} {d : D} {v : V} (i : Nat) (h : Reps G l vs) (r : Rep G d v) : Reps G (l.set i d) (vs.set i v) := by
  refine Reps.of (by simp [h.length]) fun j d' v' a b => ?_
  rw [List.getElem?_set] at a b
  have hl := h.length
  split at a
  · rename_i hj
    split at a
    · rename_i hj2
      rw [if_pos hj, if_pos (by omega)] at b
      cases a; cases b; exact r
    · cases a
  · rename_i hj
    rw [if_neg hj] at b
    obtain ⟨w, e, r'⟩ := h.get a
    rw [b] at e; cases e; exact r'
theorem Reps.dropLast {G : Hp} {l : List D} {vs : List V} (h : Reps G l vs) : Reps G l.dropLast vs.dropLast := by
  rw [List.dropLast_eq_take, List.dropLast_eq_take, h.length]
  exact h.take _
theorem Reps.eraseIdx {G : Hp} {l : List D} {vs : List V} (k : Nat) (h : Reps G l vs) : Reps G (l.eraseIdx k) (vs.eraseIdx k) := by
  rw [List.eraseIdx_eq_take_drop_succ, List.eraseIdx_eq_take_drop_succ]
  exact (h.take k).append (h.drop (k + 1))
theorem Reps.map {G : Hp} {α : Type} (f : α → D) (g : α → V) : ∀ (xs : List α), (∀ x ∈ xs, Rep G (f x) (g x)) → Reps G (xs.map f) (xs.map g)
  | [], _ => rfl
  | x :: r, h => ⟨g x, r.map g, rfl, h x List.mem_cons_self, Reps.map f g r fun y hy => h y (List.mem_cons_of_mem _ hy)⟩

theorem RepK.ofZip {G : Hp} : ∀ (kvs : List (Key × V)) (ds : List D), Reps G ds (kvs.map Prod.snd) → RepK G ((kvs.map fun q => kD q.1).zip ds) kvs
  | [], [], _ => rfl
  | [], d :: ds, ⟨v, r, e, _⟩ => by cases e
  | q :: kvs, [], h => by cases (show _ :: _ = [] from h)
  | (k, v0) :: kvs, d :: ds, ⟨v, r, e, h, h2⟩ => by
    injection e with e1 e2
    subst e1; subst e2
    exact ⟨k, v0, kvs, rfl, rfl, h, RepK.ofZip kvs ds h2⟩
/-! owned things -/
mutual
def Own (G H : Hp) (ω : Addr → Option Lab) : Lab → T → V → Prop
  | _, .f d, v => Rep G d v
  | p, .l ds, v => ∃ a vs, v = .ref a ∧ H a = some (.lst vs) ∧ ω a = some p ∧ ds.length ≤ sizeLine ∧ Reps G ds vs
  | p, .ll ts, v => ∃ a vs, v = .ref a ∧ H a = some (.lst vs) ∧ ω a = some p ∧ ts.length ≤ sizeLine ∧ Owns G H ω p 0 ts vs
  | p, .tt ts, v => ∃ a vs, v = .ref a ∧ H a = some (.tup vs) ∧ ω a = some p ∧ ts.length ≤ sizeLine ∧ Owns G H ω p 0 ts vs
  | p, .dc false l, v => ∃ a kvs, v = .ref a ∧ ω a = some p ∧ H a = some (.dK kvs) ∧ RepK G l kvs
  | p, .dc true l, v => ∃ a ep xs, v = .ref a ∧ ω a = some p ∧ H a = some (exN EC.wd a ep xs) ∧ NDg a xs ∧ RepX G l xs
  | _, .nx ep xs l, v => ∃ a, v = .ref a ∧ G a = some (exN EC.wd a ep xs) ∧ NDg a xs ∧ RepX G l xs
  | p, .no ep xs l, v => ∃ a, v = .ref a ∧ ω a = some p ∧ H a = some (exN EC.wd a ep xs) ∧ NDg a xs ∧ RepX G l xs
  | p, .dl ks ts, v => ∃ a kvs, v = .ref a ∧ ω a = some p ∧ H a = some (.dK kvs) ∧ ks = (kvs.map fun q => kD q.1) ∧ Owns G H ω p 0 ts (kvs.map Prod.snd)
  | p, .ob k ks ts, v => ∃ a dx fs, v = .ref a ∧ ω a = some p ∧ H a = some (.ins (EC.ec k) dx fs) ∧ ks = (fs.map Prod.fst) ∧ Owns G H ω p 0 ts (fs.map Prod.snd)
  | p, .lf l, v => ∃ a kvs, v = .ref a ∧ ω a = some p ∧ H a = some (lfH a kvs) ∧ ((a == sysModules) = false ∧ kvs.length ≤ sizeLine) ∧ RepL G l kvs
  | _, .hole w, v => v = w
def Owns (G H : Hp) (ω : Addr → Option Lab) : Lab → Nat → List T → List V → Prop
  | _, _, [], vs => vs = []
  | p, i, t :: ts, vs => ∃ v r, vs = v :: r ∧ Own G H ω (p ++ [i]) t v ∧ Owns G H ω p (i + 1) ts r
end
theorem RepL.mono {G G' : Hp} (s : Same G G') : ∀ (l : List (D × D)) (vs : List (Leaf × V)), RepL G l vs → RepL G' l vs
  | [], _, h => h
  | (k, d) :: ds, _, ⟨kk, v, r, e, ek, h, q⟩ => ⟨kk, v, r, e, ek, Rep.mono s d v h, RepL.mono s ds r q⟩
mutual
theorem Own.move {G G' H H' : Hp} {ω ω' : Addr → Option Lab} (s : Same G G') : ∀ (p q : Lab) (t : T) (v : V), (∀ a x, ω a = some (p ++ x) → H' a = H a ∧ ω' a = some (q ++ x)) → Own G H ω p t v → Own G' H' ω' q t v
  | _, _, .f d, v, _, h => Rep.mono s d v h
  | p, q, .l ds, v, m, ⟨a, vs, e, h, w, z, r⟩ => by
    obtain ⟨m1, m2⟩ := m a [] (by rw [List.append_nil]; exact w)
    rw [List.append_nil] at m2
    exact ⟨a, vs, e, m1.trans h, m2, z, Reps.mono s ds vs r⟩
  | p, q, .ll ts, v, m, ⟨a, vs, e, h, w, z, r⟩ => by
    obtain ⟨m1, m2⟩ := m a [] (by rw [List.append_nil]; exact w)
    rw [List.append_nil] at m2
    exact ⟨a, vs, e, m1.trans h, m2, z, Owns.move s p q 0 ts vs m r⟩
  | p, q, .tt ts, v, m, ⟨a, vs, e, h, w, z, r⟩ => by
    obtain ⟨m1, m2⟩ := m a [] (by rw [List.append_nil]; exact w)
    rw [List.append_nil] at m2
    exact ⟨a, vs, e, m1.trans h, m2, z, Owns.move s p q 0 ts vs m r⟩
  | p, q, .dc false l, v, m, ⟨a, kvs, e, w, h, r⟩ => by
    obtain ⟨m1, m2⟩ := m a [] (by rw [List.append_nil]; exact w)
    rw [List.append_nil] at m2
    exact ⟨a, kvs, e, m2, m1.trans h, RepK.mono s l kvs r⟩
  | p, q, .dc true l, v, m, ⟨a, ep, xs, e, w, h, g, r⟩ => by
    obtain ⟨m1, m2⟩ := m a [] (by rw [List.append_nil]; exact w)
    rw [List.append_nil] at m2
    exact ⟨a, ep, xs, e, m2, m1.trans h, g, RepX.mono s l xs r⟩
  | p, q, .nx ep xs l, v, m, ⟨a, e, h, g, r⟩ => ⟨a, e, s _ _ h, g, RepX.mono s l xs r⟩
  | p, q, .lf l, v, m, ⟨a, kvs, e, w, h, g, r⟩ => by
    obtain ⟨m1, m2⟩ := m a [] (by rw [List.append_nil]; exact w)
    rw [List.append_nil] at m2
    exact ⟨a, kvs, e, m2, m1.trans h, g, RepL.mono s l kvs r⟩
  | p, q, .no ep xs l, v, m, ⟨a, e, w, h, g, r⟩ => by
    obtain ⟨m1, m2⟩ := m a [] (by rw [List.append_nil]; exact w)
    rw [List.append_nil] at m2
    exact ⟨a, e, m2, m1.trans h, g, RepX.mono s l xs r⟩
  | p, q, .dl ks ts, v, m, ⟨a, kvs, e, w, h, ek, r⟩ => by
    obtain ⟨m1, m2⟩ := m a [] (by rw [List.append_nil]; exact w)
    rw [List.append_nil] at m2
    exact ⟨a, kvs, e, m2, m1.trans h, ek, Owns.move s p q 0 ts _ m r⟩
  | p, q, .ob k ks ts, v, m, ⟨a, dx, fs, e, w, h, ek, r⟩ => by
    obtain ⟨m1, m2⟩ := m a [] (by rw [List.append_nil]; exact w)
    rw [List.append_nil] at m2
    exact ⟨a, dx, fs, e, m2, m1.trans h, ek, Owns.move s p q 0 ts _ m r⟩
  | _, _, .hole _, _, _, h => h
theorem Owns.move {G G' H H' : Hp} {ω ω' : Addr → Option Lab} (s : Same G G') : ∀ (p q : Lab) (i : Nat) (ts : List T) (vs : List V), (∀ a x, ω a = some (p ++ x) → H' a = H a ∧ ω' a = some (q ++ x)) → Owns G H ω p i ts vs → Owns G' H' ω' q i ts vs
  | _, _, _, [], _, _, h => h
  | p, q, i, t :: ts, _, m, ⟨v, r, e, h, k⟩ => ⟨v, r, e, Own.move s (p ++ [i]) (q ++ [i]) t v (fun a x e => by
      rw [List.append_assoc] at e ⊢
      exact m a _ e) h, Owns.move s p q (i + 1) ts r m k⟩
end
mutual
def T.er : T → D
  | .f x => x
  | .l ds => .lst ds
  | .ll ts => .lst (T.ers ts)
  | .tt ts => .tup (T.ers ts)
  | .dc k kvs => .dct k kvs
  | .dl ks ts => .dct false (ks.zip (T.ers ts))
  | .nx _ _ kvs => .dct true kvs
  | .no _ _ kvs => .dct true kvs
  | .ob _ _ _ => .opq none
  | .lf _ => .opq none
  | .hole w => .opq (some w)
def T.ers : List T → List D
  | [] => []
  | t :: ts => T.er t :: T.ers ts
end
theorem ers_eq : ∀ ts : List T, T.ers ts = ts.map T.er
  | [] => rfl
  | t :: ts => by rw [List.map_cons, ← ers_eq ts]; rfl
theorem ers_len (ts : List T) : (T.ers ts).length = ts.length := by rw [ers_eq, List.length_map]
/-! what is told, in a heap that has both -/
mutual
theorem Own.rep {G G' H : Hp} {ω : Addr → Option Lab} (s : Same G G') : ∀ (p : Lab) (t : T) (v : V), (∀ a x, ω a = some (p ++ x) → ∀ o, H a = some o → G' a = some o) → Own G H ω p t v → Rep G' t.er v
  | _, .f d, v, _, h => Rep.mono s d v h
  | p, .l ds, v, m, ⟨a, vs, e, h, w, z, r⟩ => ⟨a, vs, e, .inl (m a [] (by rw [List.append_nil]; exact w) _ h), z, Reps.mono s ds vs r⟩
  | p, .ll ts, v, m, ⟨a, vs, e, h, w, z, r⟩ => ⟨a, vs, e, .inl (m a [] (by rw [List.append_nil]; exact w) _ h), (Nat.le_trans (Nat.le_of_eq (ers_len ts)) z), Owns.rep s p 0 ts vs m r⟩
  | p, .tt ts, v, m, ⟨a, vs, e, h, w, z, r⟩ => ⟨a, vs, e, m a [] (by rw [List.append_nil]; exact w) _ h, (Nat.le_trans (Nat.le_of_eq (ers_len ts)) z), Owns.rep s p 0 ts vs m r⟩
  | p, .dc false l, v, m, ⟨a, kvs, e, w, h, r⟩ => ⟨a, kvs, e, .inl (m a [] (by rw [List.append_nil]; exact w) _ h), RepK.mono s l kvs r⟩
  | p, .dc true l, v, m, ⟨a, ep, xs, e, w, h, g, r⟩ => ⟨a, ep, xs, e, m a [] (by rw [List.append_nil]; exact w) _ h, g, RepX.mono s l xs r⟩
  | p, .nx ep xs l, v, m, ⟨a, e, h, g, r⟩ => ⟨a, ep, xs, e, s _ _ h, g, RepX.mono s l xs r⟩
  | p, .no ep xs l, v, m, ⟨a, e, w, h, g, r⟩ => ⟨a, ep, xs, e, m a [] (by rw [List.append_nil]; exact w) _ h, g, RepX.mono s l xs r⟩
  | p, .dl ks ts, v, m, ⟨a, kvs, e, w, h, ek, r⟩ => ⟨a, kvs, e, .inl (m a [] (by rw [List.append_nil]; exact w) _ h), by rw [ek]; exact RepK.ofZip kvs _ (Owns.rep s p 0 ts _ m r)⟩
  | p, .ob k ks ts, v, m, _ => fun u e => by cases e
  | p, .lf l, v, m, _ => fun u e => by cases e
  | _, .hole w, v, _, h => fun u e => by cases e; exact h
theorem Owns.rep {G G' H : Hp} {ω : Addr → Option Lab} (s : Same G G') : ∀ (p : Lab) (i : Nat) (ts : List T) (vs : List V), (∀ a x, ω a = some (p ++ x) → ∀ o, H a = some o → G' a = some o) → Owns G H ω p i ts vs → Reps G' (T.ers ts) vs
  | _, _, [], _, _, h => h
  | p, i, t :: ts, _, m, ⟨v, r, e, h, k⟩ => ⟨v, r, e, Own.rep s (p ++ [i]) t v (fun a x e => by
      rw [List.append_assoc] at e
      exact m a _ e) h, Owns.rep s p (i + 1) ts r m k⟩
end
end VL

namespace VL
open PySem L2
variable [EC]

/-- a def's frame: what stood at its entry -/
structure Fc where
  K : PySem.W.Frag
  G0 : Hp
  H0 : Hp
  w0 : Addr → Option Lab
  E : XK
  ec : Nat → Addr
  pv : Nat → Option V
inductive TM where
  | own (t : T) | ali (i : Nat)
abbrev State := List (Option T)
abbrev Tmp := List (V × TM)
def TmOk (G H : Hp) (ω : Addr → Option Lab) (σ : St) (p : Lab) : TM → V → Prop
  | .own t, v => Own G H ω p t v
  | .ali i, v => σ[i]? = some (some v)
def Tms (G H : Hp) (ω : Addr → Option Lab) (σ : St) : Tmp → Prop
  | [] => True
  | x :: r => TmOk G H ω σ [1, r.length] x.2 x.1 ∧ Tms G H ω σ r
structure Hd (F : Fc) (G : Hp) (ω : Addr → Option Lab) (tmp : Tmp) (s : State) (σ : St) (H : Hp) : Prop where
  g0 : Same F.G0 G
  gH : Same G H
  gn : ∀ a o, G a = some o → F.G0 a = some o ∨ F.H0 a = none ∨ (F.w0 a).isSome = true
  fr : ∀ a o, F.H0 a = some o → F.w0 a = none → H a = some o
  ex : ∀ a o, F.H0 a = some o → ∃ o', H a = some o'
  wg : ∀ a p, ω a = some p → G a = none ∧ (∃ o, H a = some o) ∧ (F.H0 a = none ∨ (F.w0 a).isSome = true)
  len : σ.length = s.length
  sl : ∀ i t, s[i]? = some (some t) → ∃ v, σ[i]? = some (some v) ∧ Own G H ω [0, i] t v
  tm : Tms G H ω σ tmp
  pn : ∀ k v, F.pv k = some v → σ[k]? = some (some v)
def Holds (F : Fc) (tmp : Tmp) (s : State) (σ : St) (H : Hp) : Prop := ∃ G ω, Hd F G ω tmp s σ H

/-- temporaries stay where their labels' objects stay -/
theorem Tms.move {G G' H H' : Hp} {ω ω' : Addr → Option Lab} {σ : St} (s : Same G G') : ∀ (tmp : Tmp), (∀ j a x, j < tmp.length → ω a = some ([1, j] ++ x) → H' a = H a ∧ ω' a = some ([1, j] ++ x)) →
    Tms G H ω σ tmp → Tms G' H' ω' σ tmp
  | [], _, _ => trivial
  | x :: r, m, ⟨a, b⟩ => by
    refine ⟨?_, Tms.move s r (fun j a x hj e => m j a x (Nat.lt_succ_of_lt hj) e) b⟩
    obtain ⟨v, tm⟩ := x
    cases tm with
    | own t => exact Own.move s _ _ t v (fun a x e => m _ a x (Nat.lt_succ_self _) e) a
    | ali i => exact a
section
variable {F : Fc} {G H H' : Hp} {ω : Addr → Option Lab} {tmp : Tmp} {s : State} {σ : St} {v : V} {t : T} {d : D}
theorem Hd.new (h : Hd F G ω tmp s σ H) {p : Addr} (n : H p = none) : F.H0 p = none := by
  cases e : F.H0 p with
  | none => rfl
  | some o =>
    obtain ⟨o', e'⟩ := h.ex p o e
    rw [n] at e'; cases e'
theorem Hd.gfree (h : Hd F G ω tmp s σ H) {p : Addr} (n : H p = none) : G p = none := by
  cases e : G p with
  | none => rfl
  | some o => rw [h.gH p o e] at n; cases n
theorem Hd.pop (h : Hd F G ω (x :: tmp) s σ H) : Hd F G ω tmp s σ H := { h with tm := h.tm.2 }
theorem Holds.pop {x : V × TM} (h : Holds F (x :: tmp) s σ H) : Holds F tmp s σ H := let ⟨G, ω, q⟩ := h; ⟨G, ω, q.pop⟩
theorem Holds.len (h : Holds F tmp s σ H) : σ.length = s.length := let ⟨_, _, q⟩ := h; q.len
/-- a frozen temporary on top -/
theorem Hd.pushF (h : Hd F G ω tmp s σ H) (r : Rep G d v) : Hd F G ω ((v, .own (.f d)) :: tmp) s σ H := { h with tm := ⟨r, h.tm⟩ }
theorem Hd.topF (h : Hd F G ω ((v, .own (.f d)) :: tmp) s σ H) : Rep G d v := h.tm.1
theorem upd_keep {p a : Addr} {o u : HO} (n : H p = none) (e : H a = some o) : upd H p u a = some o := by rw [upd_ne (ne_of_none e n)]; exact e
/-- a new object, frozen -/
theorem Hd.newG (h : Hd F G ω tmp s σ H) {p : Addr} {o : HO} (n : H p = none) : Hd F (upd G p o) ω tmp s σ (upd H p o) := by
  have gn := h.gfree n
  have sG : Same G (upd G p o) := fun a u e => upd_keep gn e
  have keep : ∀ a q, ω a = some q → upd H p o a = H a := fun a q e => by
    obtain ⟨_, ⟨u, e'⟩, _⟩ := h.wg a q e
    exact upd_ne (ne_of_none e' n)
  refine ⟨h.g0.trans sG, fun a u e => ?_, fun a u e => ?_, fun a u e w => upd_keep n (h.fr a u e w), fun a u e => ?_, fun a q e => ?_, h.len, fun i t e => ?_, Tms.move sG tmp (fun j a x _ e => ⟨keep a _ e, e⟩) h.tm, h.pn⟩
  · by_cases ha : a = p
    · subst ha; rw [upd_same] at e ⊢; exact e
    · rw [upd_ne ha] at e ⊢; exact h.gH a u e
  · by_cases ha : a = p
    · subst ha; exact .inr (.inl (h.new n))
    · rw [upd_ne ha] at e; exact h.gn a u e
  · obtain ⟨o', e'⟩ := h.ex a u e
    exact ⟨o', upd_keep n e'⟩
  · obtain ⟨q1, ⟨u, q2⟩, q3⟩ := h.wg a q e
    refine ⟨?_, ⟨u, upd_keep n q2⟩, q3⟩
    rw [upd_ne (ne_of_none q2 n)]; exact q1
  · obtain ⟨v, e1, e2⟩ := h.sl i t e
    exact ⟨v, e1, Own.move sG _ _ t v (fun a x e => ⟨keep a _ e, e⟩) e2⟩
/-- a new object, owned by a new temporary -/
theorem Hd.newO (h : Hd F G ω tmp s σ H) {p : Addr} {o : HO} (n : H p = none) (q : Own G (upd H p o) (fun a => if a = p then some [1, tmp.length] else ω a) [1, tmp.length] t (.ref p)) :
    Hd F G (fun a => if a = p then some [1, tmp.length] else ω a) ((.ref p, .own t) :: tmp) s σ (upd H p o) := by
  have keep : ∀ a q, ω a = some q → upd H p o a = H a ∧ (if a = p then some [1, tmp.length] else ω a) = some q := fun a q e => by
    obtain ⟨_, ⟨u, e'⟩, _⟩ := h.wg a q e
    have ne := ne_of_none e' n
    exact ⟨upd_ne ne, by rw [if_neg ne]; exact e⟩
  refine ⟨h.g0, fun a u e => upd_keep n (h.gH a u e), h.gn, fun a u e w => upd_keep n (h.fr a u e w), fun a u e => ?_, fun a q e => ?_, h.len, fun i t e => ?_, ⟨q, Tms.move (Same.refl _) tmp (fun j a x _ e => keep a _ e) h.tm⟩, h.pn⟩
  · obtain ⟨o', e'⟩ := h.ex a u e
    exact ⟨o', upd_keep n e'⟩
  · by_cases ha : a = p
    · subst ha; exact ⟨h.gfree n, ⟨o, upd_same⟩, .inl (h.new n)⟩
    · simp only [if_neg ha] at e
      obtain ⟨q1, ⟨u, q2⟩, q3⟩ := h.wg a q e
      exact ⟨q1, ⟨u, upd_keep n q2⟩, q3⟩
  · obtain ⟨v, e1, e2⟩ := h.sl i t e
    exact ⟨v, e1, Own.move (Same.refl _) _ _ t v (fun a x e => keep a _ e) e2⟩
theorem Hd.newL (h : Hd F G ω tmp s σ H) {p : Addr} {ds : List D} {vs : List V} (n : H p = none) (z : ds.length ≤ sizeLine) (r : Reps G ds vs) : Holds F ((.ref p, .own (.l ds)) :: tmp) s σ (upd H p (.lst vs)) :=
  ⟨G, _, h.newO n ⟨p, vs, rfl, upd_same, by simp, z, r⟩⟩
theorem Hd.newT (h : Hd F G ω tmp s σ H) {p : Addr} {ds : List D} {vs : List V} (n : H p = none) (z : ds.length ≤ sizeLine) (r : Reps G ds vs) : Holds F ((.ref p, .own (.f (.tup ds))) :: tmp) s σ (upd H p (.tup vs)) :=
  ⟨_, ω, (h.newG n).pushF ⟨p, vs, rfl, upd_same, z, Reps.mono (fun a u e => upd_keep (h.gfree n) e) _ _ r⟩⟩

/-! freezing -/
def pre : Lab → Lab → Bool
  | [], _ => true
  | _ :: _, [] => false
  | a :: p, b :: q => a == b && pre p q
theorem pre_app : ∀ (p x : Lab), pre p (p ++ x) = true
  | [], _ => rfl
  | a :: p, x => by simp [pre, pre_app p x]
/-- label p is frozen -/
def frzG (G H : Hp) (ω : Addr → Option Lab) (p : Lab) : Hp := fun a => match ω a with
  | some q => if pre p q = true then H a else G a
  | none => G a
def frzW (ω : Addr → Option Lab) (p : Lab) : Addr → Option Lab := fun a => match ω a with
  | some q => if pre p q = true then none else some q
  | none => none
theorem frzW_some {p q : Lab} {a : Addr} (e : frzW ω p a = some q) : ω a = some q ∧ pre p q = false := by
  unfold frzW at e
  split at e
  · rename_i r hr
    split at e
    · cases e
    · cases e; rename_i hn; exact ⟨hr, Bool.eq_false_iff.mpr hn⟩
  · cases e
theorem frzW_of {p q : Lab} {a : Addr} (e : ω a = some q) (n : pre p q = false) : frzW ω p a = some q := by
  unfold frzW; rw [e]; simp [n]
theorem frzG_same (h : Hd F G ω tmp s σ H) (p : Lab) : Same G (frzG G H ω p) := fun a o e => by
  unfold frzG
  split
  · rename_i q hq
    have := (h.wg a q hq).1
    rw [e] at this; cases this
  · exact e
theorem frzG_in {p q : Lab} {a : Addr} (e : ω a = some q) (n : pre p q = true) : frzG G H ω p a = H a := by
  unfold frzG; rw [e]; simp [n]
/-- everything but the slots and temporaries -/
theorem Hd.frz (h : Hd F G ω tmp s σ H) (p : Lab) (s' : State) (σ' : St) (tmp' : Tmp) (hl : σ'.length = s'.length)
    (hs : ∀ i t, s'[i]? = some (some t) → ∃ v, σ'[i]? = some (some v) ∧ Own (frzG G H ω p) H (frzW ω p) [0, i] t v) (ht : Tms (frzG G H ω p) H (frzW ω p) σ' tmp') (hp : ∀ k v, F.pv k = some v → σ'[k]? = some (some v)) : Hd F (frzG G H ω p) (frzW ω p) tmp' s' σ' H := by
  have sG := frzG_same h p
  refine ⟨h.g0.trans sG, fun a o e => ?_, fun a o e => ?_, h.fr, h.ex, fun a q e => ?_, hl, hs, ht, hp⟩
  · unfold frzG at e
    split at e
    · split at e
      · exact e
      · exact h.gH a o e
    · exact h.gH a o e
  · unfold frzG at e
    split at e
    · rename_i q hq
      split at e
      · exact .inr (h.wg a q hq).2.2
      · exact h.gn a o e
    · exact h.gn a o e
  · obtain ⟨e1, e2⟩ := frzW_some e
    obtain ⟨q1, q2, q3⟩ := h.wg a q e1
    refine ⟨?_, q2, q3⟩
    unfold frzG; rw [e1]; simp [e2, q1]
theorem Own.frzOther {p q : Lab} (sG : Same G (frzG G H ω p)) (hpq : ∀ x, pre p (q ++ x) = false) (h : Own G H ω q t v) : Own (frzG G H ω p) H (frzW ω p) q t v :=
  Own.move sG q q t v (fun a x e => ⟨rfl, frzW_of e (hpq x)⟩) h
theorem Own.frzRep {p : Lab} (sG : Same G (frzG G H ω p)) (h : Own G H ω p t v) : Rep (frzG G H ω p) t.er v :=
  Own.rep sG p t v (fun a x e o ho => by rw [frzG_in e (pre_app p x)]; exact ho) h
theorem Tms.frzOther {p : Lab} (sG : Same G (frzG G H ω p)) (tmp : Tmp) (hp : ∀ j x, j < tmp.length → pre p ([1, j] ++ x) = false) (h : Tms G H ω σ tmp) : Tms (frzG G H ω p) H (frzW ω p) σ tmp :=
  Tms.move sG tmp (fun j a x hj e => ⟨rfl, frzW_of e (hp j x hj)⟩) h
/-- the top temporary is frozen -/
theorem Holds.frzTop (h : Holds F ((v, .own t) :: tmp) s σ H) : Holds F ((v, .own (.f t.er)) :: tmp) s σ H := by
  obtain ⟨G, ω, h⟩ := h
  have sG := frzG_same h [1, tmp.length]
  refine ⟨_, _, h.frz [1, tmp.length] s σ _ h.len (fun i u e => ?_) ⟨Own.frzRep sG h.tm.1, Tms.frzOther sG tmp (fun j x hj => ?_) h.tm.2⟩ h.pn⟩
  · obtain ⟨v', e1, e2⟩ := h.sl i u e
    exact ⟨v', e1, Own.frzOther sG (fun x => by simp [pre]) e2⟩
  · have : tmp.length ≠ j := by omega
    simp [pre, this]
/-- a slot is frozen -/
theorem Holds.frzSlot (h : Holds F tmp s σ H) {i : Nat} (hi : s[i]? = some (some t)) : Holds F tmp (s.set i (some (.f t.er))) σ H := by
  obtain ⟨G, ω, h⟩ := h
  have sG := frzG_same h [0, i]
  refine ⟨_, _, h.frz [0, i] _ σ _ (by simp [h.len]) (fun j u e => ?_) (Tms.frzOther sG tmp (fun j x hj => by simp [pre]) h.tm) h.pn⟩
  rw [List.getElem?_set] at e
  split at e
  · rename_i hj
    subst hj
    split at e
    · cases e
      obtain ⟨v', e1, e2⟩ := h.sl i t hi
      exact ⟨v', e1, Own.frzRep sG e2⟩
    · cases e
  · rename_i hj
    obtain ⟨v', e1, e2⟩ := h.sl j u e
    exact ⟨v', e1, Own.frzOther sG (fun x => by simp [pre, hj]) e2⟩
end
end VL

namespace VL
open PySem L2
variable [EC]

/-! relabelling, storing -/
def rl (ω : Addr → Option Lab) (φ : Lab → Option Lab) : Addr → Option Lab := fun a => (ω a).bind φ
theorem rl_some {ω : Addr → Option Lab} {φ : Lab → Option Lab} {a : Addr} {q : Lab} (h : rl ω φ a = some q) : ∃ p, ω a = some p ∧ φ p = some q := by
  unfold rl at h
  cases e : ω a with
  | none => rw [e] at h; cases h
  | some p => rw [e] at h; exact ⟨p, rfl, h⟩
theorem rl_of {ω : Addr → Option Lab} {φ : Lab → Option Lab} {a : Addr} {p q : Lab} (h : ω a = some p) (h2 : φ p = some q) : rl ω φ a = some q := by
  unfold rl; rw [h]; exact h2
section
variable {F : Fc} {G H H' : Hp} {ω : Addr → Option Lab} {tmp : Tmp} {s : State} {σ : St} {v : V} {t : T} {d : D}
theorem Hd.rl (h : Hd F G ω tmp s σ H) (φ : Lab → Option Lab) (s' : State) (σ' : St) (tmp' : Tmp) (hl : σ'.length = s'.length)
    (hs : ∀ i t, s'[i]? = some (some t) → ∃ v, σ'[i]? = some (some v) ∧ Own G H (VL.rl ω φ) [0, i] t v) (ht : Tms G H (VL.rl ω φ) σ' tmp') (hp : ∀ k v, F.pv k = some v → σ'[k]? = some (some v)) : Hd F G (VL.rl ω φ) tmp' s' σ' H :=
  ⟨h.g0, h.gH, h.gn, h.fr, h.ex, fun a q e => by
    obtain ⟨p, e1, _⟩ := rl_some e
    exact h.wg a p e1, hl, hs, ht, hp⟩
theorem Own.rl {φ : Lab → Option Lab} {p q : Lab} (h : Own G H ω p t v) (e : ∀ x, φ (p ++ x) = some (q ++ x)) : Own G H (VL.rl ω φ) q t v :=
  Own.move (Same.refl G) p q t v (fun a x w => ⟨rfl, rl_of w (e x)⟩) h
theorem Tms.rl {φ : Lab → Option Lab} (tmp : Tmp) (e : ∀ j x, j < tmp.length → φ ([1, j] ++ x) = some ([1, j] ++ x)) (h : Tms G H ω σ tmp) : Tms G H (VL.rl ω φ) σ tmp :=
  Tms.move (Same.refl G) tmp (fun j a x hj w => ⟨rfl, rl_of w (e j x hj)⟩) h
/-- no temporary speaks of slot i -/
def noAli (i : Nat) : Tmp → Bool
  | [] => true
  | (_, .own _) :: r => noAli i r
  | (_, .ali j) :: r => (j != i) && noAli i r
theorem Tms.slots {σ' : St} : ∀ (tmp : Tmp), (∀ i, noAli i tmp = false → σ'[i]? = σ[i]?) → Tms G H ω σ tmp → Tms G H ω σ' tmp
  | [], _, _ => trivial
  | (v, .own t) :: r, m, ⟨a, b⟩ => ⟨a, Tms.slots r (fun i h => m i h) b⟩
  | (v, .ali j) :: r, m, ⟨a, b⟩ => ⟨(m j (by simp [noAli])).trans a, Tms.slots r (fun i h => m i (by simp [noAli, h])) b⟩
def phiSt (n i : Nat) : Lab → Option Lab
  | 1 :: j :: x => if j = n then some (0 :: i :: x) else some (1 :: j :: x)
  | 0 :: j :: x => if j = i then none else some (0 :: j :: x)
  | l => some l
/-- the top temporary goes into slot i -/
theorem Holds.store (h : Holds F ((v, .own t) :: tmp) s σ H) {i : Nat} (hi : i < s.length) (na : noAli i tmp = true) (hp : F.pv i = none) : Holds F tmp (s.set i (some t)) (σ.set i (some v)) H := by
  obtain ⟨G, ω, h⟩ := h
  refine ⟨G, _, h.rl (phiSt tmp.length i) _ _ _ (by simp [h.len]) (fun j u e => ?_) ?_ fun k u e => ?_⟩
  · rw [List.getElem?_set] at e
    by_cases hj : i = j
    · subst hj
      rw [if_pos rfl, if_pos hi] at e
      cases e
      refine ⟨v, by rw [List.getElem?_set_self (by rw [h.len]; exact hi)], Own.rl h.tm.1 fun x => by simp [phiSt]⟩
    · rw [if_neg hj] at e
      obtain ⟨v', e1, e2⟩ := h.sl j u e
      have hj' : ¬ j = i := fun z => hj z.symm
      exact ⟨v', by rw [List.getElem?_set_ne hj]; exact e1, Own.rl e2 fun x => by simp [phiSt, hj']⟩
  · refine Tms.slots tmp (fun j hj => ?_) (Tms.rl tmp (fun j x hj => ?_) h.tm.2)
    · have : i ≠ j := fun e => by subst e; rw [na] at hj; cases hj
      rw [List.getElem?_set_ne this]
    · have : ¬ j = tmp.length := by omega
      simp [phiSt, this]
  · have : i ≠ k := fun z => by subst z; rw [hp] at e; cases e
    rw [List.getElem?_set_ne this]
    exact h.pn k u e
/-- less is known -/
def Sub : State → State → Prop
  | [], [] => True
  | a :: r, b :: q => (b = none ∨ a = b) ∧ Sub r q
  | _, _ => False
theorem Sub.refl : ∀ s : State, Sub s s
  | [] => trivial
  | _ :: r => ⟨.inr rfl, Sub.refl r⟩
theorem Sub.len : ∀ {s q : State}, Sub s q → s.length = q.length
  | [], [], _ => rfl
  | _ :: r, _ :: q, h => by simp [Sub.len h.2]
theorem Sub.get : ∀ {s q : State} {i : Nat} {t : T}, Sub s q → q[i]? = some (some t) → s[i]? = some (some t)
  | [], [], _, _, _, e => by simp at e
  | a :: r, b :: q, 0, t, ⟨h, _⟩, e => by
    simp at e
    rcases h with h | h
    · rw [h] at e; cases e
    · simp [h, e]
  | a :: r, b :: q, i + 1, t, ⟨_, h⟩, e => by
    have := Sub.get (i := i) h (by simpa using e)
    simpa using this
theorem Holds.sub (h : Holds F tmp s σ H) {s' : State} (q : Sub s s') : Holds F tmp s' σ H :=
  let ⟨G, ω, h⟩ := h
  ⟨G, ω, { h with len := h.len.trans q.len, sl := fun i t e => h.sl i t (q.get e) }⟩
def phiRet (n : Nat) : Lab → Option Lab
  | 1 :: j :: x => if j = n then some (1 :: 0 :: x) else none
  | l => some l
/-- the top temporary alone -/
theorem Holds.alone (h : Holds F ((v, .own t) :: tmp) s σ H) : Holds F [(v, .own t)] s σ H := by
  obtain ⟨G, ω, h⟩ := h
  refine ⟨G, _, h.rl (phiRet tmp.length) s σ _ h.len (fun j u e => ?_) ⟨?_, trivial⟩ h.pn⟩
  · obtain ⟨v', e1, e2⟩ := h.sl j u e
    exact ⟨v', e1, Own.rl e2 fun x => by simp [phiRet]⟩
  · exact Own.rl h.tm.1 fun x => by simp [phiRet]
end

/-! the readings -/
def ErrP (F : Fc) (e : Ex) (od : Option Addr) (H' : Hp) : Prop :=
  ∃ G', Same F.G0 G' ∧ Same G' H' ∧ (∀ a o, G' a = some o → F.G0 a = some o ∨ F.H0 a = none ∨ (F.w0 a).isSome = true) ∧ (∀ a o, F.H0 a = some o → F.w0 a = none → H' a = some o) ∧
    (∀ a o, F.H0 a = some o → ∃ o', H' a = some o') ∧
    (match e.a with | none => od = none | some d => ∃ dx v, od = some dx ∧ F.H0 dx = none ∧ G' dx = some (.xd [("at", v)]) ∧ Rep G' d v)
def EOk {R : Type} (F : Fc) (m : Res R) : Prop := ∀ e, m = .err e → ∀ od H', ErrP F e od H' → F.E (.ref (F.ec e.k)) od H'
theorem EOk.of {R S : Type} {F : Fc} {m : Res R} {m' : Res S} (h : EOk F m) (q : ∀ e, m' = .err e → m = .err e) : EOk F m' := fun e he => h e (q e he)
abbrev Rs (R : Type) := TM → State → Res R → Prop
def RD {R : Type} (F : Fc) (tmp : Tmp) (s : State) (t : TE) (m : Res R) (K : Rs R) : Prop :=
  ∀ σ H Q, Holds F tmp s σ H → m ≠ .fail → EOk F m → (∀ tm s' v H', K tm s' m → Holds F ((v, tm) :: tmp) s' σ H' → Q v H') → t σ H Q
end VL

namespace VL
open PySem L2
variable [EC]

def pushes : List V → List TM → Tmp → Tmp
  | v :: vs, t :: ts, tmp => pushes vs ts ((v, t) :: tmp)
  | _, _, tmp => tmp
abbrev Rn (R : Type) := State → Res R → Prop
abbrev Rr (R : Type) := T → State → Res R → Prop
section
variable {R : Type} (F : Fc) (tmp : Tmp) (s : State) (m : Res R)
def RT (t : TT) (K : Bool → State → Res R → Prop) : Prop :=
  ∀ σ H Q, Holds F tmp s σ H → m ≠ .fail → EOk F m → (∀ b s' H', K b s' m → Holds F tmp s' σ H' → Q b H') → t σ H Q
def RA (t : TA) (K : List TM → State → Res R → Prop) : Prop :=
  ∀ σ H Q, Holds F tmp s σ H → m ≠ .fail → EOk F m → (∀ tms s' vs H', K tms s' m → vs.length = tms.length → Holds F (pushes vs tms tmp) s' σ H' → Q vs H') → t σ H Q
def RS (t : TS) (N : Rn R) (Rt : Rr R) : Prop :=
  ∀ σ H D, Holds F tmp s σ H → m ≠ .fail → EOk F m → (∀ s' σ' H', N s' m → Holds F tmp s' σ' H' → D.nx σ' H') → (∀ t s' v σ' H', Rt t s' m → Holds F [(v, .own t)] s' σ' H' → D.rt v H') → t D σ H
end
section
variable {R : Type} {F : Fc} {tmp : Tmp} {s : State} {m : Res R} {K : Rs R} {N : Rn R} {Rt : Rr R}

/-! names, constants -/
theorem rd_var {i : Nat} {d : D} (h : s[i]? = some (some (.f d))) (k : K (.own (.f d)) s m) : RD F tmp s (tVar i) m K := fun σ H Q hh _ _ q => by
  obtain ⟨G, ω, h1⟩ := hh
  obtain ⟨v, e, o⟩ := h1.sl i _ h
  exact ⟨v, e, q _ _ v H k ⟨G, ω, h1.pushF o⟩⟩
/-- a slot as it lies -/
theorem rd_ali {i : Nat} {t : T} (h : s[i]? = some (some t)) (k : K (.ali i) s m) : RD F tmp s (tVar i) m K := fun σ H Q hh _ _ q => by
  obtain ⟨G, ω, h1⟩ := hh
  obtain ⟨v, e, o⟩ := h1.sl i _ h
  exact ⟨v, e, q _ _ v H k ⟨G, ω, { h1 with tm := ⟨e, h1.tm⟩ }⟩⟩
/-- an owned slot, frozen from here on -/
theorem rd_frz {i : Nat} {t : T} (h : s[i]? = some (some t)) (k : K (.own (.f t.er)) (s.set i (some (.f t.er))) m) : RD F tmp s (tVar i) m K := fun σ H Q hh _ _ q => by
  have h2 := hh.frzSlot h
  obtain ⟨G, ω, h1⟩ := h2
  have hi : i < s.length := (List.getElem?_eq_some_iff.mp h).1
  obtain ⟨v, e, o⟩ := h1.sl i (.f t.er) (by rw [List.getElem?_set_self hi])
  exact ⟨v, e, q _ _ v H k ⟨G, ω, h1.pushF o⟩⟩
def phiMv (n i : Nat) : Lab → Option Lab
  | 0 :: j :: x => if j = i then some (1 :: n :: x) else some (0 :: j :: x)
  | 1 :: j :: x => if j = n then none else some (1 :: j :: x)
  | l => some l
/-- an owned slot, moved out -/
theorem rd_mv {i : Nat} {t : T} (h : s[i]? = some (some t)) (k : K (.own t) (s.set i none) m) : RD F tmp s (tVar i) m K := fun σ H Q hh _ _ q => by
  obtain ⟨G, ω, h1⟩ := hh
  obtain ⟨v, e, o⟩ := h1.sl i _ h
  refine ⟨v, e, q _ _ v H k ⟨G, _, h1.rl (phiMv tmp.length i) _ σ _ (by simp [h1.len]) (fun j u e2 => ?_) ⟨Own.rl o fun x => by simp [phiMv], Tms.rl tmp (fun j x hj => ?_) h1.tm⟩ h1.pn⟩⟩
  · rw [List.getElem?_set] at e2
    by_cases hj : i = j
    · subst hj
      rw [if_pos rfl] at e2
      split at e2 <;> cases e2
    · rw [if_neg hj] at e2
      obtain ⟨v', a, b⟩ := h1.sl j u e2
      have hj' : ¬ j = i := fun z => hj z.symm
      exact ⟨v', a, Own.rl b fun x => by simp [phiMv, hj']⟩
  · have : ¬ j = tmp.length := by omega
    simp [phiMv, this]
theorem holds_push {σ : St} {H : Hp} {d : D} {v : V} (h : Holds F tmp s σ H) (r : ∀ G, Rep G d v) : Holds F ((v, .own (.f d)) :: tmp) s σ H :=
  let ⟨G, ω, h1⟩ := h
  ⟨G, ω, h1.pushF (r G)⟩
theorem rd_int {i : Int} (k : K (.own (.f (.int i))) s m) : RD F tmp s (tC (.int i)) m K := fun σ H Q hh _ _ q => q _ _ _ H k (holds_push hh fun _ => rfl)
theorem rd_bl {b : Bool} (k : K (.own (.f (.bl b))) s m) : RD F tmp s (tC (.bl b)) m K := fun σ H Q hh _ _ q => q _ _ _ H k (holds_push hh fun _ => rfl)
theorem rd_non (k : K (.own (.f .non)) s m) : RD F tmp s (tC .non) m K := fun σ H Q hh _ _ q => q _ _ _ H k (holds_push hh fun _ => rfl)
theorem rd_str {x : Str} {l : List Nat} (e : x = mkS l) (k : K (.own (.f (.str l))) s m) : RD F tmp s (tC (.str x)) m K := fun σ H Q hh _ _ q => q _ _ _ H k (holds_push hh fun _ => congrArg V.str e)

/-! blocks -/
theorem rs_seq {t u : TS} (h : RS F tmp s m t (fun s1 m1 => RS F tmp s1 m1 u N Rt) Rt) : RS F tmp s m (tSeq t u) N Rt := fun σ H D hh nf eo nx rt =>
  h σ H { D with nx := u D } hh nf eo (fun s' σ' H' hn h1 => hn σ' H' D h1 nf eo nx rt) rt
theorem rs_next (k : N s m) : RS F tmp s m tNext N Rt := fun σ H D hh _ _ nx _ => nx s σ H k hh
theorem rs_set {te : TE} {i : Nat} (h : RD F tmp s te m (fun tm s1 m1 => ∃ t, tm = .own t ∧ i < s1.length ∧ N (s1.set i (some t)) m1)) (na : noAli i tmp = true) (hp : F.pv i = none) : RS F tmp s m (tAsg te (gName i)) N Rt := fun σ H D hh nf eo nx rt =>
  h σ H _ hh nf eo fun tm s' v H' ⟨t, e, hl, hn⟩ h1 => by
    subst e
    exact nx _ _ _ hn (h1.store hl na hp)
theorem rs_drop {te : TE} (h : RD F tmp s te m (fun _ s1 m1 => N s1 m1)) : RS F tmp s m (tDrop te) N Rt := fun σ H D hh nf eo nx rt =>
  h σ H _ hh nf eo fun tm s' v H' hn h1 => nx _ _ _ hn h1.pop
theorem rs_ret {te : TE} (h : RD F tmp s te m (fun tm s1 m1 => ∃ t, tm = .own t ∧ Rt t s1 m1)) : RS F tmp s m (tRet te) N Rt := fun σ H D hh nf eo nx rt =>
  h σ H _ hh nf eo fun tm s' v H' ⟨t, e, hn⟩ h1 => by
    subst e
    exact rt _ _ _ σ _ hn h1.alone
/-- an if; what follows is told twice -/
theorem rs_if {c : TT} {t u : TS} (h : RT F tmp s m c (fun b s1 m1 => ∃ ma mb, m1 = (if b = true then ma else mb) ∧ (b = true → RS F tmp s1 ma t N Rt) ∧ (b = false → RS F tmp s1 mb u N Rt))) : RS F tmp s m (tIfS c t u) N Rt := fun σ H D hh nf eo nx rt =>
  h σ H _ hh nf eo fun b s' H' ⟨ma, mb, e, ha, hb⟩ h1 => by
    cases b with
    | true => simp only [if_true] at e ⊢; subst e; exact ha rfl σ H' D h1 nf eo nx rt
    | false => simp only [Bool.false_eq_true, if_false] at e ⊢; subst e; exact hb rfl σ H' D h1 nf eo nx rt
/-! arguments -/
theorem ra_nil {K : List TM → State → Res R → Prop} (k : K [] s m) : RA F tmp s m tNil K := fun σ H Q hh _ _ q => q [] s [] H k rfl hh
theorem ra_cons {ta : TE} {tr : TA} {K : List TM → State → Res R → Prop} (h : RD F tmp s ta m (fun tm s1 m1 => ∀ v, RA F ((v, tm) :: tmp) s1 m1 tr (fun tms s2 m2 => K (tm :: tms) s2 m2))) : RA F tmp s m (tCons ta tr) K := fun σ H Q hh nf eo q =>
  h σ H _ hh nf eo fun tm s' v H' hk h1 => hk v σ H' _ h1 nf eo fun tms s2 vs H2 hk2 hl h2 => q (tm :: tms) s2 (v :: vs) H2 hk2 (by simp [hl]) h2
end
end VL

namespace VL
open PySem L2
variable [EC]

/-! calls -/
def wAfter (G : Hp) (w : Addr → Option Lab) (H : Hp) (G' : Hp) (H' : Hp) : Prop :=
  Same G G' ∧ Same G' H' ∧ (∀ a o, G' a = some o → G a = some o ∨ H a = none ∨ (w a).isSome = true) ∧ (∀ a o, H a = some o → w a = none → H' a = some o) ∧ (∀ a o, H a = some o → ∃ o', H' a = some o')
def PostOk (G : Hp) (w : Addr → Option Lab) (H : Hp) (r : T) (outs : List (Option T)) (v : V) (vs : List V) (H' : Hp) : Prop :=
  ∃ G' w', wAfter G w H G' H' ∧ (∀ a p, w' a = some p → G' a = none ∧ (∃ o, H' a = some o) ∧ (H a = none ∨ (w a).isSome = true)) ∧
    Own G' H' w' [2] r v ∧ ∀ k t, outs[k]? = some (some t) → ∃ u, vs[k]? = some u ∧ Own G' H' w' [0, k] t u
def ErrQ (G : Hp) (w : Addr → Option Lab) (H : Hp) (e : Ex) (od : Option Addr) (H' : Hp) : Prop :=
  ∃ G', wAfter G w H G' H' ∧ (match e.a with | none => od = none | some d => ∃ dx v, od = some dx ∧ H dx = none ∧ G' dx = some (.xd [("at", v)]) ∧ Rep G' d v)
def spOf {A R : Type} (ec : Nat → Addr) (ea : A → List T) (mir : A → Res R) (er : R → T) (eo : R → List (Option T)) : Sp := fun vs H Q E =>
  ∃ (a : A) (G : Hp) (w : Addr → Option Lab), Same G H ∧ (∀ x p, w x = some p → G x = none ∧ ∃ o, H x = some o) ∧ vs.length = (ea a).length ∧ (∀ k t, (ea a)[k]? = some t → ∃ u, vs[k]? = some u ∧ Own G H w [0, k] t u) ∧
    mir a ≠ .fail ∧ (∀ r v H', mir a = .ok r → PostOk G w H (er r) (eo r) v vs H' → Q v H') ∧ (∀ e od H', mir a = .err e → ErrQ G w H e od H' → E (.ref (ec e.k)) od H')

def treeAt (s : State) : TM → Option T
  | .own t => some t
  | .ali i => match s[i]? with | some x => x | none => none
def putOuts : State → List TM → List (Option T) → State
  | s, .ali i :: r, o :: q => putOuts (s.set i o) r q
  | s, .ali i :: r, [] => putOuts (s.set i none) r []
  | s, .own _ :: r, q => putOuts s r q.tail
  | s, [], _ => s
def aIdx (i : Nat) : List TM → Option Nat
  | [] => none
  | .ali j :: r => if j = i then some 0 else (aIdx i r).map (· + 1)
  | .own _ :: r => (aIdx i r).map (· + 1)
def aliNd : List TM → Bool
  | [] => true
  | .ali j :: r => (aIdx j r).isNone && aliNd r
  | .own _ :: r => aliNd r
theorem aIdx_get {i : Nat} : ∀ {tms : List TM} {k : Nat}, aIdx i tms = some k → tms[k]? = some (.ali i)
  | [], _, h => by simp [aIdx] at h
  | .ali j :: r, k, h => by
    unfold aIdx at h
    split at h
    · rename_i e; subst e; cases h; rfl
    · cases e : aIdx i r with
      | none => rw [e] at h; cases h
      | some k' => rw [e] at h; cases h; simpa using aIdx_get e
  | .own _ :: r, k, h => by
    unfold aIdx at h
    cases e : aIdx i r with
    | none => rw [e] at h; cases h
    | some k' => rw [e] at h; cases h; simpa using aIdx_get e
theorem aIdx_of {i : Nat} : ∀ {tms : List TM} {k : Nat}, aliNd tms = true → tms[k]? = some (.ali i) → aIdx i tms = some k
  | [], _, _, h => by simp at h
  | .ali j :: r, 0, nd, h => by simp at h; subst h; simp [aIdx]
  | .ali j :: r, k + 1, nd, h => by
    simp only [aliNd, Bool.and_eq_true] at nd
    have e := aIdx_of (k := k) nd.2 (by simpa using h)
    have : ¬ j = i := fun z => by subst z; rw [e] at nd; simp at nd
    simp [aIdx, this, e]
  | .own _ :: r, 0, nd, h => by simp at h
  | .own _ :: r, k + 1, nd, h => by
    have e := aIdx_of (tms := r) (k := k) (by simpa [aliNd] using nd) (by simpa using h)
    simp [aIdx, e]
theorem putOuts_len : ∀ (tms : List TM) (s : State) (q : List (Option T)), (putOuts s tms q).length = s.length
  | [], s, _ => by cases s <;> rfl
  | .ali i :: r, s, [] => by rw [putOuts, putOuts_len r]; simp
  | .ali i :: r, s, o :: q => by rw [putOuts, putOuts_len r]; simp
  | .own _ :: r, s, q => by rw [putOuts, putOuts_len r]
theorem putOuts_none : ∀ (tms : List TM) (s : State) (q : List (Option T)) (i : Nat), aIdx i tms = none → (putOuts s tms q)[i]? = s[i]?
  | [], s, _, i, _ => by cases s <;> rfl
  | .ali j :: r, s, q, i, h => by
    unfold aIdx at h
    split at h
    · cases h
    · rename_i hj
      have h' : aIdx i r = none := by simpa using h
      cases q with
      | nil => rw [putOuts, putOuts_none r _ _ i h', List.getElem?_set_ne hj]
      | cons o q => rw [putOuts, putOuts_none r _ _ i h', List.getElem?_set_ne hj]
  | .own _ :: r, s, q, i, h => by
    have h' : aIdx i r = none := by simpa [aIdx] using h
    rw [putOuts, putOuts_none r _ _ i h']
theorem putOuts_some : ∀ (tms : List TM) (s : State) (q : List (Option T)) (i k : Nat) (t : T), aliNd tms = true → aIdx i tms = some k → (putOuts s tms q)[i]? = some (some t) → q[k]? = some (some t)
  | [], s, _, i, k, t, _, h, _ => by simp [aIdx] at h
  | .ali j :: r, s, q, i, k, t, nd, h, e => by
    simp only [aliNd, Bool.and_eq_true] at nd
    unfold aIdx at h
    split at h
    · rename_i hj
      subst hj
      cases h
      have hn : aIdx j r = none := by simpa using nd.1
      cases q with
      | nil =>
        rw [putOuts, putOuts_none r _ _ j hn, List.getElem?_set] at e
        simp at e
      | cons o q =>
        rw [putOuts, putOuts_none r _ _ j hn, List.getElem?_set] at e
        simp at e
        simpa using e.2
    · cases e2 : aIdx i r with
      | none => rw [e2] at h; cases h
      | some k' =>
        rw [e2] at h; cases h
        cases q with
        | nil =>
          rw [putOuts] at e
          have := putOuts_some r _ _ i k' t nd.2 e2 e
          simp at this
        | cons o q =>
          rw [putOuts] at e
          have := putOuts_some r _ _ i k' t nd.2 e2 e
          simpa using this
  | .own _ :: r, s, q, i, k, t, nd, h, e => by
    unfold aIdx at h
    cases e2 : aIdx i r with
    | none => rw [e2] at h; cases h
    | some k' =>
      rw [e2] at h; cases h
      rw [putOuts] at e
      have := putOuts_some r _ _ i k' t (by simpa [aliNd] using nd) e2 e
      cases q with
      | nil => simp at this
      | cons o q => simpa using this
/-- the arguments among the temporaries -/
theorem Tms.args {G H : Hp} {ω : Addr → Option Lab} {σ : St} : ∀ (vs : List V) (tms : List TM) (tmp : Tmp), vs.length = tms.length → Tms G H ω σ (pushes vs tms tmp) →
    Tms G H ω σ tmp ∧ ∀ k tm, tms[k]? = some tm → ∃ v, vs[k]? = some v ∧ TmOk G H ω σ [1, tmp.length + k] tm v
  | [], [], tmp, _, h => ⟨h, fun k tm e => by simp at e⟩
  | v :: vs, tm :: tms, tmp, hl, h => by
    obtain ⟨⟨a, b⟩, c⟩ := Tms.args vs tms ((v, tm) :: tmp) (by simpa using hl) h
    refine ⟨b, fun k u e => ?_⟩
    cases k with
    | zero => simp at e; subst e; exact ⟨v, rfl, a⟩
    | succ k =>
      obtain ⟨w, e1, e2⟩ := c k u (by simpa using e)
      refine ⟨w, by simpa using e1, ?_⟩
      rw [List.length_cons] at e2
      rwa [show tmp.length + (k + 1) = tmp.length + 1 + k by omega]
  | [], _ :: _, _, hl, _ => by simp at hl
  | _ :: _, [], _, hl, _ => by simp at hl
def psi (n : Nat) (tms : List TM) : Lab → Option Lab
  | 1 :: j :: x => if n ≤ j ∧ j < n + tms.length then some (0 :: (j - n) :: x) else none
  | 0 :: i :: x => (aIdx i tms).map fun k => 0 :: k :: x
  | _ => none
def chi (n : Nat) (tms : List TM) : Lab → Option Lab
  | 2 :: x => some (1 :: n :: x)
  | 0 :: k :: x => match tms[k]? with | some (.ali i) => some (0 :: i :: x) | _ => none
  | _ => none
def wBack (ω ω' : Addr → Option Lab) (n : Nat) (tms : List TM) : Addr → Option Lab := fun a => match ω a with
  | some lab => if (psi n tms lab).isSome = true then (ω' a).bind (chi n tms) else some lab
  | none => (ω' a).bind (chi n tms)
theorem wAfter.errP {F : Fc} {G H H' G' : Hp} {ω wc : Addr → Option Lab} {tmp : Tmp} {s : State} {σ : St} (h : Hd F G ω tmp s σ H) (hc : ∀ a, (wc a).isSome = true → (ω a).isSome = true) (p : wAfter G wc H G' H') :
    Same F.G0 G' ∧ Same G' H' ∧ (∀ a o, G' a = some o → F.G0 a = some o ∨ F.H0 a = none ∨ (F.w0 a).isSome = true) ∧ (∀ a o, F.H0 a = some o → F.w0 a = none → H' a = some o) ∧ (∀ a o, F.H0 a = some o → ∃ o', H' a = some o') := by
  obtain ⟨p1, p2, p3, p4, p5⟩ := p
  refine ⟨h.g0.trans p1, p2, fun a o e => ?_, fun a o e w => ?_, fun a o e => ?_⟩
  · rcases p3 a o e with q | q | q
    · exact h.gn a o q
    · exact .inr (.inl (h.new q))
    · obtain ⟨lab, hl⟩ := Option.isSome_iff_exists.mp (hc a q)
      exact .inr (h.wg a lab hl).2.2
  · refine p4 a o (h.fr a o e w) ?_
    cases q : wc a with
    | none => rfl
    | some lab =>
      obtain ⟨lab', hl⟩ := Option.isSome_iff_exists.mp (hc a (by rw [q]; rfl))
      rcases (h.wg a lab' hl).2.2 with z | z
      · rw [e] at z; cases z
      · rw [w] at z; cases z
  · obtain ⟨o', e'⟩ := h.ex a o e
    exact p5 a o' e'
theorem call_core {A R R' : Type} {ec : Nat → Addr} {ea : A → List T} {mir : A → Res R'} {er : R' → T} {eo : R' → List (Option T)} {F : Fc} {tmp : Tmp} {s1 : State} {m : Res R} {K : Rs R} {E : XK} {σ : St} {Q : VK} {tms : List TM} {vs : List V} {H1 : Hp} (hec : F.ec = ec) (hE : (∀ c d H', F.E c d H' → E c d H') ∨ ∀ a e, mir a ≠ .err e)
    (nf : m ≠ .fail) (eo' : EOk F m) (q : ∀ tm s' v H', K tm s' m → Holds F ((v, tm) :: tmp) s' σ H' → Q v H') (hx : ∃ (a : A) (k : R' → Res R), m = rb (mir a) k ∧ tms.map (treeAt s1) = (ea a).map some ∧ aliNd tms = true ∧ ∀ r, K (.own (er r)) (putOuts s1 tms (eo r)) (k r))
    (hl : vs.length = tms.length) (h1 : Holds F (pushes vs tms tmp) s1 σ H1) : spOf ec ea mir er eo (vs ++ []) H1 Q E := by
  obtain ⟨a, k, em, ht, nd, hk⟩ := hx
  obtain ⟨G, ω, h1⟩ := h1
  obtain ⟨ht0, hargs⟩ := Tms.args vs tms tmp hl h1.tm
  have hlen : tms.length = (ea a).length := by simpa using congrArg List.length ht
  rw [List.append_nil]
  have hwc : ∀ x, ((rl ω (psi tmp.length tms)) x).isSome = true → (ω x).isSome = true := fun x hx => by
    obtain ⟨lab, e⟩ := Option.isSome_iff_exists.mp hx
    obtain ⟨p, e1, _⟩ := rl_some e
    rw [e1]; rfl
  have cases := rb_cases (by rw [← em]; exact nf : rb (mir a) k ≠ .fail)
  refine ⟨a, G, rl ω (psi tmp.length tms), h1.gH, fun x p e => ?_, by rw [hl, hlen], fun j u e => ?_, fun z => ?_, fun r v H' er' po => ?_, fun e od H' ee po => ?_⟩
  · obtain ⟨p', e1, _⟩ := rl_some e
    exact ⟨(h1.wg x p' e1).1, (h1.wg x p' e1).2.1⟩
  · have hj : j < tms.length := by rw [hlen]; exact (List.getElem?_eq_some_iff.mp e).1
    have e2 : (tms.map (treeAt s1))[j]? = some (some u) := by rw [ht, List.getElem?_map, e]; rfl
    rw [List.getElem?_map] at e2
    cases e3 : tms[j]? with
    | none => rw [e3] at e2; cases e2
    | some tm =>
      rw [e3] at e2
      have e4 : treeAt s1 tm = some u := by simpa using e2
      obtain ⟨v, ev, ok⟩ := hargs j tm e3
      refine ⟨v, ev, ?_⟩
      cases tm with
      | own t' =>
        cases e4
        exact Own.rl ok fun x => by simp [psi, hj]
      | ali i =>
        have es : s1[i]? = some (some u) := by
          cases e5 : s1[i]? with
          | none => simp [treeAt, e5] at e4
          | some x => simp [treeAt, e5] at e4; rw [e4]
        obtain ⟨v', a1, a2⟩ := h1.sl i u es
        have : v' = v := by
          have ok' : σ[i]? = some (some v) := ok
          rw [ok'] at a1; cases a1; rfl
        subst this
        exact Own.rl a2 fun x => by simp [psi, aIdx_of nd e3]
  · rcases cases with ⟨b, e1, _⟩ | ⟨b, e1, _⟩ <;> (rw [z] at e1; cases e1)
  · have em' : m = k r := by rw [em, er']; rfl
    obtain ⟨G', ω', pa, pw, pr, pouts⟩ := po
    obtain ⟨f1, f2, f3, f4, f5⟩ := wAfter.errP h1 hwc pa
    obtain ⟨p1, p2, p3, p4, p5⟩ := pa
    -- who was lent
    have lent : ∀ x lab, ω x = some lab → (psi tmp.length tms lab).isSome = false → ω' x = none := fun x lab e1 e2 => by
      cases e3 : ω' x with
      | none => rfl
      | some l2 =>
        rcases (pw x l2 e3).2.2 with z | z
        · obtain ⟨o, ho⟩ := (h1.wg x lab e1).2.1
          rw [ho] at z; cases z
        · unfold rl at z
          rw [e1] at z
          rw [show ((some lab).bind (psi tmp.length tms)) = psi tmp.length tms lab from rfl, e2] at z
          cases z
    have back : ∀ x l2 l3, ω' x = some l2 → chi tmp.length tms l2 = some l3 → wBack ω ω' tmp.length tms x = some l3 := fun x l2 l3 e1 e2 => by
      unfold wBack
      cases e3 : ω x with
      | none => simp only [e1]; exact e2
      | some lab =>
        cases e4 : (psi tmp.length tms lab).isSome with
        | true => simp only [e4, if_true, e1]; exact e2
        | false =>
          rw [lent x lab e3 e4] at e1
          cases e1
    have kept : ∀ x lab, ω x = some lab → psi tmp.length tms lab = none → H' x = H1 x ∧ wBack ω ω' tmp.length tms x = some lab := fun x lab e1 e2 => by
      obtain ⟨o, ho⟩ := (h1.wg x lab e1).2.1
      refine ⟨?_, ?_⟩
      · rw [ho]
        exact p4 x o ho (by unfold rl; rw [e1]; exact e2)
      · unfold wBack
        rw [e1]
        simp [e2]
    refine q (.own (er r)) (putOuts s1 tms (eo r)) v H' (by rw [em']; exact hk r) ⟨G', wBack ω ω' tmp.length tms, f1, f2, f3, f4, f5, fun x p e => ?_, ?_, fun i u e => ?_, ⟨?_, ?_⟩, h1.pn⟩
    · unfold wBack at e
      have fromNew : (ω' x).bind (chi tmp.length tms) = some p → G' x = none ∧ (∃ o, H' x = some o) ∧ (F.H0 x = none ∨ (F.w0 x).isSome = true) := fun e => by
        cases e3 : ω' x with
        | none => rw [e3] at e; cases e
        | some l2 =>
          obtain ⟨w1, w2, w3⟩ := pw x l2 e3
          refine ⟨w1, w2, ?_⟩
          rcases w3 with z | z
          · exact .inl (h1.new z)
          · obtain ⟨lab, hl2⟩ := Option.isSome_iff_exists.mp (hwc x z)
            exact (h1.wg x lab hl2).2.2
      split at e
      · rename_i lab e1
        split at e
        · exact fromNew e
        · rename_i hn
          have hn' : psi tmp.length tms lab = none := by simpa using hn
          cases e
          obtain ⟨g1, ⟨o, ho⟩, g3⟩ := h1.wg x _ e1
          refine ⟨?_, ⟨o, ?_⟩, g3⟩
          · cases e5 : G' x with
            | none => rfl
            | some o2 =>
              rcases p3 x o2 e5 with z | z | z
              · rw [g1] at z; cases z
              · rw [ho] at z; cases z
              · unfold rl at z
                rw [e1] at z
                rw [show ((some p).bind (psi tmp.length tms)) = psi tmp.length tms p from rfl, hn'] at z
                cases z
          · rw [(kept x p e1 hn').1]; exact ho
      · exact fromNew e
    · rw [putOuts_len]; exact h1.len
    · cases e1 : aIdx i tms with
      | none =>
        rw [putOuts_none tms s1 _ i e1] at e
        obtain ⟨v', a1, a2⟩ := h1.sl i u e
        exact ⟨v', a1, Own.move p1 _ _ u v' (fun x y w => kept x _ w (by simp [psi, e1])) a2⟩
      | some j =>
        obtain ⟨w, w1, w2⟩ := pouts j u (putOuts_some tms s1 _ i j u nd e1 e)
        obtain ⟨v', a1, a2⟩ := hargs j _ (aIdx_get e1)
        rw [w1] at a1
        cases a1
        exact ⟨w, a2, Own.move (Same.refl _) _ _ u w (fun x y z => ⟨rfl, back x _ _ z (by simp [chi, aIdx_get e1])⟩) w2⟩
    · exact Own.move (Same.refl _) _ _ _ v (fun x y z => ⟨rfl, back x _ _ z (by simp [chi])⟩) pr
    · exact Tms.move p1 tmp (fun j x y hj w => kept x _ w (by
        have : ¬ (tmp.length ≤ j ∧ j < tmp.length + tms.length) := by omega
        simp [psi, this])) ht0
  · have em' : m = .err e := by rw [em, ee]; rfl
    obtain ⟨G', pa, pe⟩ := po
    obtain ⟨f1, f2, f3, f4, f5⟩ := wAfter.errP h1 hwc pa
    rcases hE with hE | hE
    case inr => exact absurd ee (hE a e)
    refine hE _ _ _ ?_
    rw [← hec]
    refine eo' e em' od H' ⟨G', f1, f2, f3, f4, f5, ?_⟩
    cases e6 : e.a with
    | none => rw [e6] at pe; exact pe
    | some d =>
      rw [e6] at pe
      obtain ⟨dx, v, b1, b2, b3, b4⟩ := pe
      exact ⟨dx, v, b1, h1.new b2, b3, b4⟩
theorem rd_callG {A R R' : Type} {ec : Nat → Addr} {ea : A → List T} {mir : A → Res R'} {er : R' → T} {eo : R' → List (Option T)} {F : Fc} {tmp : Tmp} {s : State} {m : Res R} {K : Rs R} {t : TA} {E : XK} (hec : F.ec = ec) (hE : (∀ c d H', F.E c d H' → E c d H') ∨ ∀ a e, mir a ≠ .err e)
    (h : RA F tmp s m t (fun tms s1 m1 => ∃ (a : A) (k : R' → Res R), m1 = rb (mir a) k ∧ tms.map (treeAt s1) = (ea a).map some ∧ aliNd tms = true ∧ ∀ r, K (.own (er r)) (putOuts s1 tms (eo r)) (k r))) :
    RD F tmp s (tCall (spOf ec ea mir er eo) [] E t) m K := fun σ H Q hh nf eo' q => h σ H _ hh nf eo' fun tms s1 vs H1 hx hl h1 => call_core hec hE nf eo' q hx hl h1
theorem rd_call {A R R' : Type} {ec : Nat → Addr} {ea : A → List T} {mir : A → Res R'} {er : R' → T} {eo : R' → List (Option T)} {F : Fc} {tmp : Tmp} {s : State} {m : Res R} {K : Rs R} {t : TA} {E : XK} (hec : F.ec = ec) (hE : F.E = E)
    (h : RA F tmp s m t (fun tms s1 m1 => ∃ (a : A) (k : R' → Res R), m1 = rb (mir a) k ∧ tms.map (treeAt s1) = (ea a).map some ∧ aliNd tms = true ∧ ∀ r, K (.own (er r)) (putOuts s1 tms (eo r)) (k r))) :
    RD F tmp s (tCall (spOf ec ea mir er eo) [] E t) m K := rd_callG hec (.inl fun _ _ _ z => hE ▸ z) h
end VL

namespace VL
open PySem L2
variable [EC]

/-! an owned object is written -/
section
variable {F : Fc} {G H H' : Hp} {ω : Addr → Option Lab} {tmp : Tmp} {s : State} {σ : St} {v : V} {t : T} {d : D} {a : Addr} {p : Lab}
theorem Hd.wr (h : Hd F G ω tmp s σ H) (hw : ω a = some p) (o' : HO) {s' : State} {tmp' : Tmp} (hl : s'.length = s.length)
    (hs : ∀ i t, s'[i]? = some (some t) → ∃ v, σ[i]? = some (some v) ∧ Own G (upd H a o') ω [0, i] t v) (ht : Tms G (upd H a o') ω σ tmp') : Hd F G ω tmp' s' σ (upd H a o') := by
  obtain ⟨g1, ⟨o, ho⟩, g3⟩ := h.wg a p hw
  refine ⟨h.g0, fun b u e => ?_, h.gn, fun b u e w => ?_, fun b u e => ?_, fun b q e => ?_, h.len.trans hl.symm, hs, ht, h.pn⟩
  · have : b ≠ a := fun z => by subst z; rw [g1] at e; cases e
    rw [upd_ne this]; exact h.gH b u e
  · have : b ≠ a := fun z => by
      subst z
      rcases g3 with z | z
      · rw [e] at z; cases z
      · rw [w] at z; cases z
    rw [upd_ne this]; exact h.fr b u e w
  · by_cases hb : b = a
    · subst hb; exact ⟨o', upd_same⟩
    · rw [upd_ne hb]; exact h.ex b u e
  · obtain ⟨q1, ⟨u, q2⟩, q3⟩ := h.wg b q e
    refine ⟨q1, ?_, q3⟩
    by_cases hb : b = a
    · subst hb; exact ⟨o', upd_same⟩
    · exact ⟨u, by rw [upd_ne hb]; exact q2⟩
theorem Own.wrO {o' : HO} {q : Lab} (hw : ω a = some p) (n : pre q p = false) (h : Own G H ω q t v) : Own G (upd H a o') ω q t v :=
  Own.move (Same.refl _) q q t v (fun b x e => ⟨upd_ne (fun z => by subst z; rw [hw] at e; cases e; rw [pre_app] at n; cases n), e⟩) h
theorem Tms.wrO {o' : HO} (hw : ω a = some p) (tmp : Tmp) (n : ∀ j, j < tmp.length → pre [1, j] p = false) (h : Tms G H ω σ tmp) : Tms G (upd H a o') ω σ tmp :=
  Tms.move (Same.refl _) tmp (fun j b x hj e => ⟨upd_ne (fun z => by subst z; rw [hw] at e; cases e; have := n j hj; rw [pre_app] at this; cases this), e⟩) h
/-- an owned list in slot i -/
theorem Holds.wrSlot (h : Holds F tmp s σ H) {i : Nat} {ds : List D} (hi : s[i]? = some (some (.l ds))) :
    ∃ a vs, σ[i]? = some (some (.ref a)) ∧ H a = some (.lst vs) ∧ vs.length = ds.length ∧ ds.length ≤ sizeLine ∧ (∀ (k : Nat) (d : D), ds[k]? = some d → ∃ v, vs[k]? = some v ∧ ∀ {x : V}, x = v → Holds F ((x, .own (.f d)) :: tmp) s σ H) ∧
      ∀ (ds' : List D) (vs' : List V), ds'.length ≤ sizeLine → (∀ G, Same F.G0 G → Same G H → Reps G ds vs → (∀ x r, tmp = x :: r → ∀ d, x.2 = .own (.f d) → Rep G d x.1) → Reps G ds' vs') → Holds F tmp (s.set i (some (.l ds'))) σ (upd H a (.lst vs')) := by
  obtain ⟨G, ω, h⟩ := h
  obtain ⟨v, e1, a, vs, rfl, ha, hw, z, r⟩ := h.sl i _ hi
  refine ⟨a, vs, e1, ha, r.length.symm, z, fun k d e => ?_, fun ds' vs' hz hr => ⟨G, ω, h.wr hw (.lst vs') (by simp) (fun j u e => ?_) (Tms.wrO hw tmp (fun j hj => by simp [pre]) h.tm)⟩⟩
  · obtain ⟨v, e2, e3⟩ := r.get e
    exact ⟨v, e2, fun {x} ex => ⟨G, ω, h.pushF (by rw [ex]; exact e3)⟩⟩
  · have hil : i < s.length := (List.getElem?_eq_some_iff.mp hi).1
    by_cases hj : i = j
    · subst hj
      rw [List.getElem?_set_self hil] at e
      cases e
      refine ⟨_, e1, a, vs', rfl, upd_same, hw, hz, hr G h.g0 h.gH r fun x r2 et d ed => ?_⟩
      have ht := h.tm
      rw [et] at ht
      have ht1 := ht.1
      rw [ed] at ht1
      exact ht1
    · rw [List.getElem?_set_ne hj] at e
      obtain ⟨v', b1, b2⟩ := h.sl j u e
      exact ⟨v', b1, Own.wrO hw (by simp [pre]; exact fun z => hj z.symm) b2⟩
/-- an owned list among the temporaries, with what comes to it on top -/
theorem Holds.wrTmp {D' : Addr} {acc : List D} {y : V} (h : Holds F ((y, .own (.f d)) :: (.ref D', .own (.l acc)) :: tmp) s σ H) (hz : acc.length < sizeLine) :
    ∃ vs, H D' = some (.lst vs) ∧ vs.length = acc.length ∧ Holds F ((.ref D', .own (.l (acc ++ [d]))) :: tmp) s σ (upd H D' (.lst (vs ++ [y]))) := by
  obtain ⟨G, ω, h⟩ := h
  obtain ⟨hy, ⟨a, vs, e, ha, hw, z, r⟩, ht⟩ := h.tm
  cases e
  refine ⟨vs, ha, r.length.symm, G, ω, h.wr hw _ rfl (fun j u e => ?_) ⟨⟨D', vs ++ [y], rfl, upd_same, hw, by simp; omega, r.append ⟨y, [], rfl, hy, rfl⟩⟩, Tms.wrO hw tmp (fun j hj => ?_) ht⟩⟩
  · obtain ⟨v', b1, b2⟩ := h.sl j u e
    exact ⟨v', b1, Own.wrO hw (by simp [pre]) b2⟩
  · have : ¬ j = tmp.length := by omega
    simp [pre, this]
end

/-! loops -/
inductive Fl (Z R : Type) where
  | nx (z : Z) | rt (r : R)
def forL {Z R : Type} : List D → Z → (Z → D → Res (Fl Z R)) → Res (Fl Z R)
  | [], z, _ => .ok (.nx z)
  | d :: r, z, f => rb (f z d) fun o => match o with | .nx z' => forL r z' f | .rt x => .ok (.rt x)
def forN {Z : Type} : List D → Z → (Z → D → Res Z) → Res Z
  | [], z, _ => .ok z
  | d :: r, z, f => rb (f z d) fun z' => forN r z' f
def whileF {Z R : Type} : Nat → Z → (Z → Res Bool) → (Z → Res (Fl Z R)) → Res (Fl Z R)
  | 0, _, _, _ => .fail
  | n + 1, z, c, b => rb (c z) fun t => if t = true then rb (b z) fun o => match o with | .nx z' => whileF n z' c b | .rt x => .ok (.rt x) else .ok (.nx z)
def whileN {Z : Type} : Nat → Z → (Z → Res Bool) → (Z → Res Z) → Res Z
  | 0, _, _, _ => .fail
  | n + 1, z, c, b => rb (c z) fun t => if t = true then rb (b z) fun z' => whileN n z' c b else .ok z
/-- a comprehension that changes what stands outside -/
def fmS {Z : Type} : List D → Z → (Z → D → Res (Option D × Z)) → Res (List D × Z)
  | [], z, _ => .ok ([], z)
  | d :: r, z, f => rb (f z d) fun o => rb (fmS r o.2 f) fun q => .ok (match o.1 with | some y => y :: q.1 | none => q.1, q.2)
def fmR : List D → (D → Res (Option D)) → Res (List D)
  | [], _ => .ok []
  | d :: r, f => rb (f d) fun o => rb (fmR r f) fun q => .ok (match o with | some y => y :: q | none => q)
structure ItOk (F : Fc) (tmp0 tmp : Tmp) (P : State → Prop) (pb : State → State) (J : It) (ds : List D) : Prop where
  bk : ∀ (pre : Tmp) s σ H, P s → Holds F (pre ++ tmp) s σ H → Holds F (pre ++ tmp0) (pb s) σ H
  sz : ds.length ≤ sizeLine
  go : ∀ s σ H i, P s → Holds F tmp s σ H → i < ds.length → J.go i H
  stop : ∀ s σ H, P s → Holds F tmp s σ H → J.stop ds.length H
  yld : ∀ (pre : Tmp) s σ H (i : Nat) (d : D) x H', P s → Holds F (pre ++ tmp) s σ H → ds[i]? = some d → J.yld i H x H' → Holds F ((x, .own (.f d)) :: (pre ++ tmp)) s σ H'
section
variable {R : Type} (F : Fc) (tmp : Tmp) (s : State) (m : Res R)
def RI (wi : TI) (K : Tmp → (State → Prop) → (State → State) → List D → State → Res R → Prop) : Prop :=
  ∀ σ H Q, Holds F tmp s σ H → m ≠ .fail → EOk F m → (∀ ex P pb ds s' J H', K ex P pb ds s' m → ItOk F tmp (ex ++ tmp) P pb J ds → Holds F (ex ++ tmp) s' σ H' → Q J H') → wi σ H Q
def RG (is : List Nat) (g : TG) (d : D) (K : State → Res R → Prop) : Prop :=
  ∀ σ H v Q, Holds F ((v, .own (.f d)) :: tmp) s σ H → m ≠ .fail → EOk F m → (∀ s' σ' H', K s' m → Holds F tmp s' σ' H' → (∀ j, j ∉ is → σ'[j]? = σ[j]?) → σ'.length = σ.length → Q σ' H') → g v σ H Q
end
section
variable {R : Type} {F : Fc} {tmp : Tmp} {s : State} {m : Res R} {K : Rs R} {N : Rn R} {Rt : Rr R}
theorem rs_for {Z R' : Type} {wi : TI} {g : TG} {tb : TS} (is : List Nat) (h : RI F tmp s m wi (fun ex P pb ds s1 m1 => ∃ (S : Z → State) (z0 : Z) (f : Z → D → Res (Fl Z R')) (k : Fl Z R' → Res R),
      m1 = rb (forL ds z0 f) k ∧ Sub s1 (S z0) ∧ (∀ z, P (S z)) ∧
      (∀ z d, RG F (ex ++ tmp) (S z) (f z d) is g d (fun s2 m2 => RS F (ex ++ tmp) s2 m2 tb (fun s3 m3 => ∃ z', m3 = .ok (.nx z') ∧ Sub s3 (S z')) (fun t s3 m3 => ∃ r, m3 = .ok (.rt r) ∧ Rt t s3 (k (.rt r))))) ∧
      ∀ z, N (pb (S z)) (k (.nx z)))) : RS F tmp s m (tFor wi g tb) N Rt := fun σ H De hh nf eo nx rt => by
  refine h σ H _ hh nf eo fun ex P pb ds s1 J H1 ⟨S, z0, f, k, em, sb, hP, body, fin⟩ it h1 => ?_
  refine ⟨fun i n σ' H' => ∃ z, i + n = ds.length ∧ Holds F (ex ++ tmp) (S z) σ' H' ∧ rb (forL (ds.drop i) z f) k = m, ⟨ds.length, z0, by simp, h1.sub sb, by rw [List.drop_zero]; exact em.symm⟩, ?_⟩
  rintro i n σ' H' ⟨z, hin, hz, ez⟩
  cases n with
  | zero =>
    have hi : i = ds.length := by omega
    subst hi
    refine .inl ⟨it.stop _ _ _ (hP z) hz, ?_⟩
    rw [List.drop_length] at ez
    refine nx (pb (S z)) σ' H' ?_ (it.bk [] _ _ _ (hP z) hz)
    rw [← ez]
    exact fin z
  | succ n =>
    have hi : i < ds.length := by omega
    refine .inr ⟨it.go _ _ _ i (hP z) hz hi, _, fun σ2 H2 w => ⟨n, by omega, w⟩, fun x H2 y => ?_⟩
    have hd : ds[i]? = some ds[i] := List.getElem?_eq_getElem hi
    have h2 := it.yld [] _ _ _ i _ x H2 (hP z) hz hd y
    rw [List.drop_eq_getElem_cons hi] at ez
    have ez' : rb (rb (f z ds[i]) fun o => match o with | .nx z' => forL (ds.drop (i + 1)) z' f | .rt x => .ok (.rt x)) k = m := ez
    have nf' : f z ds[i] ≠ .fail := fun q => nf (by rw [← ez', q]; rfl)
    have eo' : EOk F (f z ds[i]) := eo.of fun e he => by rw [← ez', he]; rfl
    refine body z ds[i] σ' H2 x _ h2 nf' eo' fun s3 σ3 H3 hb h3 _ _ => ?_
    refine hb σ3 H3 _ h3 nf' eo' (fun s4 σ4 H4 ⟨z', e1, q⟩ h4 => ?_) fun t s4 v σ4 H4 ⟨r, e1, q⟩ h4 => ?_
    · refine ⟨z', by omega, h4.sub q, ?_⟩
      rw [← ez', e1]; rfl
    · refine rt t s4 v σ4 H4 ?_ h4
      have : m = k (.rt r) := by rw [← ez', e1]; rfl
      rw [this]; exact q
theorem rs_forN {Z : Type} {wi : TI} {g : TG} {tb : TS} (is : List Nat) (h : RI F tmp s m wi (fun ex P pb ds s1 m1 => ∃ (S : Z → State) (z0 : Z) (f : Z → D → Res Z) (k : Z → Res R),
      m1 = rb (forN ds z0 f) k ∧ Sub s1 (S z0) ∧ (∀ z, P (S z)) ∧
      (∀ z d, RG F (ex ++ tmp) (S z) (f z d) is g d (fun s2 m2 => RS F (ex ++ tmp) s2 m2 tb (fun s3 m3 => ∃ z', m3 = .ok z' ∧ Sub s3 (S z')) (fun t s3 m3 => False))) ∧
      ∀ z, N (pb (S z)) (k z))) : RS F tmp s m (tFor wi g tb) N Rt := fun σ H De hh nf eo nx rt => by
  refine h σ H _ hh nf eo fun ex P pb ds s1 J H1 ⟨S, z0, f, k, em, sb, hP, body, fin⟩ it h1 => ?_
  refine ⟨fun i n σ' H' => ∃ z, i + n = ds.length ∧ Holds F (ex ++ tmp) (S z) σ' H' ∧ rb (forN (ds.drop i) z f) k = m, ⟨ds.length, z0, by simp, h1.sub sb, by rw [List.drop_zero]; exact em.symm⟩, ?_⟩
  rintro i n σ' H' ⟨z, hin, hz, ez⟩
  cases n with
  | zero =>
    have hi : i = ds.length := by omega
    subst hi
    refine .inl ⟨it.stop _ _ _ (hP z) hz, ?_⟩
    rw [List.drop_length] at ez
    refine nx (pb (S z)) σ' H' ?_ (it.bk [] _ _ _ (hP z) hz)
    rw [← ez]
    exact fin z
  | succ n =>
    have hi : i < ds.length := by omega
    refine .inr ⟨it.go _ _ _ i (hP z) hz hi, _, fun σ2 H2 w => ⟨n, by omega, w⟩, fun x H2 y => ?_⟩
    have hd : ds[i]? = some ds[i] := List.getElem?_eq_getElem hi
    have h2 := it.yld [] _ _ _ i _ x H2 (hP z) hz hd y
    rw [List.drop_eq_getElem_cons hi] at ez
    have ez' : rb (rb (f z ds[i]) fun z' => forN (ds.drop (i + 1)) z' f) k = m := ez
    have nf' : f z ds[i] ≠ .fail := fun q => nf (by rw [← ez', q]; rfl)
    have eo' : EOk F (f z ds[i]) := eo.of fun e he => by rw [← ez', he]; rfl
    refine body z ds[i] σ' H2 x _ h2 nf' eo' fun s3 σ3 H3 hb h3 _ _ => ?_
    refine hb σ3 H3 _ h3 nf' eo' (fun s4 σ4 H4 ⟨z', e1, q⟩ h4 => ?_) fun t s4 v σ4 H4 q h4 => q.elim
    refine ⟨z', by omega, h4.sub q, ?_⟩
    rw [← ez', e1]; rfl
theorem rs_while {Z R' : Type} {c : TT} {tb : TS} (n : Nat) (S : Z → State) (z0 : Z) (fc : Z → Res Bool) (f : Z → Res (Fl Z R')) (k : Fl Z R' → Res R) (em : m = rb (whileF n z0 fc f) k) (sb : Sub s (S z0))
    (hc : ∀ z, RT F tmp (S z) (fc z) c (fun b s2 m2 => m2 = .ok b ∧ Sub s2 (S z)))
    (hb : ∀ z, RS F tmp (S z) (f z) tb (fun s3 m3 => ∃ z', m3 = .ok (.nx z') ∧ Sub s3 (S z')) (fun t s3 m3 => ∃ r, m3 = .ok (.rt r) ∧ Rt t s3 (k (.rt r))))
    (fin : ∀ z, N (S z) (k (.nx z))) : RS F tmp s m (tWhile c tb) N Rt := fun σ H De hh nf eo nx rt => by
  refine ⟨fun n σ' H' => ∃ z, Holds F tmp (S z) σ' H' ∧ rb (whileF n z fc f) k = m, ⟨n, z0, hh.sub sb, em.symm⟩, ?_⟩
  rintro n σ' H' ⟨z, hz, ez⟩
  cases n with
  | zero => exact absurd ez.symm nf
  | succ n =>
    have ez' : rb (rb (fc z) fun t => if t = true then rb (f z) fun o => match o with | .nx z' => whileF n z' fc f | .rt x => .ok (.rt x) else .ok (.nx z)) k = m := ez
    have nf' : fc z ≠ .fail := fun q => nf (by rw [← ez', q]; rfl)
    refine hc z σ' H' _ hz nf' (eo.of fun e he => by rw [← ez', he]; rfl) fun b s2 H2 ⟨eb, sb2⟩ h2 => ?_
    rw [eb] at ez'
    cases b with
    | false =>
      simp only [Bool.false_eq_true, if_false]
      refine nx (S z) σ' H2 ?_ (h2.sub sb2)
      rw [← ez']; exact fin z
    | true =>
      simp only [if_true]
      have ez2 : rb (rb (f z) fun o => match o with | .nx z' => whileF n z' fc f | .rt x => .ok (.rt x)) k = m := ez'
      have nf2 : f z ≠ .fail := fun q => nf (by rw [← ez2, q]; rfl)
      refine ⟨_, fun σ3 H3 w => ⟨n, Nat.lt_succ_self n, w⟩, ?_⟩
      refine hb z σ' H2 _ (h2.sub sb2) nf2 (eo.of fun e he => by rw [← ez2, he]; rfl) (fun s4 σ4 H4 ⟨z', e1, q⟩ h4 => ?_) fun t s4 v σ4 H4 ⟨r, e1, q⟩ h4 => ?_
      · refine ⟨z', h4.sub q, ?_⟩
        rw [← ez2, e1]; rfl
      · refine rt t s4 v σ4 H4 ?_ h4
        have : m = k (.rt r) := by rw [← ez2, e1]; rfl
        rw [this]; exact q
theorem rs_whileN {Z : Type} {c : TT} {tb : TS} (n : Nat) (S : Z → State) (z0 : Z) (fc : Z → Res Bool) (f : Z → Res Z) (k : Z → Res R) (em : m = rb (whileN n z0 fc f) k) (sb : Sub s (S z0))
    (hc : ∀ z, RT F tmp (S z) (fc z) c (fun b s2 m2 => m2 = .ok b ∧ Sub s2 (S z)))
    (hb : ∀ z, RS F tmp (S z) (f z) tb (fun s3 m3 => ∃ z', m3 = .ok z' ∧ Sub s3 (S z')) (fun t s3 m3 => False))
    (fin : ∀ z, N (S z) (k z)) : RS F tmp s m (tWhile c tb) N Rt := fun σ H De hh nf eo nx rt => by
  refine ⟨fun n σ' H' => ∃ z, Holds F tmp (S z) σ' H' ∧ rb (whileN n z fc f) k = m, ⟨n, z0, hh.sub sb, em.symm⟩, ?_⟩
  rintro n σ' H' ⟨z, hz, ez⟩
  cases n with
  | zero => exact absurd ez.symm nf
  | succ n =>
    have ez' : rb (rb (fc z) fun t => if t = true then rb (f z) fun z' => whileN n z' fc f else .ok z) k = m := ez
    have nf' : fc z ≠ .fail := fun q => nf (by rw [← ez', q]; rfl)
    refine hc z σ' H' _ hz nf' (eo.of fun e he => by rw [← ez', he]; rfl) fun b s2 H2 ⟨eb, sb2⟩ h2 => ?_
    rw [eb] at ez'
    cases b with
    | false =>
      simp only [Bool.false_eq_true, if_false]
      refine nx (S z) σ' H2 ?_ (h2.sub sb2)
      rw [← ez']; exact fin z
    | true =>
      simp only [if_true]
      have ez2 : rb (rb (f z) fun z' => whileN n z' fc f) k = m := ez'
      have nf2 : f z ≠ .fail := fun q => nf (by rw [← ez2, q]; rfl)
      refine ⟨_, fun σ3 H3 w => ⟨n, Nat.lt_succ_self n, w⟩, ?_⟩
      refine hb z σ' H2 _ (h2.sub sb2) nf2 (eo.of fun e he => by rw [← ez2, he]; rfl) (fun s4 σ4 H4 ⟨z', e1, q⟩ h4 => ?_) fun t s4 v σ4 H4 q h4 => q.elim
      refine ⟨z', h4.sub q, ?_⟩
      rw [← ez2, e1]; rfl
/-! targets -/
theorem rg_name {i : Nat} {d : D} {K : State → Res R → Prop} (hi : i < s.length) (na : noAli i tmp = true) (hp : F.pv i = none) (k : K (s.set i (some (.f d))) m) : RG F tmp s m [i] (gName i) d K := fun σ H v Q hh nf eo q =>
  q _ _ H k (hh.store hi na hp) (fun j hj => by rw [List.getElem?_set_ne (fun z => hj (by simp [z]))]) (by simp)
end
end VL

namespace VL
open PySem L2
variable [EC]

/-! comprehensions -/
section
variable {F : Fc} {G H H' : Hp} {ω : Addr → Option Lab} {tmp : Tmp} {s : State} {σ : St} {v : V} {t : T} {d : D}
theorem Tms.tail {G H : Hp} {ω : Addr → Option Lab} {σ : St} {tmp : Tmp} : ∀ (ex : Tmp), Tms G H ω σ (ex ++ tmp) → Tms G H ω σ tmp
  | [], h => h
  | _ :: r, h => Tms.tail r h.2
def noAlis (vs : List Nat) (tmp : Tmp) : Bool := vs.all fun i => noAli i tmp
theorem Holds.wiped {vs : List Nat} (h : Holds F tmp s σ H) (hs : ∀ i ∈ vs, s[i]? = some none) (na : noAlis vs tmp = true) (hp : ∀ i ∈ vs, F.pv i = none) : Holds F tmp s (wipe σ vs) H := by
  obtain ⟨G, ω, h⟩ := h
  refine ⟨G, ω, { h with len := by rw [wipe_length]; exact h.len, sl := fun i t e => ?_, tm := ?_, pn := fun k v e => ?_ }⟩
  · have : i ∉ vs := fun z => by rw [hs i z] at e; cases e
    obtain ⟨v, a, b⟩ := h.sl i t e
    exact ⟨v, by rw [wipe_out this]; exact a, b⟩
  · refine Tms.slots tmp (fun i hi => wipe_out fun z => ?_) h.tm
    have := List.all_eq_true.mp na i z
    rw [hi] at this; cases this
  · have : k ∉ vs := fun z => by rw [hp k z] at e; cases e
    rw [wipe_out this]; exact h.pn k v e
theorem Tms.unwipe {G H : Hp} {ω : Addr → Option Lab} {σ : St} {vs : List Nat} : ∀ (tmp : Tmp), Tms G H ω (wipe σ vs) tmp → Tms G H ω σ tmp
  | [], _ => trivial
  | (v, .own t) :: r, ⟨a, b⟩ => ⟨a, Tms.unwipe r b⟩
  | (v, .ali j) :: r, ⟨a, b⟩ => ⟨(wipe_some a).1, Tms.unwipe r b⟩
theorem Holds.unwipe {vs : List Nat} (h : Holds F tmp s (wipe σ vs) H) : Holds F tmp s σ H := by
  obtain ⟨G, ω, h⟩ := h
  refine ⟨G, ω, { h with len := by rw [← h.len, wipe_length], sl := fun i t e => ?_, tm := Tms.unwipe tmp h.tm, pn := fun k v e => (wipe_some (h.pn k v e)).1 }⟩
  obtain ⟨v, a, b⟩ := h.sl i t e
  exact ⟨v, (wipe_some a).1, b⟩
theorem wipe_congr {σ σ2 : St} {vs is : List Nat} (h : ∀ j, j ∉ is → σ2[j]? = (wipe σ vs)[j]?) (hi : ∀ i ∈ is, i ∈ vs) (hl : σ2.length = (wipe σ vs).length) : wipe σ2 vs = wipe σ vs := by
  refine List.ext_getElem? fun j => ?_
  by_cases hj : j ∈ vs
  · have e1 : (wipe σ2 vs).length = (wipe σ vs).length := by rw [wipe_length, hl]
    by_cases hl2 : j < (wipe σ2 vs).length
    · have n1 : ∀ (τ : St), j < (wipe τ vs).length → (wipe τ vs)[j]? = some none := fun τ hτ => by
        cases e : (wipe τ vs)[j]? with
        | none => rw [List.getElem?_eq_none_iff] at e; omega
        | some x =>
          cases x with
          | none => rfl
          | some v => exact absurd hj (wipe_some e).2
      rw [n1 σ2 hl2, n1 σ (by omega)]
    · rw [List.getElem?_eq_none (by omega), List.getElem?_eq_none (by omega)]
  · rw [wipe_out hj, h j fun z => hj (hi j z), wipe_out hj]
end
section
variable {R : Type} {F : Fc} {tmp : Tmp} {s : State} {m : Res R} {K : Rs R} {N : Rn R} {Rt : Rr R}
/-- an owned value, frozen at once -/
theorem rd_fz {te : TE} (h : RD F tmp s te m (fun tm s1 m1 => ∃ t, tm = .own t ∧ K (.own (.f t.er)) s1 m1)) : RD F tmp s te m K := fun σ H Q hh nf eo q =>
  h σ H Q hh nf eo fun tm s' v H' ⟨t, e, hk⟩ h1 => by
    subst e
    exact q _ _ v H' hk h1.frzTop
def lcBody {Z : Type} (F : Fc) (tmp : Tmp) (S : Z → State) (is : List Nat) (g : TG) (tt : TT) (te : TE) (m : Res (Option D × Z)) (z : Z) (d : D) : Prop :=
  RG F tmp (S z) m is g d (fun s2 m2 => RT F tmp s2 m2 tt (fun b s3 m3 => ∃ ma mb, m3 = (if b = true then ma else mb) ∧
    (b = true → RD F tmp s3 te ma (fun tm s4 m4 => ∃ y z', tm = .own (.f y) ∧ m4 = .ok (some y, z') ∧ Sub s4 (S z'))) ∧ (b = false → ∃ z', mb = .ok (none, z') ∧ Sub s3 (S z'))))
def accD (acc : List D) : Option D → List D
  | some y => acc ++ [y]
  | none => acc
theorem fmS_step {Z S : Type} {d : D} {r acc : List D} {z z' : Z} {f : Z → D → Res (Option D × Z)} {k : List D × Z → Res S} (o : Option D) (e : f z d = .ok (o, z')) :
    rb (rb (fmS (d :: r) z f) fun q => .ok (acc ++ q.1, q.2)) k = rb (rb (fmS r z' f) fun q => .ok (accD acc o ++ q.1, q.2)) k := by
  show rb (rb (rb (f z d) _) _) k = _
  rw [e]
  show rb (rb (rb (fmS r z' f) _) _) k = _
  cases fmS r z' f with
  | ok q => cases o <;> simp [rb, accD]
  | err e => rfl
  | fail => rfl
theorem rd_lc {Z : Type} {wi : TI} {g : TG} {tt : TT} {te : TE} {vs : List Nat} (is : List Nat) (hv : ∀ i ∈ is, i ∈ vs) (hp : ∀ i ∈ vs, F.pv i = none)
    (h : RI F tmp s m wi (fun ex P pb ds s1 m1 => ∃ (S : Z → State) (z0 : Z) (f : Z → D → Res (Option D × Z)) (k : List D × Z → Res R), m1 = rb (fmS ds z0 f) k ∧ Sub s1 (S z0) ∧ (∀ z, P (S z)) ∧ (∀ z, ∀ i ∈ vs, (S z)[i]? = some none) ∧ noAlis vs (ex ++ tmp) = true ∧
      (∀ z d lv acc, lcBody F ((lv, .own (.l acc)) :: (ex ++ tmp)) S is g tt te (f z d) z d) ∧ ∀ p : List D × Z, K (.own (.l p.1)) (pb (S p.2)) (k p))) : RD F tmp s (tLc wi g tt te vs) m K := fun σ H Q hh nf eo q => by
  refine h σ H _ hh nf eo fun ex P pb ds s1 J H1 ⟨S, z0, f, k, em, sb, hP, hS, na, body, fin⟩ it h1 => ?_
  intro D' hD
  have h2 := (h1.sub sb).wiped (hS z0) na hp
  have h3 : Holds F ((.ref D', .own (.l [])) :: (ex ++ tmp)) (S z0) (wipe σ vs) (upd H1 D' (.lst [])) := by
    obtain ⟨G, ω, h2⟩ := h2
    exact h2.newL hD (Nat.zero_le _) rfl
  refine ⟨fun i n H' => ∃ z acc, i + n = ds.length ∧ acc.length ≤ i ∧ Holds F ((.ref D', .own (.l acc)) :: (ex ++ tmp)) (S z) (wipe σ vs) H' ∧ rb (rb (fmS (ds.drop i) z f) fun q => .ok (acc ++ q.1, q.2)) k = m, ⟨ds.length, z0, [], by simp, Nat.le_refl _, h3, ?_⟩, ?_⟩
  · rw [List.drop_zero, em]
    cases fmS ds z0 f with
    | ok q => simp [rb]
    | err e => rfl
    | fail => rfl
  rintro i n H' ⟨z, acc, hin, ha, hz, ez⟩
  cases n with
  | zero =>
    have hi : i = ds.length := by omega
    subst hi
    refine .inl ⟨it.stop _ _ _ (hP z) hz.pop, ?_⟩
    rw [List.drop_length] at ez
    refine q (.own (.l acc)) (pb (S z)) (.ref D') H' ?_ (it.bk [(.ref D', .own (.l acc))] _ _ _ (hP z) hz).unwipe
    have ez' : rb (.ok (acc ++ [], z)) k = m := ez
    rw [List.append_nil] at ez'
    rw [← ez']
    exact fin (acc, z)
  | succ n =>
    have hi : i < ds.length := by omega
    refine .inr ⟨it.go _ _ _ i (hP z) hz.pop hi, _, fun H2 w => ⟨n, by omega, w⟩, fun x H2 y => ?_⟩
    have hd : ds[i]? = some ds[i] := List.getElem?_eq_getElem hi
    have h4 := it.yld [(.ref D', .own (.l acc))] _ _ _ i _ x H2 (hP z) hz hd y
    rw [List.drop_eq_getElem_cons hi] at ez
    have nf' : f z ds[i] ≠ .fail := fun q => nf (by
      rw [← ez]
      show rb (rb (rb (f z ds[i]) _) _) k = _
      rw [q]; rfl)
    have eo' : EOk F (f z ds[i]) := eo.of fun e he => by
      rw [← ez]
      show rb (rb (rb (f z ds[i]) _) _) k = _
      rw [he]; rfl
    refine body z ds[i] (.ref D') acc _ H2 x _ h4 nf' eo' fun s3 σ3 H3 hb h5 hj hl => ?_
    refine ⟨wipe_congr hj hv hl, ?_⟩
    have hw := wipe_congr hj hv hl
    have back : ∀ {z' : Z} {s4 : State} {acc' : List D} {H4 : Hp}, Sub s4 (S z') → Holds F ((.ref D', .own (.l acc')) :: (ex ++ tmp)) s4 σ3 H4 → Holds F ((.ref D', .own (.l acc')) :: (ex ++ tmp)) (S z') (wipe σ vs) H4 := fun {z' s4 acc' H4} sb4 h => by
      have := (h.sub sb4).wiped (hS z') (by
        unfold noAlis at na ⊢
        rw [List.all_eq_true] at na ⊢
        exact fun i hi => na i hi) hp
      rw [hw] at this
      exact this
    refine hb σ3 H3 _ h5 nf' eo' fun b s4 H4 ⟨ma, mb, eb, hT, hF⟩ h6 => ?_
    cases b with
    | false =>
      simp only [Bool.false_eq_true, if_false] at eb ⊢
      obtain ⟨z', e1, sb1⟩ := hF rfl
      refine ⟨z', acc, by omega, by omega, back sb1 h6, ?_⟩
      rw [← ez, fmS_step none (eb.trans e1)]; rfl
    | true =>
      simp only [if_true] at eb ⊢
      subst eb
      refine hT rfl σ3 H4 _ h6 nf' eo' fun tm s5 w H5 ⟨y, z', e0, e1, sb1⟩ h7 => ?_
      subst e0
      have hlt : acc.length < sizeLine := by
        have := it.sz
        omega
      obtain ⟨ws, w1, w2, w3⟩ := h7.wrTmp hlt
      refine ⟨ws, w1, by rw [w2]; exact hlt, z', acc ++ [y], by omega, by simp; omega, back sb1 w3, ?_⟩
      rw [← ez, fmS_step (some y) e1]; rfl
/-- one that changes nothing outside -/
theorem fmR_fmS {f : D → Res (Option D)} : ∀ (ds : List D), fmS ds () (fun _ d => rb (f d) fun o => .ok (o, ())) = rb (fmR ds f) fun q => .ok (q, ())
  | [] => rfl
  | d :: r => by
    show rb (rb (f d) _) _ = rb (rb (f d) _) _
    cases f d with
    | ok o =>
      show rb (fmS r () _) _ = rb (rb (fmR r f) _) _
      rw [fmR_fmS r]
      cases fmR r f with
      | ok q => cases o <;> rfl
      | err e => rfl
      | fail => rfl
    | err e => rfl
    | fail => rfl
theorem rt_true {tt : TT} {K : Bool → State → Res R → Prop} (e : tt = fun _ H Q => Q true H) (k : K true s m) : RT F tmp s m tt K := fun σ H Q hh _ _ q => by subst e; exact q true s H k hh

/-! a def -/
def st0 (n : Nat) (ts : List T) : State := ts.map some ++ List.replicate (n - ts.length) none
def outOk : Nat → List (Option T) → State → List Nat → Prop
  | _, [], _, _ => True
  | k, none :: r, s, p => outOk (k + 1) r s p
  | k, some u :: r, s, p => s[k]? = some (some u) ∧ k ∈ p ∧ outOk (k + 1) r s p
theorem outOk_get : ∀ {outs : List (Option T)} {k : Nat} {s : State} {p : List Nat}, outOk k outs s p → ∀ (j : Nat) (u : T), outs[j]? = some (some u) → s[k + j]? = some (some u) ∧ k + j ∈ p
  | [], _, _, _, _, j, u, e => by simp at e
  | none :: r, k, s, p, h, 0, u, e => by simp at e
  | none :: r, k, s, p, h, j + 1, u, e => by
    have := outOk_get (k := k + 1) (outs := r) h j u (by simpa using e)
    rwa [show k + (j + 1) = k + 1 + j by omega]
  | some x :: r, k, s, p, h, 0, u, e => by simp at e; subst e; exact ⟨h.1, h.2.1⟩
  | some x :: r, k, s, p, h, j + 1, u, e => by
    have := outOk_get (k := k + 1) (outs := r) h.2.2 j u (by simpa using e)
    rwa [show k + (j + 1) = k + 1 + j by omega]
def rEnd {R : Type} (er : R → T) (eo : R → List (Option T)) (pins : List Nat) : Rr R := fun t s' m' => ∃ r, m' = .ok r ∧ t = er r ∧ outOk 0 (eo r) s' pins
theorem fn_body {A : Type} {ec : Nat → Addr} {ea : A → List T} {mir : A → Res R} {er : R → T} {eo : R → List (Option T)} {K : PySem.W.Frag} {N : List Str} {vs : List V} {H : Hp} {Q : VK} {E : XK} {t : TS} (pins : List Nat) (hn : ∀ a, (ea a).length ≤ N.length) (hpin : ∀ a, ∀ k ∈ pins, k < (ea a).length)
    (h : spOf ec ea mir er eo vs H Q E)
    (rd : ∀ (F : Fc) (a : A), F.ec = ec → F.E = E → F.K = K → (∀ k, k ∉ pins → F.pv k = none) → RS F [] (st0 N.length (ea a)) (mir a) t (fun s' m' => rEnd er eo pins (.f .non) s' m') (rEnd er eo pins)) :
    t { nx := fun _ H' => Q .non H', rt := Q } (L2.start N vs) H := by
  obtain ⟨a, G, w, g1, g2, hl, ha, nf, hq, he⟩ := h
  let F : Fc := ⟨K, G, H, w, E, ec, fun k => if k ∈ pins then vs[k]? else none⟩
  have hnn := hn a
  have h0 : Holds F [] (st0 N.length (ea a)) (L2.start N vs) H := by
    refine ⟨G, w, ⟨Same.refl _, g1, fun a o e => .inl e, fun a o e _ => e, fun a o e => ⟨o, e⟩, fun x p e => ⟨(g2 x p e).1, (g2 x p e).2, .inr (by show (w x).isSome = true; rw [e]; rfl)⟩, ?_, fun i u e => ?_, trivial, fun k v e => ?_⟩⟩
    · simp [L2.start, st0, hl]
    · unfold st0 at e
      by_cases hi : i < (ea a).length
      · rw [List.getElem?_append_left (by simpa using hi), List.getElem?_map] at e
        cases e2 : (ea a)[i]? with
        | none => rw [e2] at e; cases e
        | some y =>
          rw [e2] at e
          cases e
          obtain ⟨u', e3, e4⟩ := ha i _ e2
          refine ⟨u', ?_, e4⟩
          unfold L2.start
          rw [List.getElem?_append_left (by simp [hl, hi]), List.getElem?_map, e3]; rfl
      · rw [List.getElem?_append_right (by simp; omega), List.getElem?_replicate] at e
        split at e <;> cases e
    · have e' : (if k ∈ pins then vs[k]? else none) = some v := e
      split at e'
      · unfold L2.start
        rw [List.getElem?_append_left (by simp; exact (List.getElem?_eq_some_iff.mp e').1), List.getElem?_map, e']; rfl
      · cases e'
  have fin : ∀ t s' v σ' H', rEnd er eo pins t s' (mir a) → Holds F [(v, .own t)] s' σ' H' → Q v H' := fun t s' v σ' H' ⟨r, e1, e2, e3⟩ h1 => by
    subst e2
    obtain ⟨G', ω, h1⟩ := h1
    refine hq r v H' e1 ⟨G', rl ω (fun l => match l with | 1 :: 0 :: x => some (2 :: x) | l => some l), ⟨h1.g0, h1.gH, h1.gn, h1.fr, h1.ex⟩, fun x p e => ?_, ?_, fun k u e => ?_⟩
    · obtain ⟨p', e4, _⟩ := rl_some e
      exact h1.wg x p' e4
    · exact Own.rl h1.tm.1 fun x => by simp
    · obtain ⟨e4, e5⟩ := outOk_get e3 k u e
      rw [Nat.zero_add] at e4 e5
      obtain ⟨y, e6, e7⟩ := h1.sl k u e4
      have hk : k < vs.length := by rw [hl]; exact hpin a k e5
      have hp : F.pv k = some vs[k] := by
        show (if k ∈ pins then vs[k]? else none) = _
        rw [if_pos e5, List.getElem?_eq_getElem hk]
      have := h1.pn k _ hp
      rw [e6] at this
      cases this
      exact ⟨_, List.getElem?_eq_getElem hk, Own.rl e7 fun x => by simp⟩
  exact rd F a rfl rfl rfl (fun k hk => by show (if k ∈ pins then vs[k]? else none) = none; rw [if_neg hk]) _ _ _ h0 nf (fun e ee od H' ⟨G', a1, a2, a3, a4, a5, a6⟩ => he e od H' ee ⟨G', ⟨a1, a2, a3, a4, a5⟩, a6⟩) (fun s' σ' H' hk h1 => fin (.f .non) s' .non σ' H' hk (holds_push (d := .non) (v := .non) h1 fun _ => rfl)) fin
end
end VL

namespace VL
open PySem L2
variable [EC]

/-! what stands at a temporary -/
def RepC (G H : Hp) : D → V → Prop
  | .lst l, v => ∃ a vs, v = .ref a ∧ Rd H a (.lst vs) ∧ l.length ≤ sizeLine ∧ Reps G l vs
  | .tup l, v => ∃ a vs, v = .ref a ∧ H a = some (.tup vs) ∧ l.length ≤ sizeLine ∧ Reps G l vs
  | .dct false l, v => ∃ a kvs, v = .ref a ∧ Rd H a (.dK kvs) ∧ RepK G l kvs
  | .dct true l, v => ∃ a ep xs, v = .ref a ∧ H a = some (exN EC.wd a ep xs) ∧ NDg a xs ∧ RepX G l xs
  | d, v => Rep G d v
def valT (s : State) (tm : TM) : Option D := (treeAt s tm).map T.er
def valS (s : State) (tm : TM) : Option D := match treeAt s tm with
  | some (.f d) => some d
  | some (.l ds) => some (.lst ds)
  | some (.dc k l) => some (.dct k l)
  | _ => none
section
variable {F : Fc} {G H H' : Hp} {ω : Addr → Option Lab} {tmp : Tmp} {s : State} {σ : St} {v : V} {t : T} {d : D}
theorem Rep.toC (sm : Same G H) : ∀ {d : D} {v : V}, Rep G d v → RepC G H d v
  | .exc _ _, _, h => h
  | .fd _ _ _, _, h => h
  | .fz _, _, h => h
  | .non, _, h => h
  | .bl _, _, h => h
  | .int _, _, h => h
  | .str _, _, h => h
  | .opq _, _, h => h
  | .lst _, _, ⟨a, vs, e, r, z, q⟩ => ⟨a, vs, e, Same.rd sm r, z, q⟩
  | .tup _, _, ⟨a, vs, e, r, z, q⟩ => ⟨a, vs, e, sm _ _ r, z, q⟩
  | .dct false _, _, ⟨a, kvs, e, r, q⟩ => ⟨a, kvs, e, Same.rd sm r, q⟩
  | .dct true _, _, ⟨a, ep, xs, e, r, q⟩ => ⟨a, ep, xs, e, sm _ _ r, q⟩
theorem RepC.toR (sm : Same G H) : ∀ {d : D} {v : V}, RepC G H d v → Rep H d v
  | .exc _ _, _, h => Rep.mono sm _ _ h
  | .fd _ _ _, _, h => Rep.mono sm _ _ h
  | .fz _, _, h => Rep.mono sm _ _ h
  | .non, _, h => h
  | .bl _, _, h => h
  | .int _, _, h => h
  | .str _, _, h => h
  | .opq _, _, h => h
  | .lst l, _, ⟨a, vs, e, r, z, q⟩ => ⟨a, vs, e, r, z, Reps.mono sm _ _ q⟩
  | .tup l, _, ⟨a, vs, e, r, z, q⟩ => ⟨a, vs, e, r, z, Reps.mono sm _ _ q⟩
  | .dct false l, _, ⟨a, kvs, e, r, q⟩ => ⟨a, kvs, e, r, RepK.mono sm _ _ q⟩
  | .dct true l, _, ⟨a, ep, xs, e, r, g, q⟩ => ⟨a, ep, xs, e, r, g, RepX.mono sm _ _ q⟩
theorem Hd.tree (h : Hd F G ω tmp s σ H) {p : Lab} {tm : TM} (ok : TmOk G H ω σ p tm v) (e : treeAt s tm = some t) : ∃ q, Own G H ω q t v := by
  cases tm with
  | own t' => cases e; exact ⟨p, ok⟩
  | ali i =>
    have ok' : σ[i]? = some (some v) := ok
    cases e5 : s[i]? with
    | none => simp [treeAt, e5] at e
    | some x =>
      simp [treeAt, e5] at e
      subst e
      obtain ⟨v', a, b⟩ := h.sl i t e5
      rw [ok'] at a
      cases a
      exact ⟨_, b⟩
theorem Hd.repT (h : Hd F G ω tmp s σ H) {p : Lab} {tm : TM} (ok : TmOk G H ω σ p tm v) (e : valT s tm = some d) : Rep H d v := by
  unfold valT at e
  cases e2 : treeAt s tm with
  | none => rw [e2] at e; cases e
  | some t =>
    rw [e2] at e
    cases e
    obtain ⟨q, o⟩ := h.tree ok e2
    exact Own.rep h.gH q t v (fun a x _ o ho => ho) o
theorem Hd.repC (h : Hd F G ω tmp s σ H) {p : Lab} {tm : TM} (ok : TmOk G H ω σ p tm v) (e : valS s tm = some d) : RepC G H d v := by
  unfold valS at e
  cases e2 : treeAt s tm with
  | none => rw [e2] at e; cases e
  | some t =>
    rw [e2] at e
    obtain ⟨q, o⟩ := h.tree ok e2
    cases t with
    | f d' => cases e; exact Rep.toC h.gH o
    | l ds => cases e; obtain ⟨a, vs, e, r, w, z, q⟩ := o; exact ⟨a, vs, e, .inl r, z, q⟩
    | dc k l =>
      cases e
      cases k with
      | false => obtain ⟨a, kvs, e, w, r, q⟩ := o; exact ⟨a, kvs, e, .inl r, q⟩
      | true => obtain ⟨a, ep, xs, e, w, r⟩ := o; exact ⟨a, ep, xs, e, r⟩
    | ll ts => cases e
    | tt ts => cases e
    | dl ks ts => cases e
    | nx _ _ _ => cases e
    | no _ _ _ => cases e
    | ob _ _ _ => cases e
    | hole w => cases e
    | lf l => cases e
end
theorem holds_bl {F : Fc} {tmp : Tmp} {s : State} {σ : St} {H : Hp} {b : Bool} (h : Holds F tmp s σ H) : Holds F ((.bl b, .own (.f (.bl b))) :: tmp) s σ H := holds_push (d := .bl b) (v := .bl b) h fun _ => rfl
def Op2C (r : R2) (op : D → D → Option D) : Prop := ∀ G H x y a b c Q, Same G H → RepC G H a x → RepC G H b y → op a b = some c → (∀ v, Rep G c v → Q v H) → r x y H Q
def Op2L (r : R2) (op : D → D → Option (List D)) : Prop := ∀ G H x y a b c Q, Same G H → RepC G H a x → RepC G H b y → op a b = some c → c.length ≤ sizeLine ∧ ((∀ p vs, H p = none → Reps G c vs → Q (.ref p) (upd H p (.lst vs))) → r x y H Q)
def Op2B (r : R2) (op : D → D → Option Bool) : Prop := ∀ H x y a b c Q, Rep H a x → Rep H b y → op a b = some c → Q (.bl c) H → r x y H Q
def Op1C (r : V → Hp → VK → Prop) (op : D → Option D) : Prop := ∀ G H x a c Q, Same G H → RepC G H a x → op a = some c → (∀ v, Rep G c v → Q v H) → r x H Q
def Op1L (r : V → Hp → VK → Prop) (op : D → Option (List D)) : Prop := ∀ G H x a c Q, Same G H → RepC G H a x → op a = some c → c.length ≤ sizeLine ∧ ((∀ p vs, H p = none → Reps G c vs → Q (.ref p) (upd H p (.lst vs))) → r x H Q)
section
variable {R : Type} {F : Fc} {tmp : Tmp} {s : State} {m : Res R} {K : Rs R} {N : Rn R} {Rt : Rr R} {ta tb : TE}
theorem rd_op2 {r : R2} {op : D → D → Option D} (ho : Op2C r op) (h : RD F tmp s ta m (fun tm1 s1 m1 => ∀ x, RD F ((x, tm1) :: tmp) s1 tb m1 (fun tm2 s2 m2 => ∃ a b k, valS s2 tm1 = some a ∧ valS s2 tm2 = some b ∧ m2 = ob (op a b) k ∧ ∀ c, K (.own (.f c)) s2 (k c)))) : RD F tmp s (tOp r ta tb) m K := fun σ H Q hh nf eo q =>
  h σ H _ hh nf eo fun tm1 s1 x H1 h2 h1 => h2 x σ H1 _ h1 nf eo fun tm2 s2 y H2 ⟨a, b, k, ea, eb, em, hk⟩ h3 => by
    obtain ⟨c, ec, em'⟩ := ob_cases (by rw [← em]; exact nf)
    obtain ⟨G, ω, h3⟩ := h3
    exact ho G H2 x y a b c Q h3.gH (h3.repC h3.tm.2.1 ea) (h3.repC h3.tm.1 eb) ec fun v rv => q _ s2 v H2 (by rw [em, em']; exact hk c) ⟨G, ω, h3.pop.pop.pushF rv⟩
theorem rd_op2L {r : R2} {op : D → D → Option (List D)} (ho : Op2L r op) (h : RD F tmp s ta m (fun tm1 s1 m1 => ∀ x, RD F ((x, tm1) :: tmp) s1 tb m1 (fun tm2 s2 m2 => ∃ a b k, valS s2 tm1 = some a ∧ valS s2 tm2 = some b ∧ m2 = ob (op a b) k ∧ ∀ c, K (.own (.l c)) s2 (k c)))) : RD F tmp s (tOp r ta tb) m K := fun σ H Q hh nf eo q =>
  h σ H _ hh nf eo fun tm1 s1 x H1 h2 h1 => h2 x σ H1 _ h1 nf eo fun tm2 s2 y H2 ⟨a, b, k, ea, eb, em, hk⟩ h3 => by
    obtain ⟨c, ec, em'⟩ := ob_cases (by rw [← em]; exact nf)
    obtain ⟨G, ω, h3⟩ := h3
    obtain ⟨z, ho⟩ := ho G H2 x y a b c Q h3.gH (h3.repC h3.tm.2.1 ea) (h3.repC h3.tm.1 eb) ec
    exact ho fun p vs np rv => q _ s2 _ _ (by rw [em, em']; exact hk c) (h3.pop.pop.newL np z rv)
theorem rd_op2B {r : R2} {op : D → D → Option Bool} (ho : Op2B r op) (h : RD F tmp s ta m (fun tm1 s1 m1 => ∀ x, RD F ((x, tm1) :: tmp) s1 tb m1 (fun tm2 s2 m2 => ∃ a b k, valT s2 tm1 = some a ∧ valT s2 tm2 = some b ∧ m2 = ob (op a b) k ∧ ∀ c, K (.own (.f (.bl c))) s2 (k c)))) : RD F tmp s (tOp r ta tb) m K := fun σ H Q hh nf eo q =>
  h σ H _ hh nf eo fun tm1 s1 x H1 h2 h1 => h2 x σ H1 _ h1 nf eo fun tm2 s2 y H2 ⟨a, b, k, ea, eb, em, hk⟩ h3 => by
    obtain ⟨c, ec, em'⟩ := ob_cases (by rw [← em]; exact nf)
    have h4 := h3
    obtain ⟨G, ω, h3⟩ := h3
    exact ho H2 x y a b c Q (h3.repT h3.tm.2.1 ea) (h3.repT h3.tm.1 eb) ec (q _ s2 _ H2 (by rw [em, em']; exact hk c) (holds_bl h4.pop.pop))
theorem rd_un {r : V → Hp → VK → Prop} {op : D → Option D} (ho : Op1C r op) (h : RD F tmp s ta m (fun tm1 s1 m1 => ∃ a k, valS s1 tm1 = some a ∧ m1 = ob (op a) k ∧ ∀ c, K (.own (.f c)) s1 (k c))) : RD F tmp s (tUn r ta) m K := fun σ H Q hh nf eo q =>
  h σ H _ hh nf eo fun tm1 s1 x H1 ⟨a, k, ea, em, hk⟩ h1 => by
    obtain ⟨c, ec, em'⟩ := ob_cases (by rw [← em]; exact nf)
    obtain ⟨G, ω, h1⟩ := h1
    exact ho G H1 x a c Q h1.gH (h1.repC h1.tm.1 ea) ec fun v rv => q _ s1 v H1 (by rw [em, em']; exact hk c) ⟨G, ω, h1.pop.pushF rv⟩
/-- a built-in of one argument -/
theorem rd_cb1 {r : List V → Hp → VK → Prop} {op : D → Option D} (ho : Op1C (fun x H Q => r [x] H Q) op) (h : RD F tmp s ta m (fun tm1 s1 m1 => ∃ a k, valS s1 tm1 = some a ∧ m1 = ob (op a) k ∧ ∀ c, K (.own (.f c)) s1 (k c))) : RD F tmp s (tCB r (tCons ta tNil)) m K := fun σ H Q hh nf eo q =>
  h σ H _ hh nf eo fun tm1 s1 x H1 ⟨a, k, ea, em, hk⟩ h1 => by
    obtain ⟨c, ec, em'⟩ := ob_cases (by rw [← em]; exact nf)
    obtain ⟨G, ω, h1⟩ := h1
    exact ho G H1 x a c Q h1.gH (h1.repC h1.tm.1 ea) ec fun v rv => q _ s1 v H1 (by rw [em, em']; exact hk c) ⟨G, ω, h1.pop.pushF rv⟩
theorem rd_cb1L {r : List V → Hp → VK → Prop} {op : D → Option (List D)} (ho : Op1L (fun x H Q => r [x] H Q) op) (h : RD F tmp s ta m (fun tm1 s1 m1 => ∃ a k, valS s1 tm1 = some a ∧ m1 = ob (op a) k ∧ ∀ c, K (.own (.l c)) s1 (k c))) : RD F tmp s (tCB r (tCons ta tNil)) m K := fun σ H Q hh nf eo q =>
  h σ H _ hh nf eo fun tm1 s1 x H1 ⟨a, k, ea, em, hk⟩ h1 => by
    obtain ⟨c, ec, em'⟩ := ob_cases (by rw [← em]; exact nf)
    obtain ⟨G, ω, h1⟩ := h1
    obtain ⟨z, ho⟩ := ho G H1 x a c Q h1.gH (h1.repC h1.tm.1 ea) ec
    exact ho fun p vs np rv => q _ s1 _ _ (by rw [em, em']; exact hk c) (h1.pop.newL np z rv)
theorem rd_cb2 {r : List V → Hp → VK → Prop} {op : D → D → Option D} (ho : Op2C (fun x y H Q => r [x, y] H Q) op) (h : RD F tmp s ta m (fun tm1 s1 m1 => ∀ x, RD F ((x, tm1) :: tmp) s1 tb m1 (fun tm2 s2 m2 => ∃ a b k, valS s2 tm1 = some a ∧ valS s2 tm2 = some b ∧ m2 = ob (op a b) k ∧ ∀ c, K (.own (.f c)) s2 (k c)))) : RD F tmp s (tCB r (tCons ta (tCons tb tNil))) m K :=
  rd_op2 ho h
/-! tests -/
def asB : D → Option Bool | .bl b => some b | _ => none
def asI : D → Option Int | .int i => some i | _ => none
theorem rt_val {K : Bool → State → Res R → Prop} (h : RD F tmp s ta m (fun tm s1 m1 => ∃ d k, valS s1 tm = some d ∧ m1 = ob (asB d) k ∧ ∀ c, K c s1 (k c))) : RT F tmp s m (tB ta) K := fun σ H Q hh nf eo q =>
  h σ H _ hh nf eo fun tm s1 x H1 ⟨d, k, ea, em, hk⟩ h1 => by
    obtain ⟨c, ec, em'⟩ := ob_cases (by rw [← em]; exact nf)
    have h2 := h1
    obtain ⟨G, ω, h1⟩ := h1
    have r := h1.repC h1.tm.1 ea
    cases d <;> first | cases ec | skip
    exact ⟨_, r, q _ s1 H1 (by rw [em, em']; exact hk _) h2.pop⟩
theorem rt_op2B {r : R2} {op : D → D → Option Bool} {K : Bool → State → Res R → Prop} (ho : Op2B r op) (h : RD F tmp s ta m (fun tm1 s1 m1 => ∀ x, RD F ((x, tm1) :: tmp) s1 tb m1 (fun tm2 s2 m2 => ∃ a b k, valT s2 tm1 = some a ∧ valT s2 tm2 = some b ∧ m2 = ob (op a b) k ∧ ∀ c, K c s2 (k c)))) : RT F tmp s m (tTest (tOp r ta tb)) K := fun σ H Q hh nf eo q =>
  h σ H _ hh nf eo fun tm1 s1 x H1 h2 h1 => h2 x σ H1 _ h1 nf eo fun tm2 s2 y H2 ⟨a, b, k, ea, eb, em, hk⟩ h3 => by
    obtain ⟨c, ec, em'⟩ := ob_cases (by rw [← em]; exact nf)
    have h4 := h3
    obtain ⟨G, ω, h3⟩ := h3
    exact ho H2 x y a b c _ (h3.repT h3.tm.2.1 ea) (h3.repT h3.tm.1 eb) ec ⟨c, rfl, q _ s2 H2 (by rw [em, em']; exact hk c) h4.pop.pop⟩
theorem rt_not {t : TT} {K : Bool → State → Res R → Prop} (h : RT F tmp s m t (fun b s1 m1 => K (!b) s1 m1)) : RT F tmp s m (tNot t) K := fun σ H Q hh nf eo q => h σ H _ hh nf eo fun b s1 H1 hk h1 => q _ s1 H1 hk h1
theorem rt_and {Z : Type} {t u : TT} {K : Bool → State → Res R → Prop} (h : RT F tmp s m t (fun b s1 m1 => ∃ (S : Z → State) (z0 : Z) (ma : Res (Bool × Z)) (k : Bool × Z → Res R), m1 = rb (if b = true then ma else .ok (false, z0)) k ∧ Sub s1 (S z0) ∧
      (b = true → RT F tmp s1 ma u (fun c s2 m2 => ∃ z, m2 = .ok (c, z) ∧ Sub s2 (S z))) ∧ ∀ p : Bool × Z, K p.1 (S p.2) (k p))) : RT F tmp s m (tAnd t u) K := fun σ H Q hh nf eo q =>
  h σ H _ hh nf eo fun b s1 H1 ⟨S, z0, ma, k, em, sb, hu, hk⟩ h1 => by
    cases b with
    | false =>
      simp only [Bool.false_eq_true, if_false] at em ⊢
      exact q false _ H1 (by rw [em]; exact hk (false, z0)) (h1.sub sb)
    | true =>
      simp only [if_true] at em ⊢
      have nf' : ma ≠ .fail := fun z => nf (by rw [em, z]; rfl)
      refine hu rfl σ H1 _ h1 nf' (eo.of fun e he => by rw [em, he]; rfl) fun c s2 H2 ⟨z, e1, sb2⟩ h2 => ?_
      exact q c _ H2 (by rw [em, e1]; exact hk (c, z)) (h2.sub sb2)
theorem rt_or {Z : Type} {t u : TT} {K : Bool → State → Res R → Prop} (h : RT F tmp s m t (fun b s1 m1 => ∃ (S : Z → State) (z0 : Z) (ma : Res (Bool × Z)) (k : Bool × Z → Res R), m1 = rb (if b = true then .ok (true, z0) else ma) k ∧ Sub s1 (S z0) ∧
      (b = false → RT F tmp s1 ma u (fun c s2 m2 => ∃ z, m2 = .ok (c, z) ∧ Sub s2 (S z))) ∧ ∀ p : Bool × Z, K p.1 (S p.2) (k p))) : RT F tmp s m (tOr t u) K := fun σ H Q hh nf eo q =>
  h σ H _ hh nf eo fun b s1 H1 ⟨S, z0, ma, k, em, sb, hu, hk⟩ h1 => by
    cases b with
    | true =>
      simp only [if_true] at em ⊢
      exact q true _ H1 (by rw [em]; exact hk (true, z0)) (h1.sub sb)
    | false =>
      simp only [Bool.false_eq_true, if_false] at em ⊢
      have nf' : ma ≠ .fail := fun z => nf (by rw [em, z]; rfl)
      refine hu rfl σ H1 _ h1 nf' (eo.of fun e he => by rw [em, he]; rfl) fun c s2 H2 ⟨z, e1, sb2⟩ h2 => ?_
      exact q c _ H2 (by rw [em, e1]; exact hk (c, z)) (h2.sub sb2)
/-! and, or, not as values -/
theorem rd_andV {Z : Type} (h : RD F tmp s ta m (fun tm s1 m1 => ∃ d kk, valS s1 tm = some d ∧ m1 = ob (asB d) kk ∧ ∀ b, ∃ (S : Z → State) (z0 : Z) (ma : Res (D × Z)) (k : D × Z → Res R), kk b = rb (if b = true then ma else .ok (.bl false, z0)) k ∧ Sub s1 (S z0) ∧
      (b = true → RD F tmp s1 tb ma (fun tm2 s2 m2 => ∃ d2 z, tm2 = .own (.f d2) ∧ m2 = .ok (d2, z) ∧ Sub s2 (S z))) ∧ ∀ p : D × Z, K (.own (.f p.1)) (S p.2) (k p))) : RD F tmp s (tAndV ta tb) m K := fun σ H Q hh nf eo q =>
  h σ H _ hh nf eo fun tm s1 x H1 ⟨d, kk, ea, em0, hb⟩ h1 => by
    obtain ⟨b, ec, em'⟩ := ob_cases (by rw [← em0]; exact nf)
    have h2 := h1
    obtain ⟨G, ω, h1⟩ := h1
    have r := h1.repC h1.tm.1 ea
    cases d <;> first | cases ec | skip
    refine ⟨_, r, ?_⟩
    obtain ⟨S, z0, ma, k, em, sb, hu, hk⟩ := hb b
    rw [← em', ← em0] at em
    cases b with
    | false =>
      simp only [Bool.false_eq_true, if_false] at em ⊢
      exact q _ _ _ H1 (by rw [em]; exact hk (_, z0)) (holds_bl (h2.pop.sub sb))
    | true =>
      simp only [if_true] at em ⊢
      have nf' : ma ≠ .fail := fun z => nf (by rw [em, z]; rfl)
      refine hu rfl σ H1 _ h2.pop nf' (eo.of fun e he => by rw [em, he]; rfl) fun tm2 s2 y H2 ⟨d2, z, e0, e1, sb2⟩ h3 => ?_
      subst e0
      exact q _ _ y H2 (by rw [em, e1]; exact hk (d2, z)) (h3.sub sb2)
theorem rd_orV {Z : Type} (h : RD F tmp s ta m (fun tm s1 m1 => ∃ d kk, valS s1 tm = some d ∧ m1 = ob (asB d) kk ∧ ∀ b, ∃ (S : Z → State) (z0 : Z) (ma : Res (D × Z)) (k : D × Z → Res R), kk b = rb (if b = true then .ok (.bl true, z0) else ma) k ∧ Sub s1 (S z0) ∧
      (b = false → RD F tmp s1 tb ma (fun tm2 s2 m2 => ∃ d2 z, tm2 = .own (.f d2) ∧ m2 = .ok (d2, z) ∧ Sub s2 (S z))) ∧ ∀ p : D × Z, K (.own (.f p.1)) (S p.2) (k p))) : RD F tmp s (tOrV ta tb) m K := fun σ H Q hh nf eo q =>
  h σ H _ hh nf eo fun tm s1 x H1 ⟨d, kk, ea, em0, hb⟩ h1 => by
    obtain ⟨b, ec, em'⟩ := ob_cases (by rw [← em0]; exact nf)
    have h2 := h1
    obtain ⟨G, ω, h1⟩ := h1
    have r := h1.repC h1.tm.1 ea
    cases d <;> first | cases ec | skip
    refine ⟨_, r, ?_⟩
    obtain ⟨S, z0, ma, k, em, sb, hu, hk⟩ := hb b
    rw [← em', ← em0] at em
    cases b with
    | true =>
      simp only [if_true] at em ⊢
      exact q _ _ _ H1 (by rw [em]; exact hk (_, z0)) (holds_bl (h2.pop.sub sb))
    | false =>
      simp only [Bool.false_eq_true, if_false] at em ⊢
      have nf' : ma ≠ .fail := fun z => nf (by rw [em, z]; rfl)
      refine hu rfl σ H1 _ h2.pop nf' (eo.of fun e he => by rw [em, he]; rfl) fun tm2 s2 y H2 ⟨d2, z, e0, e1, sb2⟩ h3 => ?_
      subst e0
      exact q _ _ y H2 (by rw [em, e1]; exact hk (d2, z)) (h3.sub sb2)
theorem rd_notV (h : RD F tmp s ta m (fun tm s1 m1 => ∃ d k, valS s1 tm = some d ∧ m1 = ob (asB d) k ∧ ∀ b, K (.own (.f (.bl (!b)))) s1 (k b))) : RD F tmp s (tNotV ta) m K := fun σ H Q hh nf eo q =>
  h σ H _ hh nf eo fun tm s1 x H1 ⟨d, k, ea, em, hk⟩ h1 => by
    obtain ⟨c, ec, em'⟩ := ob_cases (by rw [← em]; exact nf)
    have h2 := h1
    obtain ⟨G, ω, h1⟩ := h1
    have r := h1.repC h1.tm.1 ea
    cases d <;> first | cases ec | skip
    exact ⟨_, r, q _ s1 _ H1 (by rw [em, em']; exact hk _) (holds_bl h2.pop)⟩
/-! displays -/
def frozs : List TM → Option (List D)
  | [] => some []
  | .own (.f d) :: r => (frozs r).map (d :: ·)
  | _ :: _ => none
theorem frozs_reps {G H : Hp} {ω : Addr → Option Lab} {σ : St} : ∀ (vs : List V) (tms : List TM) (tmp : Tmp) (ds : List D), vs.length = tms.length → frozs tms = some ds → Tms G H ω σ (pushes vs tms tmp) → Tms G H ω σ tmp ∧ Reps G ds vs := fun vs tms tmp ds hl hf ht => by
  obtain ⟨h0, h1⟩ := Tms.args vs tms tmp hl ht
  refine ⟨h0, ?_⟩
  have key : ∀ (tms : List TM) (ds : List D), frozs tms = some ds → ds.length = tms.length ∧ ∀ (k : Nat) d, ds[k]? = some d → tms[k]? = some (.own (.f d)) := by
    intro tms
    induction tms with
    | nil => intro ds h; cases h; exact ⟨rfl, fun k d e => by simp at e⟩
    | cons tm r ih =>
      intro ds h
      cases tm with
      | ali i => cases h
      | own t =>
        cases t <;> try (simp [frozs] at h; done)
        rename_i d0
        cases e : frozs r with
        | none => simp [frozs, e] at h
        | some ds' =>
          simp [frozs, e] at h
          subst h
          obtain ⟨a, b⟩ := ih ds' e
          refine ⟨by simp [a], fun k d e2 => ?_⟩
          cases k with
          | zero => simp at e2; subst e2; rfl
          | succ k => simpa using b k d (by simpa using e2)
  obtain ⟨k1, k2⟩ := key tms ds hf
  refine Reps.of (by rw [k1, hl]) fun i d v e1 e2 => ?_
  obtain ⟨w, w1, w2⟩ := h1 i _ (k2 i d e1)
  rw [e2] at w1; cases w1
  exact w2
theorem rd_lst {t : TA} (h : RA F tmp s m t (fun tms s1 m1 => ∃ ds, frozs tms = some ds ∧ ds.length ≤ 1000 ∧ K (.own (.l ds)) s1 m1)) : RD F tmp s (tLst t) m K := fun σ H Q hh nf eo q =>
  h σ H _ hh nf eo fun tms s1 vs H1 ⟨ds, hf, hz, hk⟩ hl h1 => by
    obtain ⟨G, ω, h2⟩ := h1
    obtain ⟨t0, r⟩ := frozs_reps vs tms tmp ds hl hf h2.tm
    have h3 : Hd F G ω tmp s1 σ H1 := { h2 with tm := t0 }
    have z : ds.length ≤ sizeLine := by rw [sizeLine_eq]; omega
    exact ⟨by rw [← r.length]; exact z, fun p hp => q _ s1 _ _ hk (h3.newL hp z r)⟩
theorem rd_tup {t : TA} (h : RA F tmp s m t (fun tms s1 m1 => ∃ ds, frozs tms = some ds ∧ ds.length ≤ 1000 ∧ K (.own (.f (.tup ds))) s1 m1)) : RD F tmp s (tTup t) m K := fun σ H Q hh nf eo q =>
  h σ H _ hh nf eo fun tms s1 vs H1 ⟨ds, hf, hz, hk⟩ hl h1 => by
    obtain ⟨G, ω, h2⟩ := h1
    obtain ⟨t0, r⟩ := frozs_reps vs tms tmp ds hl hf h2.tm
    have h3 : Hd F G ω tmp s1 σ H1 := { h2 with tm := t0 }
    have z : ds.length ≤ sizeLine := by rw [sizeLine_eq]; omega
    exact ⟨by rw [← r.length]; exact z, fun p hp => q _ s1 _ _ hk (h3.newT hp z r)⟩
end
end VL

namespace VL
open PySem L2 PySem.SeqAt
variable [EC]

theorem mkS_beq (a b : List Nat) : (mkS a == mkS b) = (a == b) := by
  by_cases h : a = b
  · subst h; simp
  · have h2 : ¬ mkS a = mkS b := fun z => h (mkS_inj z)
    rw [beq_eq_false_iff_ne.mpr h]
    exact beq_eq_false_iff_ne.mpr h2
/-! == -/
mutual
def D.eqv : D → D → Bool
  | .non, .non => true
  | .bl a, .bl b => a == b
  | .bl a, .int b => (if a then 1 else 0) == b
  | .int a, .bl b => a == (if b then 1 else 0)
  | .int a, .int b => a == b
  | .str a, .str b => a == b
  | .tup a, .tup b => D.eqvs a b
  | .lst a, .lst b => D.eqvs a b
  | _, _ => false
def D.eqvs : List D → List D → Bool
  | [], [] => true
  | a :: r, b :: q => D.eqv a b && D.eqvs r q
  | _, _ => false
end
mutual
def D.plain : D → Bool
  | .tup l => D.plains l
  | .lst l => D.plains l
  | .dct _ _ => false
  | .opq _ => false
  | .exc _ _ => false
  | .fd _ _ _ => false
  | .fz _ => false
  | .non => true
  | .bl _ => true
  | .int _ => true
  | .str _ => true
def D.plains : List D → Bool
  | [] => true
  | a :: r => D.plain a && D.plains r
end
mutual
def D.dep : D → Nat
  | .tup l => D.deps l + 1
  | .lst l => D.deps l + 1
  | .dct _ _ => 0
  | .opq _ => 0
  | .exc _ _ => 0
  | .fd _ _ _ => 0
  | .fz _ => 0
  | .non => 0
  | .bl _ => 0
  | .int _ => 0
  | .str _ => 0
def D.deps : List D → Nat
  | [] => 0
  | a :: r => max (D.dep a) (D.deps r)
end
theorem rd_inj {H : Hp} {a : Addr} {o u : List V} (h : Rd H a (.lst o)) (q : Rd H a (.lst u)) : o = u := by
  rcases h with h | ⟨_, h⟩ <;> rcases q with q | ⟨_, q⟩ <;> (rw [h] at q; first | (cases q; done) | (cases q; rfl))
mutual
theorem rep_inj {H : Hp} : ∀ (a b : D) (v : V), a.plain = true → b.plain = true → Rep H a v → Rep H b v → a = b

  | .non, .non, _, _, _, _, _ => rfl
  | .non, .bl y, v, _, _, h, q => by have e := (show v = .non from h).symm.trans (show v = .bl y from q); cases e
  | .non, .int y, v, _, _, h, q => by have e := (show v = .non from h).symm.trans (show v = .int y from q); cases e
  | .non, .str y, v, _, _, h, q => by have e := (show v = .non from h).symm.trans (show v = .str (mkS y) from q); cases e
  | .non, .tup l, v, _, _, h, ⟨_, _, e, _⟩ => by have e2 := (show v = .non from h).symm.trans e; cases e2
  | .non, .lst l, v, _, _, h, ⟨_, _, e, _⟩ => by have e2 := (show v = .non from h).symm.trans e; cases e2
  | .bl x, .non, v, _, _, h, q => by have e := (show v = .bl x from h).symm.trans (show v = .non from q); cases e
  | .bl x, .bl y, v, _, _, h, q => by
    have e := (show v = .bl x from h).symm.trans (show v = .bl y from q)
    injection e with e
    rw [e]
  | .bl x, .int y, v, _, _, h, q => by have e := (show v = .bl x from h).symm.trans (show v = .int y from q); cases e
  | .bl x, .str y, v, _, _, h, q => by have e := (show v = .bl x from h).symm.trans (show v = .str (mkS y) from q); cases e
  | .bl x, .tup l, v, _, _, h, ⟨_, _, e, _⟩ => by have e2 := (show v = .bl x from h).symm.trans e; cases e2
  | .bl x, .lst l, v, _, _, h, ⟨_, _, e, _⟩ => by have e2 := (show v = .bl x from h).symm.trans e; cases e2
  | .int x, .non, v, _, _, h, q => by have e := (show v = .int x from h).symm.trans (show v = .non from q); cases e
  | .int x, .bl y, v, _, _, h, q => by have e := (show v = .int x from h).symm.trans (show v = .bl y from q); cases e
  | .int x, .int y, v, _, _, h, q => by
    have e := (show v = .int x from h).symm.trans (show v = .int y from q)
    injection e with e
    rw [e]
  | .int x, .str y, v, _, _, h, q => by have e := (show v = .int x from h).symm.trans (show v = .str (mkS y) from q); cases e
  | .int x, .tup l, v, _, _, h, ⟨_, _, e, _⟩ => by have e2 := (show v = .int x from h).symm.trans e; cases e2
  | .int x, .lst l, v, _, _, h, ⟨_, _, e, _⟩ => by have e2 := (show v = .int x from h).symm.trans e; cases e2
  | .str x, .non, v, _, _, h, q => by have e := (show v = .str (mkS x) from h).symm.trans (show v = .non from q); cases e
  | .str x, .bl y, v, _, _, h, q => by have e := (show v = .str (mkS x) from h).symm.trans (show v = .bl y from q); cases e
  | .str x, .int y, v, _, _, h, q => by have e := (show v = .str (mkS x) from h).symm.trans (show v = .int y from q); cases e
  | .str x, .str y, v, _, _, h, q => by
    have e := (show v = .str (mkS x) from h).symm.trans (show v = .str (mkS y) from q)
    injection e with e
    rw [mkS_inj e]
  | .str x, .tup l, v, _, _, h, ⟨_, _, e, _⟩ => by have e2 := (show v = .str (mkS x) from h).symm.trans e; cases e2
  | .str x, .lst l, v, _, _, h, ⟨_, _, e, _⟩ => by have e2 := (show v = .str (mkS x) from h).symm.trans e; cases e2
  | .tup l, .non, v, _, _, ⟨_, _, e, _⟩, q => by have e2 := e.symm.trans (show v = .non from q); cases e2
  | .tup l, .bl y, v, _, _, ⟨_, _, e, _⟩, q => by have e2 := e.symm.trans (show v = .bl y from q); cases e2
  | .tup l, .int y, v, _, _, ⟨_, _, e, _⟩, q => by have e2 := e.symm.trans (show v = .int y from q); cases e2
  | .tup l, .str y, v, _, _, ⟨_, _, e, _⟩, q => by have e2 := e.symm.trans (show v = .str (mkS y) from q); cases e2
  | .lst l, .non, v, _, _, ⟨_, _, e, _⟩, q => by have e2 := e.symm.trans (show v = .non from q); cases e2
  | .lst l, .bl y, v, _, _, ⟨_, _, e, _⟩, q => by have e2 := e.symm.trans (show v = .bl y from q); cases e2
  | .lst l, .int y, v, _, _, ⟨_, _, e, _⟩, q => by have e2 := e.symm.trans (show v = .int y from q); cases e2
  | .lst l, .str y, v, _, _, ⟨_, _, e, _⟩, q => by have e2 := e.symm.trans (show v = .str (mkS y) from q); cases e2
  | .tup l, .tup m, v, p1, p2, ⟨a, vs, e, g, _, r⟩, ⟨a2, vs2, e2, g2, _, r2⟩ => by
    rw [e] at e2; cases e2; rw [g] at g2; cases g2
    rw [reps_inj l m vs p1 p2 r r2]
  | .lst l, .lst m, v, p1, p2, ⟨a, vs, e, g, _, r⟩, ⟨a2, vs2, e2, g2, _, r2⟩ => by
    rw [e] at e2; cases e2; cases rd_inj g g2
    rw [reps_inj l m vs p1 p2 r r2]
  | .tup l, .lst m, v, p1, p2, ⟨a, vs, e, g, _, r⟩, ⟨a2, vs2, e2, g2, _, r2⟩ => by
    rw [e] at e2; cases e2
    rcases g2 with g2 | ⟨_, g2⟩ <;> (rw [g] at g2; cases g2)
  | .lst l, .tup m, v, p1, p2, ⟨a, vs, e, g, _, r⟩, ⟨a2, vs2, e2, g2, _, r2⟩ => by
    rw [e] at e2; cases e2
    rcases g with g | ⟨_, g⟩ <;> (rw [g] at g2; cases g2)
  | .dct _ _, _, _, p, _, _, _ => by cases p
  | .opq _, _, _, p, _, _, _ => by cases p
  | .exc _ _, _, _, p, _, _, _ => by cases p
  | .fd _ _ _, _, _, p, _, _, _ => by cases p
  | .fz _, _, _, p, _, _, _ => by cases p
  | _, .dct _ _, _, _, p, _, _ => by cases p
  | _, .opq _, _, _, p, _, _ => by cases p
  | _, .exc _ _, _, _, p, _, _ => by cases p
  | _, .fd _ _ _, _, _, p, _, _ => by cases p
  | _, .fz _, _, _, p, _, _ => by cases p
theorem reps_inj {H : Hp} : ∀ (a b : List D) (v : List V), D.plains a = true → D.plains b = true → Reps H a v → Reps H b v → a = b
  | [], [], _, _, _, _, _ => rfl
  | [], _ :: _, _, _, _, h, ⟨_, _, e, _⟩ => by rw [show _ = [] from h] at e; cases e
  | _ :: _, [], _, _, _, ⟨_, _, e, _⟩, h => by rw [show _ = [] from h] at e; cases e
  | a :: r, b :: q, _, p1, p2, ⟨v, vs, e, h, k⟩, ⟨v2, vs2, e2, h2, k2⟩ => by
    simp only [D.plains, Bool.and_eq_true] at p1 p2
    rw [e] at e2; cases e2
    rw [rep_inj a b v p1.1 p2.1 h h2, reps_inj r q vs p1.2 p2.2 k k2]
end
mutual
theorem eqv_refl : ∀ a : D, a.plain = true → D.eqv a a = true
  | .non, _ => rfl
  | .bl b, _ => by simp [D.eqv]
  | .int b, _ => by simp [D.eqv]
  | .str b, _ => by simp [D.eqv]
  | .tup l, p => eqvs_refl l p
  | .lst l, p => eqvs_refl l p
  | .dct _ _, p => by cases p
  | .opq _, p => by cases p
  | .exc _ _, p => by cases p
  | .fd _ _ _, p => by cases p
  | .fz _, p => by cases p
theorem eqvs_refl : ∀ a : List D, D.plains a = true → D.eqvs a a = true
  | [], _ => rfl
  | a :: r, p => by
    simp only [D.plains, Bool.and_eq_true] at p
    simp only [D.eqvs, eqv_refl a p.1, eqvs_refl r p.2, Bool.and_self]
end
def eqAtJ (l m : List D) (j : Nat) : Bool := D.eqv (l.getD j .non) (m.getD j .non)
theorem all_range_succ (n : Nat) (f : Nat → Bool) : (List.range (n + 1)).all f = (f 0 && (List.range n).all fun j => f (j + 1)) := by
  rw [List.range_succ_eq_map, List.all_cons, List.all_map]; rfl
theorem eqvs_eq : ∀ l m : List D, ((List.range (min l.length m.length)).all (eqAtJ l m) && l.length == m.length) = D.eqvs l m
  | [], [] => rfl
  | [], _ :: _ => rfl
  | _ :: _, [] => rfl
  | a :: r, b :: q => by
    have ih := eqvs_eq r q
    rw [List.length_cons, List.length_cons, show min (r.length + 1) (q.length + 1) = min r.length q.length + 1 by omega, all_range_succ]
    show ((D.eqv a b && (List.range (min r.length q.length)).all fun j => eqAtJ r q j) && (r.length + 1 == q.length + 1)) = (D.eqv a b && D.eqvs r q)
    rw [← ih, Bool.and_assoc]
    congr 2
    by_cases h : r.length = q.length
    · rw [h, beq_self_eq_true, beq_self_eq_true]
    · rw [beq_eq_false_iff_ne.mpr h, beq_eq_false_iff_ne.mpr (by omega)]
section
variable {X : Cx} {pins : List (Addr × Obj)} {σ : St} {H : Hp} {s : Shared}
theorem at_lst (I : Inv X pins σ H s) {l : List D} {x : V} {u : Value} (h : Rep H (.lst l) x) (r : RelV x u) : ∃ a vs its, x = .ref a ∧ u = .ref a ∧ s.heap.IsList a (its : List Value).toArray ∧ Vals vs its ∧ Reps H l vs ∧ l.length = its.length := by
  obtain ⟨a, vs, e, g, z, q⟩ := h
  subst e
  obtain ⟨its, rv, pl, _⟩ := I.list (.inl g)
  exact ⟨a, vs, its, rfl, r, pl.isList, rv, q, q.length.trans rv.length⟩
theorem at_tup (I : Inv X pins σ H s) {l : List D} {x : V} {u : Value} (h : Rep H (.tup l) x) (r : RelV x u) : ∃ a vs its, x = .ref a ∧ u = .ref a ∧ s.heap.IsTuple a (its : List Value).toArray ∧ Vals vs its ∧ Reps H l vs ∧ l.length = its.length := by
  obtain ⟨a, vs, e, g, z, q⟩ := h
  subst e
  obtain ⟨its, rv, pl, _⟩ := I.tuple (.inl (.inl g))
  exact ⟨a, vs, its, rfl, r, pl, rv, q, q.length.trans rv.length⟩
theorem in1_units (A : Around) : A.in1.units = A.units + 1 := rfl
mutual
theorem eqAt_d (I : Inv X pins σ H s) : ∀ (a b : D), ∀ (A : Around) (x y : V) (u w : Value), a.plain = true → b.plain = true → Rep H a x → Rep H b y → RelV x u → RelV y w → A.units + min a.dep b.dep < cLine → EqAt A s u w (D.eqv a b)

  | .non, .non => by
    intro A x y u w p1 p2 h k r1 r2 hu
    cases (show x = .non from h)
    cases r1
    cases (show y = .non from k)
    cases r2
    exact EqAt.same _
  | .non, .bl q => by
    intro A x y u w p1 p2 h k r1 r2 hu
    cases (show x = .non from h)
    cases r1
    cases (show y = .bl _ from k)
    cases r2
    exact EqAt.none_bool _
  | .non, .int q => by
    intro A x y u w p1 p2 h k r1 r2 hu
    cases (show x = .non from h)
    cases r1
    cases (show y = .int _ from k)
    obtain ⟨t2, rfl⟩ := r2
    exact EqAt.none_int _ t2
  | .non, .str q => by
    intro A x y u w p1 p2 h k r1 r2 hu
    cases (show x = .non from h)
    cases r1
    cases (show y = .str _ from k)
    obtain ⟨t2, rfl⟩ := r2
    exact EqAt.none_str _ t2
  | .non, .tup l => by
    intro A x y u w p1 p2 h k r1 r2 hu
    cases (show x = .non from h)
    cases r1
    obtain ⟨_, _, _, rfl, rfl, hl, _⟩ := at_tup I k r2
    exact EqAt.none_tuple hl (by omega)
  | .non, .lst l => by
    intro A x y u w p1 p2 h k r1 r2 hu
    cases (show x = .non from h)
    cases r1
    obtain ⟨_, _, _, rfl, rfl, hl, _⟩ := at_lst I k r2
    exact EqAt.none_list hl (by omega)
  | .bl p, .non => by
    intro A x y u w p1 p2 h k r1 r2 hu
    cases (show x = .bl _ from h)
    cases r1
    cases (show y = .non from k)
    cases r2
    exact EqAt.bool_none _
  | .bl p, .bl q => by
    intro A x y u w p1 p2 h k r1 r2 hu
    cases (show x = .bl _ from h)
    cases r1
    cases (show y = .bl _ from k)
    cases r2
    exact EqAt.bool_bool _ _
  | .bl p, .int q => by
    intro A x y u w p1 p2 h k r1 r2 hu
    cases (show x = .bl _ from h)
    cases r1
    cases (show y = .int _ from k)
    obtain ⟨t2, rfl⟩ := r2
    exact EqAt.bool_int _ _ t2
  | .bl p, .str q => by
    intro A x y u w p1 p2 h k r1 r2 hu
    cases (show x = .bl _ from h)
    cases r1
    cases (show y = .str _ from k)
    obtain ⟨t2, rfl⟩ := r2
    exact EqAt.bool_str _ _ t2
  | .bl p, .tup l => by
    intro A x y u w p1 p2 h k r1 r2 hu
    cases (show x = .bl _ from h)
    cases r1
    obtain ⟨_, _, _, rfl, rfl, hl, _⟩ := at_tup I k r2
    exact EqAt.bool_tuple _ hl (by omega)
  | .bl p, .lst l => by
    intro A x y u w p1 p2 h k r1 r2 hu
    cases (show x = .bl _ from h)
    cases r1
    obtain ⟨_, _, _, rfl, rfl, hl, _⟩ := at_lst I k r2
    exact EqAt.bool_list _ hl (by omega)
  | .int p, .non => by
    intro A x y u w p1 p2 h k r1 r2 hu
    cases (show x = .int _ from h)
    obtain ⟨t1, rfl⟩ := r1
    cases (show y = .non from k)
    cases r2
    exact EqAt.int_none _ t1
  | .int p, .bl q => by
    intro A x y u w p1 p2 h k r1 r2 hu
    cases (show x = .int _ from h)
    obtain ⟨t1, rfl⟩ := r1
    cases (show y = .bl _ from k)
    cases r2
    exact EqAt.int_bool _ t1 _
  | .int p, .int q => by
    intro A x y u w p1 p2 h k r1 r2 hu
    cases (show x = .int _ from h)
    obtain ⟨t1, rfl⟩ := r1
    cases (show y = .int _ from k)
    obtain ⟨t2, rfl⟩ := r2
    exact EqAt.int_int _ t1 _ t2
  | .int p, .str q => by
    intro A x y u w p1 p2 h k r1 r2 hu
    cases (show x = .int _ from h)
    obtain ⟨t1, rfl⟩ := r1
    cases (show y = .str _ from k)
    obtain ⟨t2, rfl⟩ := r2
    exact EqAt.int_str _ t1 _ t2
  | .int p, .tup l => by
    intro A x y u w p1 p2 h k r1 r2 hu
    cases (show x = .int _ from h)
    obtain ⟨t1, rfl⟩ := r1
    obtain ⟨_, _, _, rfl, rfl, hl, _⟩ := at_tup I k r2
    exact EqAt.int_tuple _ t1 hl (by omega)
  | .int p, .lst l => by
    intro A x y u w p1 p2 h k r1 r2 hu
    cases (show x = .int _ from h)
    obtain ⟨t1, rfl⟩ := r1
    obtain ⟨_, _, _, rfl, rfl, hl, _⟩ := at_lst I k r2
    exact EqAt.int_list _ t1 hl (by omega)
  | .str p, .non => by
    intro A x y u w p1 p2 h k r1 r2 hu
    cases (show x = .str _ from h)
    obtain ⟨t1, rfl⟩ := r1
    cases (show y = .non from k)
    cases r2
    exact EqAt.str_none _ t1
  | .str p, .bl q => by
    intro A x y u w p1 p2 h k r1 r2 hu
    cases (show x = .str _ from h)
    obtain ⟨t1, rfl⟩ := r1
    cases (show y = .bl _ from k)
    cases r2
    exact EqAt.str_bool _ t1 _
  | .str p, .int q => by
    intro A x y u w p1 p2 h k r1 r2 hu
    cases (show x = .str _ from h)
    obtain ⟨t1, rfl⟩ := r1
    cases (show y = .int _ from k)
    obtain ⟨t2, rfl⟩ := r2
    exact EqAt.str_int _ t1 _ t2
  | .str p, .str q => by
    intro A x y u w p1 p2 h k r1 r2 hu
    cases (show x = .str _ from h)
    obtain ⟨t1, rfl⟩ := r1
    cases (show y = .str _ from k)
    obtain ⟨t2, rfl⟩ := r2
    show EqAt A s _ _ (p == q)
    rw [← mkS_beq]
    exact EqAt.str_str _ t1 _ t2
  | .str p, .tup l => by
    intro A x y u w p1 p2 h k r1 r2 hu
    cases (show x = .str _ from h)
    obtain ⟨t1, rfl⟩ := r1
    obtain ⟨_, _, _, rfl, rfl, hl, _⟩ := at_tup I k r2
    exact EqAt.str_tuple _ t1 hl (by omega)
  | .str p, .lst l => by
    intro A x y u w p1 p2 h k r1 r2 hu
    cases (show x = .str _ from h)
    obtain ⟨t1, rfl⟩ := r1
    obtain ⟨_, _, _, rfl, rfl, hl, _⟩ := at_lst I k r2
    exact EqAt.str_list _ t1 hl (by omega)
  | .tup l, .non => by
    intro A x y u w p1 p2 h k r1 r2 hu
    cases (show y = .non from k)
    cases r2
    obtain ⟨_, _, _, rfl, rfl, hl, _⟩ := at_tup I h r1
    exact EqAt.tuple_none hl (by omega)
  | .tup l, .bl q => by
    intro A x y u w p1 p2 h k r1 r2 hu
    cases (show y = .bl _ from k)
    cases r2
    obtain ⟨_, _, _, rfl, rfl, hl, _⟩ := at_tup I h r1
    exact EqAt.tuple_bool _ hl (by omega)
  | .tup l, .int q => by
    intro A x y u w p1 p2 h k r1 r2 hu
    cases (show y = .int _ from k)
    obtain ⟨t2, rfl⟩ := r2
    obtain ⟨_, _, _, rfl, rfl, hl, _⟩ := at_tup I h r1
    exact EqAt.tuple_int _ t2 hl (by omega)
  | .tup l, .str q => by
    intro A x y u w p1 p2 h k r1 r2 hu
    cases (show y = .str _ from k)
    obtain ⟨t2, rfl⟩ := r2
    obtain ⟨_, _, _, rfl, rfl, hl, _⟩ := at_tup I h r1
    exact EqAt.tuple_str _ t2 hl (by omega)
  | .lst l, .non => by
    intro A x y u w p1 p2 h k r1 r2 hu
    cases (show y = .non from k)
    cases r2
    obtain ⟨_, _, _, rfl, rfl, hl, _⟩ := at_lst I h r1
    exact EqAt.list_none hl (by omega)
  | .lst l, .bl q => by
    intro A x y u w p1 p2 h k r1 r2 hu
    cases (show y = .bl _ from k)
    cases r2
    obtain ⟨_, _, _, rfl, rfl, hl, _⟩ := at_lst I h r1
    exact EqAt.list_bool _ hl (by omega)
  | .lst l, .int q => by
    intro A x y u w p1 p2 h k r1 r2 hu
    cases (show y = .int _ from k)
    obtain ⟨t2, rfl⟩ := r2
    obtain ⟨_, _, _, rfl, rfl, hl, _⟩ := at_lst I h r1
    exact EqAt.list_int _ t2 hl (by omega)
  | .lst l, .str q => by
    intro A x y u w p1 p2 h k r1 r2 hu
    cases (show y = .str _ from k)
    obtain ⟨t2, rfl⟩ := r2
    obtain ⟨_, _, _, rfl, rfl, hl, _⟩ := at_lst I h r1
    exact EqAt.list_str _ t2 hl (by omega)
  | .tup l, .lst m => by
    intro A x y u w p1 p2 h k r1 r2 hu
    obtain ⟨_, _, _, rfl, rfl, hl, _⟩ := at_tup I h r1
    obtain ⟨_, _, _, rfl, rfl, hm, _⟩ := at_lst I k r2
    exact EqAt.tuple_list hl hm (by omega)
  | .lst l, .tup m => by
    intro A x y u w p1 p2 h k r1 r2 hu
    obtain ⟨_, _, _, rfl, rfl, hl, _⟩ := at_lst I h r1
    obtain ⟨_, _, _, rfl, rfl, hm, _⟩ := at_tup I k r2
    exact EqAt.list_tuple hl hm (by omega)
  | .tup l, .tup m => by
    intro A x y u w p1 p2 h k r1 r2 hu
    obtain ⟨a, vs, its, ea, eu, hl, v1, q1, n1⟩ := at_tup I h r1
    obtain ⟨b, ws, its2, eb, ew, hm, v2, q2, n2⟩ := at_tup I k r2
    by_cases hab : a = b
    · subst hab
      rw [eb, ← ea] at k
      have := rep_inj (.tup l) (.tup m) x p1 p2 h k
      rw [← this, eqv_refl _ p1, eu, ew]
      exact EqAt.same _
    · rw [eu, ew]
      show EqAt A s _ _ (D.eqvs l m)
      rw [← eqvs_eq]
      simp only [D.dep] at hu
      have hA : A.units < cLine := by omega
      have z := EqAt.of_refs hab (RcAt.tuples (e := eqAtJ l m) hl hm hA fun j j1 j2 => by
        have := eqAt_ds I l m A.in1 vs ws its its2 p1 p2 q1 q2 v1 v2 (by rw [in1_units]; omega) j (by simpa using j1) (by simpa using j2)
        simpa using this)
      rw [List.size_toArray, List.size_toArray, ← n1, ← n2] at z
      exact z
  | .lst l, .lst m => by
    intro A x y u w p1 p2 h k r1 r2 hu
    obtain ⟨a, vs, its, ea, eu, hl, v1, q1, n1⟩ := at_lst I h r1
    obtain ⟨b, ws, its2, eb, ew, hm, v2, q2, n2⟩ := at_lst I k r2
    by_cases hab : a = b
    · subst hab
      rw [eb, ← ea] at k
      have := rep_inj (.lst l) (.lst m) x p1 p2 h k
      rw [← this, eqv_refl _ p1, eu, ew]
      exact EqAt.same _
    · rw [eu, ew]
      show EqAt A s _ _ (D.eqvs l m)
      rw [← eqvs_eq]
      simp only [D.dep] at hu
      have hA : A.units < cLine := by omega
      by_cases hn : its.length = its2.length
      · have z := EqAt.of_refs hab (RcAt.lists (e := eqAtJ l m) hl hm (by simpa using hn) hA fun j j1 j2 => by
          have := eqAt_ds I l m A.in1 vs ws its its2 p1 p2 q1 q2 v1 v2 (by rw [in1_units]; omega) j (by simpa using j1) (by simpa using j2)
          simpa using this)
        rw [List.size_toArray, ← n1] at z
        rw [show l.length = m.length by omega, beq_self_eq_true, Bool.and_true, Nat.min_self, ← show l.length = m.length by omega]
        exact z
      · rw [beq_eq_false_iff_ne.mpr (by omega : l.length ≠ m.length), Bool.and_false]
        exact EqAt.of_refs hab (RcAt.lists_lengths hl hm (by simpa using hn) hA)
  | .dct _ _, _ => by intro A x y u w p1 p2 h k r1 r2 hu; cases p1
  | .opq _, _ => by intro A x y u w p1 p2 h k r1 r2 hu; cases p1
  | .exc _ _, _ => by intro A x y u w p1 p2 h k r1 r2 hu; cases p1
  | .fd _ _ _, _ => by intro A x y u w p1 p2 h k r1 r2 hu; cases p1
  | .fz _, _ => by intro A x y u w p1 p2 h k r1 r2 hu; cases p1
  | _, .dct _ _ => by intro A x y u w p1 p2 h k r1 r2 hu; cases p2
  | _, .opq _ => by intro A x y u w p1 p2 h k r1 r2 hu; cases p2
  | _, .exc _ _ => by intro A x y u w p1 p2 h k r1 r2 hu; cases p2
  | _, .fd _ _ _ => by intro A x y u w p1 p2 h k r1 r2 hu; cases p2
  | _, .fz _ => by intro A x y u w p1 p2 h k r1 r2 hu; cases p2
theorem eqAt_ds (I : Inv X pins σ H s) : ∀ (l m : List D) (A : Around) (xs ys : List V) (us ws : List Value), D.plains l = true → D.plains m = true → Reps H l xs → Reps H m ys → Vals xs us → Vals ys ws → A.units + min (D.deps l) (D.deps m) < cLine →
    ∀ j (h1 : j < us.length) (h2 : j < ws.length), EqAt A s us[j] ws[j] (eqAtJ l m j)
  | [], _, _, _, _, _, _, _, _, h, _, v1, _, _, j, h1, _ => by
    cases (show _ = [] from h); cases v1; exact absurd h1 (Nat.not_lt_zero _)
  | _ :: _, [], _, _, _, _, _, _, _, _, h, _, v2, _, j, _, h2 => by
    cases (show _ = [] from h); cases v2; exact absurd h2 (Nat.not_lt_zero _)
  | a :: l, b :: m, A, _, _, _, _, p1, p2, ⟨x, xs, e1, q1, r1⟩, ⟨y, ys, e2, q2, r2⟩, v1, v2, hu, j, h1, h2 => by
    subst e1; subst e2
    simp only [D.plains, Bool.and_eq_true] at p1 p2
    simp only [D.deps] at hu
    cases v1 with
    | cons z1 v1 =>
      cases v2 with
      | cons z2 v2 =>
        cases j with
        | zero => exact eqAt_d I a b A x y _ _ p1.1 p2.1 q1 q2 z1 z2 (by omega)
        | succ j => exact eqAt_ds I l m A xs ys _ _ p1.2 p2.2 r1 r2 v1 v2 (by omega) j (Nat.lt_of_succ_lt_succ h1) (Nat.lt_of_succ_lt_succ h2)
end

theorem rcEq_d (I : Inv X pins σ H s) : ∀ (a b : D), ∀ (A : Around) (x y : V) (u w : Value), a.plain = true → b.plain = true → Rep H a x → Rep H b y → RelV x u → RelV y w → A.units + min a.dep b.dep < cLine → RcAt A s u w (D.eqv a b)
  | .non, .non => by
    intro A x y u w p1 p2 h k r1 r2 hu
    cases (show x = .non from h)
    cases r1
    cases (show y = .non from k)
    cases r2
    exact RcAt.none_none
  | .non, .bl q => by
    intro A x y u w p1 p2 h k r1 r2 hu
    cases (show x = .non from h)
    cases r1
    cases (show y = .bl _ from k)
    cases r2
    exact RcAt.none_bool _
  | .non, .int q => by
    intro A x y u w p1 p2 h k r1 r2 hu
    cases (show x = .non from h)
    cases r1
    cases (show y = .int _ from k)
    obtain ⟨t2, rfl⟩ := r2
    exact RcAt.none_int _ t2
  | .non, .str q => by
    intro A x y u w p1 p2 h k r1 r2 hu
    cases (show x = .non from h)
    cases r1
    cases (show y = .str _ from k)
    obtain ⟨t2, rfl⟩ := r2
    exact RcAt.none_str _ t2
  | .non, .tup l => by
    intro A x y u w p1 p2 h k r1 r2 hu
    cases (show x = .non from h)
    cases r1
    obtain ⟨_, _, _, rfl, rfl, hl, _⟩ := at_tup I k r2
    exact RcAt.none_tuple hl (by omega)
  | .non, .lst l => by
    intro A x y u w p1 p2 h k r1 r2 hu
    cases (show x = .non from h)
    cases r1
    obtain ⟨_, _, _, rfl, rfl, hl, _⟩ := at_lst I k r2
    exact RcAt.none_list hl (by omega)
  | .bl p, .non => by
    intro A x y u w p1 p2 h k r1 r2 hu
    cases (show x = .bl _ from h)
    cases r1
    cases (show y = .non from k)
    cases r2
    exact RcAt.bool_none _
  | .bl p, .bl q => by
    intro A x y u w p1 p2 h k r1 r2 hu
    cases (show x = .bl _ from h)
    cases r1
    cases (show y = .bl _ from k)
    cases r2
    exact RcAt.bool_bool _ _
  | .bl p, .int q => by
    intro A x y u w p1 p2 h k r1 r2 hu
    cases (show x = .bl _ from h)
    cases r1
    cases (show y = .int _ from k)
    obtain ⟨t2, rfl⟩ := r2
    exact RcAt.bool_int _ _ t2
  | .bl p, .str q => by
    intro A x y u w p1 p2 h k r1 r2 hu
    cases (show x = .bl _ from h)
    cases r1
    cases (show y = .str _ from k)
    obtain ⟨t2, rfl⟩ := r2
    exact RcAt.bool_str _ _ t2
  | .bl p, .tup l => by
    intro A x y u w p1 p2 h k r1 r2 hu
    cases (show x = .bl _ from h)
    cases r1
    obtain ⟨_, _, _, rfl, rfl, hl, _⟩ := at_tup I k r2
    exact RcAt.bool_tuple _ hl (by omega)
  | .bl p, .lst l => by
    intro A x y u w p1 p2 h k r1 r2 hu
    cases (show x = .bl _ from h)
    cases r1
    obtain ⟨_, _, _, rfl, rfl, hl, _⟩ := at_lst I k r2
    exact RcAt.bool_list _ hl (by omega)
  | .int p, .non => by
    intro A x y u w p1 p2 h k r1 r2 hu
    cases (show x = .int _ from h)
    obtain ⟨t1, rfl⟩ := r1
    cases (show y = .non from k)
    cases r2
    exact RcAt.int_none _ t1
  | .int p, .bl q => by
    intro A x y u w p1 p2 h k r1 r2 hu
    cases (show x = .int _ from h)
    obtain ⟨t1, rfl⟩ := r1
    cases (show y = .bl _ from k)
    cases r2
    exact RcAt.int_bool _ t1 _
  | .int p, .int q => by
    intro A x y u w p1 p2 h k r1 r2 hu
    cases (show x = .int _ from h)
    obtain ⟨t1, rfl⟩ := r1
    cases (show y = .int _ from k)
    obtain ⟨t2, rfl⟩ := r2
    exact RcAt.int_int _ t1 _ t2
  | .int p, .str q => by
    intro A x y u w p1 p2 h k r1 r2 hu
    cases (show x = .int _ from h)
    obtain ⟨t1, rfl⟩ := r1
    cases (show y = .str _ from k)
    obtain ⟨t2, rfl⟩ := r2
    exact RcAt.int_str _ t1 _ t2
  | .int p, .tup l => by
    intro A x y u w p1 p2 h k r1 r2 hu
    cases (show x = .int _ from h)
    obtain ⟨t1, rfl⟩ := r1
    obtain ⟨_, _, _, rfl, rfl, hl, _⟩ := at_tup I k r2
    exact RcAt.int_tuple _ t1 hl (by omega)
  | .int p, .lst l => by
    intro A x y u w p1 p2 h k r1 r2 hu
    cases (show x = .int _ from h)
    obtain ⟨t1, rfl⟩ := r1
    obtain ⟨_, _, _, rfl, rfl, hl, _⟩ := at_lst I k r2
    exact RcAt.int_list _ t1 hl (by omega)
  | .str p, .non => by
    intro A x y u w p1 p2 h k r1 r2 hu
    cases (show x = .str _ from h)
    obtain ⟨t1, rfl⟩ := r1
    cases (show y = .non from k)
    cases r2
    exact RcAt.str_none _ t1
  | .str p, .bl q => by
    intro A x y u w p1 p2 h k r1 r2 hu
    cases (show x = .str _ from h)
    obtain ⟨t1, rfl⟩ := r1
    cases (show y = .bl _ from k)
    cases r2
    exact RcAt.str_bool _ t1 _
  | .str p, .int q => by
    intro A x y u w p1 p2 h k r1 r2 hu
    cases (show x = .str _ from h)
    obtain ⟨t1, rfl⟩ := r1
    cases (show y = .int _ from k)
    obtain ⟨t2, rfl⟩ := r2
    exact RcAt.str_int _ t1 _ t2
  | .str p, .str q => by
    intro A x y u w p1 p2 h k r1 r2 hu
    cases (show x = .str _ from h)
    obtain ⟨t1, rfl⟩ := r1
    cases (show y = .str _ from k)
    obtain ⟨t2, rfl⟩ := r2
    show RcAt A s _ _ (p == q)
    rw [← mkS_beq]
    exact RcAt.str_str _ t1 _ t2
  | .str p, .tup l => by
    intro A x y u w p1 p2 h k r1 r2 hu
    cases (show x = .str _ from h)
    obtain ⟨t1, rfl⟩ := r1
    obtain ⟨_, _, _, rfl, rfl, hl, _⟩ := at_tup I k r2
    exact RcAt.str_tuple _ t1 hl (by omega)
  | .str p, .lst l => by
    intro A x y u w p1 p2 h k r1 r2 hu
    cases (show x = .str _ from h)
    obtain ⟨t1, rfl⟩ := r1
    obtain ⟨_, _, _, rfl, rfl, hl, _⟩ := at_lst I k r2
    exact RcAt.str_list _ t1 hl (by omega)
  | .tup l, .non => by
    intro A x y u w p1 p2 h k r1 r2 hu
    cases (show y = .non from k)
    cases r2
    obtain ⟨_, _, _, rfl, rfl, hl, _⟩ := at_tup I h r1
    exact RcAt.tuple_none hl (by omega)
  | .tup l, .bl q => by
    intro A x y u w p1 p2 h k r1 r2 hu
    cases (show y = .bl _ from k)
    cases r2
    obtain ⟨_, _, _, rfl, rfl, hl, _⟩ := at_tup I h r1
    exact RcAt.tuple_bool _ hl (by omega)
  | .tup l, .int q => by
    intro A x y u w p1 p2 h k r1 r2 hu
    cases (show y = .int _ from k)
    obtain ⟨t2, rfl⟩ := r2
    obtain ⟨_, _, _, rfl, rfl, hl, _⟩ := at_tup I h r1
    exact RcAt.tuple_int _ t2 hl (by omega)
  | .tup l, .str q => by
    intro A x y u w p1 p2 h k r1 r2 hu
    cases (show y = .str _ from k)
    obtain ⟨t2, rfl⟩ := r2
    obtain ⟨_, _, _, rfl, rfl, hl, _⟩ := at_tup I h r1
    exact RcAt.tuple_str _ t2 hl (by omega)
  | .lst l, .non => by
    intro A x y u w p1 p2 h k r1 r2 hu
    cases (show y = .non from k)
    cases r2
    obtain ⟨_, _, _, rfl, rfl, hl, _⟩ := at_lst I h r1
    exact RcAt.list_none hl (by omega)
  | .lst l, .bl q => by
    intro A x y u w p1 p2 h k r1 r2 hu
    cases (show y = .bl _ from k)
    cases r2
    obtain ⟨_, _, _, rfl, rfl, hl, _⟩ := at_lst I h r1
    exact RcAt.list_bool _ hl (by omega)
  | .lst l, .int q => by
    intro A x y u w p1 p2 h k r1 r2 hu
    cases (show y = .int _ from k)
    obtain ⟨t2, rfl⟩ := r2
    obtain ⟨_, _, _, rfl, rfl, hl, _⟩ := at_lst I h r1
    exact RcAt.list_int _ t2 hl (by omega)
  | .lst l, .str q => by
    intro A x y u w p1 p2 h k r1 r2 hu
    cases (show y = .str _ from k)
    obtain ⟨t2, rfl⟩ := r2
    obtain ⟨_, _, _, rfl, rfl, hl, _⟩ := at_lst I h r1
    exact RcAt.list_str _ t2 hl (by omega)
  | .tup l, .lst m => by
    intro A x y u w p1 p2 h k r1 r2 hu
    obtain ⟨_, _, _, rfl, rfl, hl, _⟩ := at_tup I h r1
    obtain ⟨_, _, _, rfl, rfl, hm, _⟩ := at_lst I k r2
    exact RcAt.tuple_list hl hm (by omega)
  | .lst l, .tup m => by
    intro A x y u w p1 p2 h k r1 r2 hu
    obtain ⟨_, _, _, rfl, rfl, hl, _⟩ := at_lst I h r1
    obtain ⟨_, _, _, rfl, rfl, hm, _⟩ := at_tup I k r2
    exact RcAt.list_tuple hl hm (by omega)
  | .tup l, .tup m => by
    intro A x y u w p1 p2 h k r1 r2 hu
    obtain ⟨a, vs, its, ea, eu, hl, v1, q1, n1⟩ := at_tup I h r1
    obtain ⟨b, ws, its2, eb, ew, hm, v2, q2, n2⟩ := at_tup I k r2
    rw [eu, ew]
    show RcAt A s _ _ (D.eqvs l m)
    rw [← eqvs_eq]
    simp only [D.dep] at hu
    have hA : A.units < cLine := by omega
    have z := RcAt.tuples (e := eqAtJ l m) hl hm hA fun j j1 j2 => by
      have := eqAt_ds I l m A.in1 vs ws its its2 p1 p2 q1 q2 v1 v2 (by rw [in1_units]; omega) j (by simpa using j1) (by simpa using j2)
      simpa using this
    rw [List.size_toArray, List.size_toArray, ← n1, ← n2] at z
    exact z
  | .lst l, .lst m => by
    intro A x y u w p1 p2 h k r1 r2 hu
    obtain ⟨a, vs, its, ea, eu, hl, v1, q1, n1⟩ := at_lst I h r1
    obtain ⟨b, ws, its2, eb, ew, hm, v2, q2, n2⟩ := at_lst I k r2
    rw [eu, ew]
    show RcAt A s _ _ (D.eqvs l m)
    rw [← eqvs_eq]
    simp only [D.dep] at hu
    have hA : A.units < cLine := by omega
    by_cases hn : its.length = its2.length
    · have z := RcAt.lists (e := eqAtJ l m) hl hm (by simpa using hn) hA fun j j1 j2 => by
        have := eqAt_ds I l m A.in1 vs ws its its2 p1 p2 q1 q2 v1 v2 (by rw [in1_units]; omega) j (by simpa using j1) (by simpa using j2)
        simpa using this
      rw [List.size_toArray, ← n1] at z
      rw [show l.length = m.length by omega, beq_self_eq_true, Bool.and_true, Nat.min_self, ← show l.length = m.length by omega]
      exact z
    · rw [beq_eq_false_iff_ne.mpr (by omega : l.length ≠ m.length), Bool.and_false]
      exact RcAt.lists_lengths hl hm (by simpa using hn) hA
  | .dct _ _, _ => by intro A x y u w p1 p2 h k r1 r2 hu; cases p1
  | .opq _, _ => by intro A x y u w p1 p2 h k r1 r2 hu; cases p1
  | .exc _ _, _ => by intro A x y u w p1 p2 h k r1 r2 hu; cases p1
  | .fd _ _ _, _ => by intro A x y u w p1 p2 h k r1 r2 hu; cases p1
  | .fz _, _ => by intro A x y u w p1 p2 h k r1 r2 hu; cases p1
  | _, .dct _ _ => by intro A x y u w p1 p2 h k r1 r2 hu; cases p2
  | _, .opq _ => by intro A x y u w p1 p2 h k r1 r2 hu; cases p2
  | _, .exc _ _ => by intro A x y u w p1 p2 h k r1 r2 hu; cases p2
  | _, .fd _ _ _ => by intro A x y u w p1 p2 h k r1 r2 hu; cases p2
  | _, .fz _ => by intro A x y u w p1 p2 h k r1 r2 hu; cases p2
theorem rcNe_d (I : Inv X pins σ H s) : ∀ (a b : D), ∀ (A : Around) (x y : V) (u w : Value), a.plain = true → b.plain = true → Rep H a x → Rep H b y → RelV x u → RelV y w → A.units + min a.dep b.dep < cLine → RcNeAt A s u w (!(D.eqv a b))
  | .non, .non => by
    intro A x y u w p1 p2 h k r1 r2 hu
    cases (show x = .non from h)
    cases r1
    cases (show y = .non from k)
    cases r2
    exact RcNeAt.none_none
  | .non, .bl q => by
    intro A x y u w p1 p2 h k r1 r2 hu
    cases (show x = .non from h)
    cases r1
    cases (show y = .bl _ from k)
    cases r2
    exact RcNeAt.none_bool _
  | .non, .int q => by
    intro A x y u w p1 p2 h k r1 r2 hu
    cases (show x = .non from h)
    cases r1
    cases (show y = .int _ from k)
    obtain ⟨t2, rfl⟩ := r2
    exact RcNeAt.none_int _ t2
  | .non, .str q => by
    intro A x y u w p1 p2 h k r1 r2 hu
    cases (show x = .non from h)
    cases r1
    cases (show y = .str _ from k)
    obtain ⟨t2, rfl⟩ := r2
    exact RcNeAt.none_str _ t2
  | .non, .tup l => by
    intro A x y u w p1 p2 h k r1 r2 hu
    cases (show x = .non from h)
    cases r1
    obtain ⟨_, _, _, rfl, rfl, hl, _⟩ := at_tup I k r2
    exact RcNeAt.none_tuple hl (by omega)
  | .non, .lst l => by
    intro A x y u w p1 p2 h k r1 r2 hu
    cases (show x = .non from h)
    cases r1
    obtain ⟨_, _, _, rfl, rfl, hl, _⟩ := at_lst I k r2
    exact RcNeAt.none_list hl (by omega)
  | .bl p, .non => by
    intro A x y u w p1 p2 h k r1 r2 hu
    cases (show x = .bl _ from h)
    cases r1
    cases (show y = .non from k)
    cases r2
    exact RcNeAt.bool_none _
  | .bl p, .bl q => by
    intro A x y u w p1 p2 h k r1 r2 hu
    cases (show x = .bl _ from h)
    cases r1
    cases (show y = .bl _ from k)
    cases r2
    exact RcNeAt.bool_bool _ _
  | .bl p, .int q => by
    intro A x y u w p1 p2 h k r1 r2 hu
    cases (show x = .bl _ from h)
    cases r1
    cases (show y = .int _ from k)
    obtain ⟨t2, rfl⟩ := r2
    exact RcNeAt.bool_int _ _ t2
  | .bl p, .str q => by
    intro A x y u w p1 p2 h k r1 r2 hu
    cases (show x = .bl _ from h)
    cases r1
    cases (show y = .str _ from k)
    obtain ⟨t2, rfl⟩ := r2
    exact RcNeAt.bool_str _ _ t2
  | .bl p, .tup l => by
    intro A x y u w p1 p2 h k r1 r2 hu
    cases (show x = .bl _ from h)
    cases r1
    obtain ⟨_, _, _, rfl, rfl, hl, _⟩ := at_tup I k r2
    exact RcNeAt.bool_tuple _ hl (by omega)
  | .bl p, .lst l => by
    intro A x y u w p1 p2 h k r1 r2 hu
    cases (show x = .bl _ from h)
    cases r1
    obtain ⟨_, _, _, rfl, rfl, hl, _⟩ := at_lst I k r2
    exact RcNeAt.bool_list _ hl (by omega)
  | .int p, .non => by
    intro A x y u w p1 p2 h k r1 r2 hu
    cases (show x = .int _ from h)
    obtain ⟨t1, rfl⟩ := r1
    cases (show y = .non from k)
    cases r2
    exact RcNeAt.int_none _ t1
  | .int p, .bl q => by
    intro A x y u w p1 p2 h k r1 r2 hu
    cases (show x = .int _ from h)
    obtain ⟨t1, rfl⟩ := r1
    cases (show y = .bl _ from k)
    cases r2
    exact RcNeAt.int_bool _ t1 _
  | .int p, .int q => by
    intro A x y u w p1 p2 h k r1 r2 hu
    cases (show x = .int _ from h)
    obtain ⟨t1, rfl⟩ := r1
    cases (show y = .int _ from k)
    obtain ⟨t2, rfl⟩ := r2
    exact RcNeAt.int_int _ t1 _ t2
  | .int p, .str q => by
    intro A x y u w p1 p2 h k r1 r2 hu
    cases (show x = .int _ from h)
    obtain ⟨t1, rfl⟩ := r1
    cases (show y = .str _ from k)
    obtain ⟨t2, rfl⟩ := r2
    exact RcNeAt.int_str _ t1 _ t2
  | .int p, .tup l => by
    intro A x y u w p1 p2 h k r1 r2 hu
    cases (show x = .int _ from h)
    obtain ⟨t1, rfl⟩ := r1
    obtain ⟨_, _, _, rfl, rfl, hl, _⟩ := at_tup I k r2
    exact RcNeAt.int_tuple _ t1 hl (by omega)
  | .int p, .lst l => by
    intro A x y u w p1 p2 h k r1 r2 hu
    cases (show x = .int _ from h)
    obtain ⟨t1, rfl⟩ := r1
    obtain ⟨_, _, _, rfl, rfl, hl, _⟩ := at_lst I k r2
    exact RcNeAt.int_list _ t1 hl (by omega)
  | .str p, .non => by
    intro A x y u w p1 p2 h k r1 r2 hu
    cases (show x = .str _ from h)
    obtain ⟨t1, rfl⟩ := r1
    cases (show y = .non from k)
    cases r2
    exact RcNeAt.str_none _ t1
  | .str p, .bl q => by
    intro A x y u w p1 p2 h k r1 r2 hu
    cases (show x = .str _ from h)
    obtain ⟨t1, rfl⟩ := r1
    cases (show y = .bl _ from k)
    cases r2
    exact RcNeAt.str_bool _ t1 _
  | .str p, .int q => by
    intro A x y u w p1 p2 h k r1 r2 hu
    cases (show x = .str _ from h)
    obtain ⟨t1, rfl⟩ := r1
    cases (show y = .int _ from k)
    obtain ⟨t2, rfl⟩ := r2
    exact RcNeAt.str_int _ t1 _ t2
  | .str p, .str q => by
    intro A x y u w p1 p2 h k r1 r2 hu
    cases (show x = .str _ from h)
    obtain ⟨t1, rfl⟩ := r1
    cases (show y = .str _ from k)
    obtain ⟨t2, rfl⟩ := r2
    show RcNeAt A s _ _ (!(p == q))
    rw [← mkS_beq]
    exact RcNeAt.str_str _ t1 _ t2
  | .str p, .tup l => by
    intro A x y u w p1 p2 h k r1 r2 hu
    cases (show x = .str _ from h)
    obtain ⟨t1, rfl⟩ := r1
    obtain ⟨_, _, _, rfl, rfl, hl, _⟩ := at_tup I k r2
    exact RcNeAt.str_tuple _ t1 hl (by omega)
  | .str p, .lst l => by
    intro A x y u w p1 p2 h k r1 r2 hu
    cases (show x = .str _ from h)
    obtain ⟨t1, rfl⟩ := r1
    obtain ⟨_, _, _, rfl, rfl, hl, _⟩ := at_lst I k r2
    exact RcNeAt.str_list _ t1 hl (by omega)
  | .tup l, .non => by
    intro A x y u w p1 p2 h k r1 r2 hu
    cases (show y = .non from k)
    cases r2
    obtain ⟨_, _, _, rfl, rfl, hl, _⟩ := at_tup I h r1
    exact RcNeAt.tuple_none hl (by omega)
  | .tup l, .bl q => by
    intro A x y u w p1 p2 h k r1 r2 hu
    cases (show y = .bl _ from k)
    cases r2
    obtain ⟨_, _, _, rfl, rfl, hl, _⟩ := at_tup I h r1
    exact RcNeAt.tuple_bool _ hl (by omega)
  | .tup l, .int q => by
    intro A x y u w p1 p2 h k r1 r2 hu
    cases (show y = .int _ from k)
    obtain ⟨t2, rfl⟩ := r2
    obtain ⟨_, _, _, rfl, rfl, hl, _⟩ := at_tup I h r1
    exact RcNeAt.tuple_int _ t2 hl (by omega)
  | .tup l, .str q => by
    intro A x y u w p1 p2 h k r1 r2 hu
    cases (show y = .str _ from k)
    obtain ⟨t2, rfl⟩ := r2
    obtain ⟨_, _, _, rfl, rfl, hl, _⟩ := at_tup I h r1
    exact RcNeAt.tuple_str _ t2 hl (by omega)
  | .lst l, .non => by
    intro A x y u w p1 p2 h k r1 r2 hu
    cases (show y = .non from k)
    cases r2
    obtain ⟨_, _, _, rfl, rfl, hl, _⟩ := at_lst I h r1
    exact RcNeAt.list_none hl (by omega)
  | .lst l, .bl q => by
    intro A x y u w p1 p2 h k r1 r2 hu
    cases (show y = .bl _ from k)
    cases r2
    obtain ⟨_, _, _, rfl, rfl, hl, _⟩ := at_lst I h r1
    exact RcNeAt.list_bool _ hl (by omega)
  | .lst l, .int q => by
    intro A x y u w p1 p2 h k r1 r2 hu
    cases (show y = .int _ from k)
    obtain ⟨t2, rfl⟩ := r2
    obtain ⟨_, _, _, rfl, rfl, hl, _⟩ := at_lst I h r1
    exact RcNeAt.list_int _ t2 hl (by omega)
  | .lst l, .str q => by
    intro A x y u w p1 p2 h k r1 r2 hu
    cases (show y = .str _ from k)
    obtain ⟨t2, rfl⟩ := r2
    obtain ⟨_, _, _, rfl, rfl, hl, _⟩ := at_lst I h r1
    exact RcNeAt.list_str _ t2 hl (by omega)
  | .tup l, .lst m => by
    intro A x y u w p1 p2 h k r1 r2 hu
    obtain ⟨_, _, _, rfl, rfl, hl, _⟩ := at_tup I h r1
    obtain ⟨_, _, _, rfl, rfl, hm, _⟩ := at_lst I k r2
    exact RcNeAt.tuple_list hl hm (by omega)
  | .lst l, .tup m => by
    intro A x y u w p1 p2 h k r1 r2 hu
    obtain ⟨_, _, _, rfl, rfl, hl, _⟩ := at_lst I h r1
    obtain ⟨_, _, _, rfl, rfl, hm, _⟩ := at_tup I k r2
    exact RcNeAt.list_tuple hl hm (by omega)
  | .tup l, .tup m => by
    intro A x y u w p1 p2 h k r1 r2 hu
    obtain ⟨a, vs, its, ea, eu, hl, v1, q1, n1⟩ := at_tup I h r1
    obtain ⟨b, ws, its2, eb, ew, hm, v2, q2, n2⟩ := at_tup I k r2
    rw [eu, ew]
    show RcNeAt A s _ _ (!(D.eqvs l m))
    rw [← eqvs_eq]
    simp only [D.dep] at hu
    have hA : A.units < cLine := by omega
    have z := RcNeAt.tuples (e := eqAtJ l m) hl hm hA fun j j1 j2 => by
      have := eqAt_ds I l m A.in1 vs ws its its2 p1 p2 q1 q2 v1 v2 (by rw [in1_units]; omega) j (by simpa using j1) (by simpa using j2)
      simpa using this
    rw [List.size_toArray, List.size_toArray, ← n1, ← n2] at z
    exact z
  | .lst l, .lst m => by
    intro A x y u w p1 p2 h k r1 r2 hu
    obtain ⟨a, vs, its, ea, eu, hl, v1, q1, n1⟩ := at_lst I h r1
    obtain ⟨b, ws, its2, eb, ew, hm, v2, q2, n2⟩ := at_lst I k r2
    rw [eu, ew]
    show RcNeAt A s _ _ (!(D.eqvs l m))
    rw [← eqvs_eq]
    simp only [D.dep] at hu
    have hA : A.units < cLine := by omega
    by_cases hn : its.length = its2.length
    · have z := RcNeAt.lists (e := eqAtJ l m) hl hm (by simpa using hn) hA fun j j1 j2 => by
        have := eqAt_ds I l m A.in1 vs ws its its2 p1 p2 q1 q2 v1 v2 (by rw [in1_units]; omega) j (by simpa using j1) (by simpa using j2)
        simpa using this
      rw [List.size_toArray, ← n1] at z
      rw [show l.length = m.length by omega, beq_self_eq_true, Bool.and_true, Nat.min_self, ← show l.length = m.length by omega]
      exact z
    · rw [beq_eq_false_iff_ne.mpr (by omega : l.length ≠ m.length), Bool.and_false]
      exact RcNeAt.lists_lengths hl hm (by simpa using hn) hA
  | .dct _ _, _ => by intro A x y u w p1 p2 h k r1 r2 hu; cases p1
  | .opq _, _ => by intro A x y u w p1 p2 h k r1 r2 hu; cases p1
  | .exc _ _, _ => by intro A x y u w p1 p2 h k r1 r2 hu; cases p1
  | .fd _ _ _, _ => by intro A x y u w p1 p2 h k r1 r2 hu; cases p1
  | .fz _, _ => by intro A x y u w p1 p2 h k r1 r2 hu; cases p1
  | _, .dct _ _ => by intro A x y u w p1 p2 h k r1 r2 hu; cases p2
  | _, .opq _ => by intro A x y u w p1 p2 h k r1 r2 hu; cases p2
  | _, .exc _ _ => by intro A x y u w p1 p2 h k r1 r2 hu; cases p2
  | _, .fd _ _ _ => by intro A x y u w p1 p2 h k r1 r2 hu; cases p2
  | _, .fz _ => by intro A x y u w p1 p2 h k r1 r2 hu; cases p2
end
def eqD (a b : D) : Option Bool := if a.plain = true ∧ b.plain = true ∧ min a.dep b.dep ≤ 60 then some (D.eqv a b) else none
def neD (a b : D) : Option Bool := (eqD a b).map not
def rEqM : R2 := fun x y H Q => ∃ a b, Rep H a x ∧ Rep H b y ∧ a.plain = true ∧ b.plain = true ∧ min a.dep b.dep ≤ 60 ∧ Q (.bl (D.eqv a b)) H
def rNeM : R2 := fun x y H Q => ∃ a b, Rep H a x ∧ Rep H b y ∧ a.plain = true ∧ b.plain = true ∧ min a.dep b.dep ≤ 60 ∧ Q (.bl (!D.eqv a b)) H
theorem op_eqM {X : Cx} (hu : X.A.units + 64 < cLine) : OpR X (compareOp .Eq) rEqM := by
  intro pins s σ H x y v u Q I rx ry h
  obtain ⟨a, b, ha, hb, p1, p2, dp, q⟩ := h
  exact rcEq_d I a b X.A x y v u p1 p2 ha hb rx ry (by omega) X.prog X.w X.xe _ ⟨.bl _, H, I, rfl, q⟩
theorem op_neM {X : Cx} (hu : X.A.units + 64 < cLine) : OpR X (compareOp .NotEq) rNeM := by
  intro pins s σ H x y v u Q I rx ry h
  obtain ⟨a, b, ha, hb, p1, p2, dp, q⟩ := h
  exact rcNe_d I a b X.A x y v u p1 p2 ha hb rx ry (by omega) X.prog X.w X.xe _ ⟨.bl _, H, I, rfl, q⟩
theorem o_eq : Op2B rEqM eqD := fun H x y a b c Q ra rb e q => by
  unfold eqD at e
  split at e
  · cases e
    rename_i h
    exact ⟨a, b, ra, rb, h.1, h.2.1, h.2.2, q⟩
  · cases e
theorem o_ne : Op2B rNeM neD := fun H x y a b c Q ra rb e q => by
  unfold neD eqD at e
  split at e
  · cases e
    rename_i h
    exact ⟨a, b, ra, rb, h.1, h.2.1, h.2.2, q⟩
  · cases e
end VL

namespace VL
open PySem L2
variable [EC]

theorem mkS_app (a b : List Nat) : mkS a ++ mkS b = mkS (a ++ b) := by
  show PySem.Str.append (mkS a) (mkS b) = _
  simp [mkS, PySem.Str.append]
/-! whole numbers, texts -/
def addD : D → D → Option D
  | .int a, .int b => some (.int (a + b))
  | .str a, .str b => if a.length + b.length ≤ 16777216 then some (.str (a ++ b)) else none
  | _, _ => none
def subD : D → D → Option D | .int a, .int b => some (.int (a - b)) | _, _ => none
def mulD : D → D → Option D
  | .int a, .int b => if (-18446744073709551616 < a ∧ a < 18446744073709551616) ∨ (-18446744073709551616 < b ∧ b < 18446744073709551616) then some (.int (a * b)) else none
  | _, _ => none
def modD : D → D → Option D | .int a, .int b => if 0 < b then some (.int (a % b)) else none | _, _ => none
def fdivD : D → D → Option D | .int a, .int b => if 0 < b ∧ b < 1073741824 then some (.int (a / b)) else none | _, _ => none
def powD : D → D → Option D | .int a, .int b => if 0 ≤ b ∧ b ≤ 1000000 ∧ a.natAbs < 18446744073709551616 then some (.int (a ^ b.toNat)) else none | _, _ => none
def negD : D → Option D | .int a => some (.int (-a)) | _ => none
def rAddA : R2 := fun x y H Q => rI0 (fun i j => .int (i + j)) x y H Q ∨ (∃ i j, x = .str i ∧ y = .str j ∧ i.length + j.length ≤ sizeLine ∧ Q (.str (i ++ j)) H)
theorem op_addA {X : Cx} : OpR X (binaryOp .Add) rAddA := op_add.or op_add_str
theorem o_add : Op2C rAddA addD := fun G H x y a b c Q sm ra rb e q => by
  cases a <;> cases b <;> try (cases e; done)
  · cases e
    exact .inl ⟨_, _, ra, rb, q _ rfl⟩
  · simp only [addD] at e
    split at e
    · cases e
      rename_i i j h
      refine .inr ⟨_, _, ra, rb, by rw [mkS_len, mkS_len, sizeLine_eq]; exact h, ?_⟩
      rw [mkS_app]
      exact q _ rfl
    · cases e
theorem o_sub : Op2C (rI0 fun i j => .int (i - j)) subD := fun G H x y a b c Q sm ra rb e q => by
  cases a <;> cases b <;> try (cases e; done)
  cases e
  exact ⟨_, _, ra, rb, q _ rfl⟩
theorem o_mul : Op2C (rI CMul fun i j => .int (i * j)) mulD := fun G H x y a b c Q sm ra rb e q => by
  cases a <;> cases b <;> try (cases e; done)
  simp only [mulD] at e
  split at e
  · cases e
    rename_i i j h
    exact ⟨_, _, ra, rb, h, q _ rfl⟩
  · cases e
theorem o_mod : Op2C (rI (fun _ j => 0 < j) fun i j => .int (i % j)) modD := fun G H x y a b c Q sm ra rb e q => by
  cases a <;> cases b <;> try (cases e; done)
  simp only [modD] at e
  split at e
  · cases e
    rename_i i j h
    exact ⟨_, _, ra, rb, h, q _ rfl⟩
  · cases e
theorem o_fdiv : Op2C (rI CDiv fun i j => .int (i / j)) fdivD := fun G H x y a b c Q sm ra rb e q => by
  cases a <;> cases b <;> try (cases e; done)
  simp only [fdivD] at e
  split at e
  · cases e
    rename_i i j h
    exact ⟨_, _, ra, rb, h, q _ rfl⟩
  · cases e
theorem o_pow : Op2C (rI CPow fun i j => .int (i ^ j.toNat)) powD := fun G H x y a b c Q sm ra rb e q => by
  cases a <;> cases b <;> try (cases e; done)
  simp only [powD] at e
  split at e
  · cases e
    rename_i i j h
    exact ⟨_, _, ra, rb, h, q _ rfl⟩
  · cases e
theorem o_neg : Op1C (rU fun i => .int (-i)) negD := fun G H x a c Q sm ra e q => by
  cases a <;> try (cases e; done)
  cases e
  exact ⟨_, ra, q _ rfl⟩
/-! comparisons -/
def ltD : D → D → Option Bool | .int a, .int b => some (decide (a < b)) | .str a, .str b => some (decide (a < b)) | _, _ => none
def leD : D → D → Option Bool | .int a, .int b => some (decide (a ≤ b)) | _, _ => none
def gtD : D → D → Option Bool | .int a, .int b => some (decide (b < a)) | _, _ => none
def geD : D → D → Option Bool | .int a, .int b => some (decide (b ≤ a)) | _, _ => none
def rLtA : R2 := fun x y H Q => rI0 (fun i j => .bl (decide (i < j))) x y H Q ∨ (∃ i j, x = .str i ∧ y = .str j ∧ Q (.bl (decide (i.cps.toList < j.cps.toList))) H)
theorem op_ltA {X : Cx} : OpR X (compareOp .Lt) rLtA := op_lt.or op_lt_str
theorem o_lt : Op2B rLtA ltD := fun H x y a b c Q ra rb e q => by
  cases a <;> cases b <;> try (cases e; done)
  · cases e; exact .inl ⟨_, _, ra, rb, q⟩
  · cases e
    refine .inr ⟨_, _, ra, rb, ?_⟩
    rw [mkS_cps, mkS_cps]
    exact q
theorem o_le : Op2B (rI0 fun i j => .bl (decide (i ≤ j))) leD := fun H x y a b c Q ra rb e q => by
  cases a <;> cases b <;> try (cases e; done)
  cases e; exact ⟨_, _, ra, rb, q⟩
theorem o_gt : Op2B (rI0 fun i j => .bl (decide (j < i))) gtD := fun H x y a b c Q ra rb e q => by
  cases a <;> cases b <;> try (cases e; done)
  cases e; exact ⟨_, _, ra, rb, q⟩
theorem o_ge : Op2B (rI0 fun i j => .bl (decide (j ≤ i))) geD := fun H x y a b c Q ra rb e q => by
  cases a <;> cases b <;> try (cases e; done)
  cases e; exact ⟨_, _, ra, rb, q⟩
def isNoneD : D → Option Bool | .non => some true | .opq _ => none | _ => some false
theorem isNone_ok {H : Hp} {a : D} {x : V} {c : Bool} (ra : Rep H a x) (e : isNoneD a = some c) : decide (x = .non) = c := by
  cases a with
  | non => cases e; rw [show x = .non from ra]; rfl
  | bl _ => cases e; rw [show x = .bl _ from ra]; rfl
  | int _ => cases e; rw [show x = .int _ from ra]; rfl
  | str _ => cases e; rw [show x = .str _ from ra]; rfl
  | tup _ => cases e; obtain ⟨_, _, e, _⟩ := ra; rw [e]; rfl
  | lst _ => cases e; obtain ⟨_, _, e, _⟩ := ra; rw [e]; rfl
  | dct k _ =>
    cases e
    cases k with
    | false => obtain ⟨_, _, e, _⟩ := ra; rw [e]; rfl
    | true => obtain ⟨_, _, _, e, _⟩ := ra; rw [e]; rfl
  | opq _ => cases e
  | exc _ _ => cases e; obtain ⟨_, _, _, e, _⟩ := ra; rw [e]; rfl
  | fd _ _ _ => cases e; obtain ⟨_, e, _⟩ := ra; rw [e]; rfl
  | fz _ => cases e; obtain ⟨_, _, _, e, _⟩ := ra; rw [e]; rfl
theorem o_isN : Op2B (fun x y H Q => y = .non ∧ Q (.bl (decide (x = .non))) H) (fun a b => match b with | .non => isNoneD a | _ => none) := fun H x y a b c Q ra rb e q => by
  cases b <;> try (cases e; done)
  exact ⟨rb, by rw [isNone_ok ra e]; exact q⟩
theorem o_notN : Op2B (fun x y H Q => y = .non ∧ Q (.bl (!decide (x = .non))) H) (fun a b => match b with | .non => (isNoneD a).map not | _ => none) := fun H x y a b c Q ra rb e q => by
  cases b <;> try (cases e; done)
  refine ⟨rb, ?_⟩
  cases e2 : isNoneD a with
  | none => simp [e2] at e
  | some k =>
    simp [e2] at e
    rw [isNone_ok ra e2, e, Bool.not_not]; exact q
/-! in -/
def D.flat : D → Bool
  | .non => true | .bl _ => true | .int _ => true | .str _ => true | _ => false
theorem flat_ok {H : Hp} : ∀ {a : D} {x : V}, a.flat = true → Rep H a x → flatV x = true
  | .non, x, _, r => by rw [show x = .non from r]; rfl
  | .bl b, x, _, r => by rw [show x = .bl b from r]; rfl
  | .int b, x, _, r => by rw [show x = .int b from r]; rfl
  | .str b, x, _, r => by rw [show x = .str (mkS b) from r]; rfl
  | .tup _, x, f, _ => by cases f
  | .lst _, x, f, _ => by cases f
  | .dct _ _, x, f, _ => by cases f
  | .opq _, x, f, _ => by cases f
  | .exc _ _, x, f, _ => by cases f
  | .fd _ _ _, x, f, _ => by cases f
  | .fz _, x, f, _ => by cases f
theorem eqV_ok' {H : Hp} : ∀ (a b : D), ∀ (x y : V), a.flat = true → b.flat = true → Rep H a x → Rep H b y → eqV x y = D.eqv a b
  | .non, .non => by intro x y _ _ r q; rw [show x = .non from r, show y = .non from q]; rfl
  | .non, .bl b => by intro x y _ _ r q; rw [show x = .non from r, show y = .bl b from q]; rfl
  | .non, .int b => by intro x y _ _ r q; rw [show x = .non from r, show y = .int b from q]; rfl
  | .non, .str b => by intro x y _ _ r q; rw [show x = .non from r, show y = .str (mkS b) from q]; rfl
  | .bl a, .non => by intro x y _ _ r q; rw [show x = .bl a from r, show y = .non from q]; rfl
  | .bl a, .bl b => by intro x y _ _ r q; rw [show x = .bl a from r, show y = .bl b from q]; rfl
  | .bl a, .int b => by intro x y _ _ r q; rw [show x = .bl a from r, show y = .int b from q]; rfl
  | .bl a, .str b => by intro x y _ _ r q; rw [show x = .bl a from r, show y = .str (mkS b) from q]; rfl
  | .int a, .non => by intro x y _ _ r q; rw [show x = .int a from r, show y = .non from q]; rfl
  | .int a, .bl b => by intro x y _ _ r q; rw [show x = .int a from r, show y = .bl b from q]; rfl
  | .int a, .int b => by intro x y _ _ r q; rw [show x = .int a from r, show y = .int b from q]; rfl
  | .int a, .str b => by intro x y _ _ r q; rw [show x = .int a from r, show y = .str (mkS b) from q]; rfl
  | .str a, .non => by intro x y _ _ r q; rw [show x = .str (mkS a) from r, show y = .non from q]; rfl
  | .str a, .bl b => by intro x y _ _ r q; rw [show x = .str (mkS a) from r, show y = .bl b from q]; rfl
  | .str a, .int b => by intro x y _ _ r q; rw [show x = .str (mkS a) from r, show y = .int b from q]; rfl
  | .str a, .str b => by intro x y _ _ r q; rw [show x = .str (mkS a) from r, show y = .str (mkS b) from q]; exact mkS_beq a b
  | .tup _, _ => by intro x y f g; cases f
  | .lst _, _ => by intro x y f g; cases f
  | .dct _ _, _ => by intro x y f g; cases f
  | .opq _, _ => by intro x y f g; cases f
  | .exc _ _, _ => by intro x y f g; cases f
  | .fd _ _ _, _ => by intro x y f g; cases f
  | .fz _, _ => by intro x y f g; cases f
  | _, .tup _ => by intro x y f g; cases g
  | _, .lst _ => by intro x y f g; cases g
  | _, .dct _ _ => by intro x y f g; cases g
  | _, .opq _ => by intro x y f g; cases g
  | _, .exc _ _ => by intro x y f g; cases g
  | _, .fd _ _ _ => by intro x y f g; cases g
  | _, .fz _ => by intro x y f g; cases g
theorem eqV_ok {H : Hp} {a b : D} {x y : V} (f : a.flat = true) (g : b.flat = true) (r : Rep H a x) (q : Rep H b y) : eqV x y = D.eqv a b := eqV_ok' a b x y f g r q
theorem flats_ok {H : Hp} : ∀ {l : List D} {vs : List V}, l.all D.flat = true → Reps H l vs → vs.all flatV = true
  | [], _, _, h => by rw [show _ = [] from h]; rfl
  | d :: l, _, f, ⟨v, r, e, h, q⟩ => by
    subst e
    simp only [List.all_cons, Bool.and_eq_true] at f ⊢
    exact ⟨flat_ok f.1 h, flats_ok f.2 q⟩
theorem inV_ok {H : Hp} {a : D} {x : V} (f : a.flat = true) (r : Rep H a x) : ∀ {l : List D} {vs : List V}, l.all D.flat = true → Reps H l vs → inV x vs = l.any (fun d => D.eqv d a)
  | [], _, _, h => by rw [show _ = [] from h]; rfl
  | d :: l, _, g, ⟨v, q, e, h, k⟩ => by
    subst e
    simp only [List.all_cons, Bool.and_eq_true] at g
    have ih := inV_ok f r g.2 k
    unfold inV at ih ⊢
    rw [List.any_cons, List.any_cons, eqV_ok g.1 f h r, ih]
def inD (a : D) : D → Option Bool
  | .lst l => if a.flat = true ∧ l.all D.flat = true then some (l.any fun d => D.eqv d a) else none
  | .tup l => if a.flat = true ∧ l.all D.flat = true then some (l.any fun d => D.eqv d a) else none
  | .str z => match a with | .str [c] => some (decide (c ∈ z)) | _ => none
  | _ => none
def notInD (a b : D) : Option Bool := (inD a b).map not
def rInA (K : PySem.W.Frag) : R2 := fun x y H Q => rIn K false x y H Q ∨ (∃ (c : Nat) (z : Str), x = .str ⟨#[c]⟩ ∧ y = .str z ∧ Q (.bl (decide (c ∈ z.cps.toList))) H)
def rNotInA (K : PySem.W.Frag) : R2 := fun x y H Q => rIn K true x y H Q ∨ (∃ (c : Nat) (z : Str), x = .str ⟨#[c]⟩ ∧ y = .str z ∧ Q (.bl (!decide (c ∈ z.cps.toList))) H)
theorem op_inA {X : Cx} : OpR X (compareOp .In) (rInA X.K) := op_in_seq.or op_in_sign
theorem op_notInA {X : Cx} : OpR X (compareOp .NotIn) (rNotInA X.K) := op_notIn_seq.or op_notIn_sign
theorem in_cases {K : PySem.W.Frag} {H : Hp} {x y : V} {a b : D} {c : Bool} (ra : Rep H a x) (rb : Rep H b y) (e : inD a b = some c) :
    (∃ p xs, y = .ref p ∧ (SqL K H p xs ∨ SqT K H p xs) ∧ flatV x = true ∧ xs.all flatV = true ∧ inV x xs = c) ∨ ∃ (k : Nat) (z : Str), x = .str ⟨#[k]⟩ ∧ y = .str z ∧ decide (k ∈ z.cps.toList) = c := by
  cases b <;> try (cases e; done)
  · rename_i z
    cases a <;> try (cases e; done)
    rename_i w
    match w, e with
    | [k], e =>
      cases e
      exact .inr ⟨k, mkS z, ra, rb, by rw [mkS_cps]⟩
    | [], e => cases e
    | _ :: _ :: _, e => cases e
  · rename_i l
    simp only [inD] at e
    split at e
    · cases e
      rename_i h
      obtain ⟨p, xs, e, g, z, r⟩ := rb
      exact .inl ⟨p, xs, e, .inr (.inl (.inl g)), flat_ok h.1 ra, flats_ok h.2 r, inV_ok h.1 ra h.2 r⟩
    · cases e
  · rename_i l
    simp only [inD] at e
    split at e
    · cases e
      rename_i h
      obtain ⟨p, xs, e, g, z, r⟩ := rb
      exact .inl ⟨p, xs, e, .inl (.inl g), flat_ok h.1 ra, flats_ok h.2 r, inV_ok h.1 ra h.2 r⟩
    · cases e
theorem o_in {K : PySem.W.Frag} : Op2B (rInA K) inD := fun H x y a b c Q ra rb e q => by
  rcases in_cases (K := K) ra rb e with ⟨p, xs, e1, e2, e3, e4, e5⟩ | ⟨k, z, e1, e2, e3⟩
  · exact .inl ⟨p, xs, e1, e2, e3, e4, by simp only [Bool.false_eq_true, if_false]; rw [e5]; exact q⟩
  · exact .inr ⟨k, z, e1, e2, by rw [e3]; exact q⟩
theorem o_notIn {K : PySem.W.Frag} : Op2B (rNotInA K) notInD := fun H x y a b c Q ra rb e q => by
  unfold notInD at e
  cases e2 : inD a b with
  | none => rw [e2] at e; cases e
  | some c' =>
    rw [e2] at e
    cases e
    rcases in_cases (K := K) ra rb e2 with ⟨p, xs, e1, e2, e3, e4, e5⟩ | ⟨k, z, e1, e2, e3⟩
    · exact .inl ⟨p, xs, e1, e2, e3, e4, by simp only [if_true]; rw [e5]; exact q⟩
    · exact .inr ⟨k, z, e1, e2, by rw [e3]; exact q⟩
end VL

namespace VL
open PySem L2
variable [EC]

/-! lengths, items, slices -/
def lenD : D → Option D
  | .str x => if x.length ≤ 16777216 then some (.int x.length) else none
  | .lst l => some (.int l.length)
  | .tup l => some (.int l.length)
  | _ => none
def rLen (K : PySem.W.Frag) : List V → Hp → VK → Prop := fun xs H Q => ∃ x n, xs = [x] ∧ LenV K x H n ∧ Q (.int n) H
theorem o_len {K : PySem.W.Frag} : Op1C (fun x H Q => rLen K [x] H Q) lenD := fun G H x a c Q sm ra e q => by
  cases a <;> try (cases e; done)
  · simp only [lenD] at e
    split at e
    · cases e
      rename_i l h
      refine ⟨x, l.length, rfl, ?_, q _ rfl⟩
      rw [show x = .str (mkS l) from ra]
      exact ⟨by rw [mkS_len, sizeLine_eq]; exact h, (mkS_len l).symm⟩
    · cases e
  · cases e
    obtain ⟨p, vs, e, g, z, r⟩ := ra
    subst e
    exact ⟨_, _, rfl, .inr ⟨vs, .inl (.inl g), r.length⟩, q _ rfl⟩
  · cases e
    obtain ⟨p, vs, e, g, z, r⟩ := ra
    subst e
    exact ⟨_, _, rfl, .inl ⟨vs, .inl g, r.length⟩, q _ rfl⟩
theorem atI_reps {G : Hp} {l : List D} {vs : List V} {i : Int} {d : D} (r : Reps G l vs) (e : atI l i = some d) : ∃ v, atI vs i = some v ∧ Rep G d v := by
  unfold atI at e ⊢
  rw [← r.length]
  cases h : ixN l.length i with
  | none => rw [h] at e; cases e
  | some j =>
    rw [h] at e
    obtain ⟨v, a, b⟩ := r.get e
    exact ⟨v, a, b⟩
def ixD : D → D → Option D
  | .lst l, .int i => atI l i
  | .tup l, .int i => atI l i
  | .str x, .int i => if x.length ≤ 16777216 then (atI x i).map fun c => .str [c] else none
  | _, _ => none
def rIxA (K : PySem.W.Frag) : R2 := fun x y H Q => rIxL K x y H Q ∨ rIxT K x y H Q ∨ rIxS x y H Q
theorem ix_any {X : Cx} : IxR X (rIxA X.K) := fun value slice pins s σ H x y v u Q I rx ry h hs => by
  rcases h with h | h | h
  · exact ix_list value slice pins s σ H x y v u Q I rx ry h hs
  · exact ix_tup value slice pins s σ H x y v u Q I rx ry h hs
  · exact ix_str value slice pins s σ H x y v u Q I rx ry h hs
theorem o_ix {K : PySem.W.Frag} : Op2C (rIxA K) ixD := fun G H x y a b c Q sm ra rb e q => by
  cases a <;> cases b <;> try (cases e; done)
  · rename_i l i
    simp only [ixD] at e
    split at e
    · rename_i h
      cases e2 : atI l i with
      | none => rw [e2] at e; cases e
      | some k =>
        rw [e2] at e; cases e
        refine .inr (.inr ⟨mkS l, i, k, ra, rb, by rw [mkS_len, sizeLine_eq]; exact h, by rw [mkS_cps]; exact e2, q _ rfl⟩)
    · cases e
  · obtain ⟨p, vs, e1, g, z, r⟩ := ra
    obtain ⟨v, a1, a2⟩ := atI_reps r e
    exact .inr (.inl ⟨p, vs, _, v, e1, rb, .inl (.inl g), a1, q _ a2⟩)
  · obtain ⟨p, vs, e1, g, z, r⟩ := ra
    obtain ⟨v, a1, a2⟩ := atI_reps r e
    exact .inl ⟨p, vs, _, v, e1, rb, .inl g, a1, q _ a2⟩
/-- a slice's part -/
def cut {α : Type} (l : List α) (lo hi : Option Int) : List α := (l.drop (HT.sIx l.length 0 lo)).take (HT.sIx l.length l.length hi - HT.sIx l.length 0 lo)
theorem cut_len {α : Type} (l : List α) (lo hi : Option Int) : (cut l lo hi).length ≤ l.length := by
  unfold cut
  rw [List.length_take, List.length_drop]
  omega
def slL (lo hi : Option Int) : D → Option (List D)
  | .lst l => some (cut l lo hi)
  | _ => none
def slS (lo hi : Option Int) : D → Option D
  | .str x => if x.length ≤ 16777216 then some (.str (cut x lo hi)) else none
  | _ => none
section
variable {R : Type} {F : Fc} {tmp : Tmp} {s : State} {m : Res R} {K : Rs R} {N : Rn R} {Rt : Rr R} {ta tb : TE}
def RO (F : Fc) (tmp : Tmp) (s : State) (m : Res R) (t : TO) (K : Option Int → State → Res R → Prop) : Prop :=
  ∀ σ H Q, Holds F tmp s σ H → m ≠ .fail → EOk F m → (∀ o s' H', K o s' m → Holds F tmp s' σ H' → Q o H') → t σ H Q
theorem ro_none {K : Option Int → State → Res R → Prop} (k : K none s m) : RO F tmp s m tNoPart K := fun σ H Q hh _ _ q => q none s H k hh
theorem ro_some {K : Option Int → State → Res R → Prop} (h : RD F tmp s ta m (fun tm s1 m1 => ∃ d k, valS s1 tm = some d ∧ m1 = ob (asI d) k ∧ ∀ i, K (some i) s1 (k i))) : RO F tmp s m (tPart ta) K := fun σ H Q hh nf eo q =>
  h σ H _ hh nf eo fun tm s1 x H1 ⟨d, k, ea, em, hk⟩ h1 => by
    obtain ⟨c, ec, em'⟩ := ob_cases (by rw [← em]; exact nf)
    have h2 := h1
    obtain ⟨G, ω, h1⟩ := h1
    have r := h1.repC h1.tm.1 ea
    cases d <;> first | cases ec | skip
    exact ⟨_, r, q _ s1 H1 (by rw [em, em']; exact hk _) h2.pop⟩
theorem rd_slL {Kf : PySem.W.Frag} {tl th : TO} (h : RD F tmp s ta m (fun tm s1 m1 => ∀ x, RO F ((x, tm) :: tmp) s1 m1 tl (fun lo s2 m2 => RO F ((x, tm) :: tmp) s2 m2 th (fun hi s3 m3 => ∃ d k, valS s3 tm = some d ∧ m3 = ob (slL lo hi d) k ∧ ∀ c, K (.own (.l c)) s3 (k c))))) :
    RD F tmp s (tSl (rSlL Kf) ta tl th) m K := fun σ H Q hh nf eo q =>
  h σ H _ hh nf eo fun tm s1 x H1 h2 h1 => h2 x σ H1 _ h1 nf eo fun lo s2 H2 h3 hh2 => h3 σ H2 _ hh2 nf eo fun hi s3 H3 ⟨d, k, ea, em, hk⟩ hh3 => by
    obtain ⟨c, ec, em'⟩ := ob_cases (by rw [← em]; exact nf)
    obtain ⟨G, ω, h4⟩ := hh3
    have r := h4.repC h4.tm.1 ea
    cases d <;> first | cases ec | skip
    obtain ⟨p, vs, e1, g, z, r⟩ := r
    refine ⟨p, vs, e1, .inl g, fun p2 np => q _ s3 _ _ (by rw [em, em']; exact hk _) (h4.pop.newL np ?_ ?_)⟩
    · exact Nat.le_trans (cut_len _ lo hi) z
    · unfold cut cutV
      rw [← r.length]
      exact (r.drop _).take _
theorem rd_slS {tl th : TO} (h : RD F tmp s ta m (fun tm s1 m1 => ∀ x, RO F ((x, tm) :: tmp) s1 m1 tl (fun lo s2 m2 => RO F ((x, tm) :: tmp) s2 m2 th (fun hi s3 m3 => ∃ d k, valS s3 tm = some d ∧ m3 = ob (slS lo hi d) k ∧ ∀ c, K (.own (.f c)) s3 (k c))))) :
    RD F tmp s (tSl rSlS ta tl th) m K := fun σ H Q hh nf eo q =>
  h σ H _ hh nf eo fun tm s1 x H1 h2 h1 => h2 x σ H1 _ h1 nf eo fun lo s2 H2 h3 hh2 => h3 σ H2 _ hh2 nf eo fun hi s3 H3 ⟨d, k, ea, em, hk⟩ hh3 => by
    obtain ⟨c, ec, em'⟩ := ob_cases (by rw [← em]; exact nf)
    obtain ⟨G, ω, h4⟩ := hh3
    have r := h4.repC h4.tm.1 ea
    cases d <;> try (cases ec; done)
    rename_i l
    simp only [slS] at ec
    split at ec
    · cases ec
      rename_i hz
      refine ⟨mkS l, r, by rw [mkS_len, sizeLine_eq]; exact hz, q _ s3 _ _ (by rw [em, em']; exact hk _) ⟨G, ω, h4.pop.pushF ?_⟩⟩
      show V.str (cutS (mkS l) lo hi) = .str (mkS (cut l lo hi))
      unfold cutS cut
      rw [mkS_len, mkS_cps]; rfl
    · cases ec
end
/-! built-ins -/
def intD : D → Option D
  | .int i => some (.int i)
  | .bl b => some (.int (if b then 1 else 0))
  | .str x => if x.length ≤ 640 then (PySem.intText? (mkS x)).map .int else none
  | _ => none
def rInt : List V → Hp → VK → Prop := fun xs H Q => ((∃ i, xs = [.int i] ∧ Q (.int i) H) ∨ ∃ k, xs = [.bl k] ∧ Q (.int (if k then 1 else 0)) H) ∨ (∃ a n, xs = [.str a] ∧ PySem.intText? a = some n ∧ a.length ≤ 640 ∧ Q (.int n) H)
theorem CallR.or {X : Cx} {f : Value} {r r' : List V → Hp → VK → Prop} (h : CallR X f r) (h' : CallR X f r') : CallR X f (fun xs H Q => r xs H Q ∨ r' xs H Q) := by
  intro pins s σ H xs us Q I rv q
  rcases q with q | q
  · exact h pins s σ H xs us Q I rv q
  · exact h' pins s σ H xs us Q I rv q
theorem call_intA {X : Cx} : CallR X (.type "int") rInt := CallR.or call_int1 call_int_str
theorem o_int : Op1C (fun x H Q => rInt [x] H Q) intD := fun G H x a c Q sm ra e q => by
  cases a <;> try (cases e; done)
  · cases e
    exact .inl (.inr ⟨_, by rw [show x = _ from ra], q _ rfl⟩)
  · cases e
    exact .inl (.inl ⟨_, by rw [show x = _ from ra], q _ rfl⟩)
  · simp only [intD] at e
    split at e
    · rename_i l h
      cases e2 : PySem.intText? (mkS l) with
      | none => rw [e2] at e; cases e
      | some n =>
        rw [e2] at e; cases e
        exact .inr ⟨mkS l, n, by rw [show x = _ from ra], e2, by rw [mkS_len]; exact h, q _ rfl⟩
    · cases e
def listD : D → Option (List D) | .lst l => some l | .tup l => some l | _ => none
def rList (K : PySem.W.Frag) : List V → Hp → VK → Prop := fun xs H Q => ∃ p ys, xs = [V.ref p] ∧ (SqL K H p ys ∨ SqT K H p ys) ∧ ∀ (l : Addr), H l = none → Q (V.ref l) (upd H l (HO.lst ys))
theorem o_list {K : PySem.W.Frag} : Op1L (fun x H Q => rList K [x] H Q) listD := fun G H x a c Q sm ra e => by
  cases a <;> try (cases e; done)
  · cases e
    obtain ⟨p, vs, e, g, z, r⟩ := ra
    subst e
    exact ⟨z, fun q => ⟨p, vs, rfl, .inr (.inl (.inl g)), fun l nl => q l vs nl r⟩⟩
  · cases e
    obtain ⟨p, vs, e, g, z, r⟩ := ra
    subst e
    exact ⟨z, fun q => ⟨p, vs, rfl, .inl (.inl g), fun l nl => q l vs nl r⟩⟩
def minD : D → D → Option D | .int a, .int b => some (.int (if b < a then b else a)) | _, _ => none
def maxD : D → D → Option D | .int a, .int b => some (.int (if b > a then b else a)) | _, _ => none
theorem o_min : Op2C (fun x y H Q => (fun xs H Q => ∃ i j, xs = [V.int i, V.int j] ∧ Q (.int (if j < i then j else i)) H : List V → Hp → VK → Prop) [x, y] H Q) minD := fun G H x y a b c Q sm ra rb e q => by
  cases a <;> cases b <;> try (cases e; done)
  cases e
  exact ⟨_, _, by rw [show x = _ from ra, show y = _ from rb], q _ rfl⟩
theorem o_max : Op2C (fun x y H Q => (fun xs H Q => ∃ i j, xs = [V.int i, V.int j] ∧ Q (.int (if j > i then j else i)) H : List V → Hp → VK → Prop) [x, y] H Q) maxD := fun G H x y a b c Q sm ra rb e q => by
  cases a <;> cases b <;> try (cases e; done)
  cases e
  exact ⟨_, _, by rw [show x = _ from ra, show y = _ from rb], q _ rfl⟩
end VL

namespace VL
open PySem L2
variable [EC]

/-! temporaries in between -/
section
variable {F : Fc} {G H H' : Hp} {ω : Addr → Option Lab} {tmp : Tmp} {s : State} {σ : St} {v : V} {t : T} {d : D}
def phiMid (n e : Nat) : Lab → Option Lab
  | 1 :: j :: x => if j < n then some (1 :: j :: x) else if j < n + e then none else some (1 :: (j - e) :: x)
  | l => some l
theorem Tms.rlMid {φ : Lab → Option Lab} {tmp tmp' : Tmp} (h0 : Tms G H (VL.rl ω φ) σ tmp') (hlen : tmp'.length ≤ tmp.length) : ∀ (pre : Tmp), (∀ k x, k < pre.length → φ ([1, tmp.length + k] ++ x) = some ([1, tmp'.length + k] ++ x)) → Tms G H ω σ (pre ++ tmp) → Tms G H (VL.rl ω φ) σ (pre ++ tmp')
  | [], _, _ => h0
  | (v, tm) :: r, e, ⟨a, b⟩ => by
    refine ⟨?_, Tms.rlMid h0 hlen r (fun k x hk => e k x (Nat.lt_succ_of_lt hk)) b⟩
    cases tm with
    | own t =>
      have := e r.length
      refine Own.rl a fun x => ?_
      have q := e r.length x (Nat.lt_succ_self _)
      have l1 : (r.append tmp).length = tmp.length + r.length := by show (r ++ tmp).length = _; rw [List.length_append]; omega
      have l2 : (r.append tmp').length = tmp'.length + r.length := by show (r ++ tmp').length = _; rw [List.length_append]; omega
      rw [l1, l2]
      exact q
    | ali i => exact a
theorem Holds.dropMid {ex : Tmp} (pre : Tmp) (h : Holds F (pre ++ (ex ++ tmp)) s σ H) : Holds F (pre ++ tmp) s σ H := by
  obtain ⟨G, ω, h⟩ := h
  have ht : Tms G H ω σ tmp := Tms.tail ex (Tms.tail pre h.tm)
  refine ⟨G, rl ω (phiMid tmp.length ex.length), h.rl _ s σ _ h.len (fun j u e => ?_) ?_ h.pn⟩
  · obtain ⟨v', e1, e2⟩ := h.sl j u e
    exact ⟨v', e1, Own.rl e2 fun x => by simp [phiMid]⟩
  · refine Tms.rlMid (tmp := ex ++ tmp) (tmp' := tmp) (Tms.rl tmp (fun j x hj => ?_) ht) (by rw [List.length_append]; omega) pre (fun k x hk => ?_) h.tm
    · simp [phiMid, hj]
    · have h1 : ¬ (ex ++ tmp).length + k < tmp.length := by simp; omega
      have h2 : ¬ (ex ++ tmp).length + k < tmp.length + ex.length := by simp; omega
      have h3 : (ex ++ tmp).length + k - ex.length = tmp.length + k := by simp; omega
      simp only [phiMid, List.cons_append, List.nil_append]
      rw [if_neg h1, if_neg h2, h3]
theorem Tms.at {G H : Hp} {ω : Addr → Option Lab} {σ : St} {v : V} {tm : TM} {tmp : Tmp} : ∀ (pre : Tmp), Tms G H ω σ (pre ++ ((v, tm) :: tmp)) → TmOk G H ω σ [1, tmp.length] tm v
  | [], h => h.1
  | _ :: r, h => Tms.at r h.2
theorem Hd.pushNewT (h : Hd F G ω tmp s σ H) {p : Addr} {a b : D} {x y : V} (n : H p = none) (ra : Rep G a x) (rb : Rep G b y) : Holds F ((.ref p, .own (.f (.tup [a, b]))) :: tmp) s σ (upd H p (.tup [x, y])) :=
  h.newT n (by rw [sizeLine_eq]; show 2 ≤ 16777216; omega) ⟨x, [y], rfl, ra, y, [], rfl, rb, rfl⟩
end
section
variable {R : Type} {F : Fc} {tmp : Tmp} {s : State} {m : Res R} {K : Rs R} {N : Rn R} {Rt : Rr R} {ta tb te to : TE}
abbrev Ki (R : Type) := Tmp → (State → Prop) → (State → State) → List D → State → Res R → Prop
/-! what a for walks -/
theorem ri_list {Kf : PySem.W.Frag} {K : Ki R} (h : RD F tmp s ta m (fun tm s1 m1 => ∃ ds, valS s1 tm = some (.lst ds) ∧ ∀ v, K [(v, tm)] (fun s => valS s tm = valS s1 tm) id ds s1 m1)) : RI F tmp s m (iList Kf ta) K := fun σ H Q hh nf eo q =>
  h σ H _ hh nf eo fun tm s1 x H1 ⟨ds, ea, hk⟩ h1 => by
    have at_ : ∀ (pre : Tmp) s σ H, valS s tm = some (.lst ds) → Holds F (pre ++ ([(x, tm)] ++ tmp)) s σ H → ∃ a vs G ω, x = .ref a ∧ Rd H a (.lst vs) ∧ Hd F G ω (pre ++ ([(x, tm)] ++ tmp)) s σ H ∧ Reps G ds vs ∧ ds.length ≤ sizeLine := fun pre s σ H e ⟨G, ω, h⟩ => by
      obtain ⟨a, vs, e1, g, z, r⟩ := h.repC (Tms.at (tm := tm) (tmp := tmp) pre h.tm) e
      exact ⟨a, vs, G, ω, e1, g, h, r, z⟩
    have hp' : ∀ {s : State}, valS s tm = valS s1 tm → valS s tm = some (.lst ds) := fun h => h.trans ea
    obtain ⟨a, vs, G, ω, e1, g, h2, r, z⟩ := at_ [] s1 σ H1 ea h1
    refine ⟨a, e1, ⟨vs, .inl g⟩, q [(x, tm)] _ id ds s1 (Itl Kf a) H1 (hk x) ⟨fun pre s σ H _ h => h.dropMid pre, z, fun s σ H i hp hh hi => ?_, fun s σ H hp hh => ?_, fun pre s σ H i d y H' hp hh hd hy => ?_⟩ h1⟩
    · obtain ⟨a', vs', G', ω', e2, g2, _, r2, _⟩ := at_ [] s σ H (hp' hp) hh
      rw [e1] at e2; cases e2
      have hl : i < vs'.length := by rw [← r2.length]; exact hi
      exact ⟨vs', vs'[i], .inl g2, by simp [hl]⟩
    · obtain ⟨a', vs', G', ω', e2, g2, _, r2, _⟩ := at_ [] s σ H (hp' hp) hh
      rw [e1] at e2; cases e2
      exact ⟨vs', .inl g2, by rw [r2.length]; exact Nat.le_refl _⟩
    · obtain ⟨a', vs', G', ω', e2, g2, h3, r2, _⟩ := at_ pre s σ H (hp' hp) hh
      rw [e1] at e2; cases e2
      obtain ⟨rfl, hy⟩ := hy
      have hy := hy vs' (.inl g2)
      obtain ⟨w, w1, w2⟩ := r2.get hd
      rw [hy] at w1; cases w1
      exact ⟨G', ω', h3.pushF w2⟩
def rngD (a b : D) : Option (List D) := match a, b with
  | .int i, .int j => if -1000000000 ≤ i ∧ i ≤ 1000000000 ∧ -1000000000 ≤ j ∧ j ≤ 1000000000 ∧ j - i ≤ 16777216 then some ((List.range (j - i).toNat).map fun k => .int (i + (k : Nat))) else none
  | _, _ => none
theorem it_range {lo : Int} {n : Nat} (hn : n ≤ 16777216) : ItOk F tmp ([] ++ tmp) (fun _ => True) id (Itr lo n) ((List.range n).map fun k => .int (lo + (k : Nat))) := by
  refine ⟨fun pre s σ H _ h => h.dropMid (ex := []) pre, by rw [sizeLine_eq]; simpa using hn, fun s σ H i _ _ hi => by show i < n; simpa using hi, fun s σ H _ _ => by show n ≤ _; simp, fun pre s σ H i d x H' _ hh hd hy => ?_⟩
  obtain ⟨rfl, rfl⟩ := hy
  rw [List.getElem?_map] at hd
  cases e : (List.range n)[i]? with
  | none => rw [e] at hd; cases hd
  | some k =>
    rw [e] at hd
    cases hd
    have : i = k := by
      rw [List.getElem?_range (by have := (List.getElem?_eq_some_iff.mp e).1; simpa using this)] at e
      exact Option.some.inj e
    subst this
    exact holds_push (d := .int _) hh fun _ => rfl
theorem ri_range1 {K : Ki R} (h : RD F tmp s ta m (fun tm s1 m1 => ∃ d k, valS s1 tm = some d ∧ m1 = ob (rngD (.int 0) d) k ∧ ∀ ds, K [] (fun _ => True) id ds s1 (k ds))) : RI F tmp s m (iRng1 (tCons ta tNil)) K := fun σ H Q hh nf eo q =>
  h σ H _ hh nf eo fun tm s1 x H1 ⟨d, k, ea, em, hk⟩ h1 => by
    obtain ⟨c, ec, em'⟩ := ob_cases (by rw [← em]; exact nf)
    have h2 := h1
    obtain ⟨G, ω, h1⟩ := h1
    have r := h1.repC h1.tm.1 ea
    cases d <;> try (cases ec; done)
    rename_i j
    simp only [rngD] at ec
    split at ec
    · cases ec
      rename_i hb
      have r' : x = .int j := r
      subst r'
      refine ⟨j, rfl, by omega, by omega, q [] _ id _ s1 _ H1 (by rw [em, em']; exact hk _) ?_ h2.pop⟩
      have := it_range (F := F) (tmp := tmp) (lo := 0) (n := j.toNat) (by omega)
      simpa using this
    · cases ec
theorem ri_range2 {K : Ki R} (h : RD F tmp s ta m (fun tm1 s1 m1 => ∀ x, RD F ((x, tm1) :: tmp) s1 tb m1 (fun tm2 s2 m2 => ∃ a b k, valS s2 tm1 = some a ∧ valS s2 tm2 = some b ∧ m2 = ob (rngD a b) k ∧ ∀ ds, K [] (fun _ => True) id ds s2 (k ds)))) : RI F tmp s m (iRng2 (tCons ta (tCons tb tNil))) K := fun σ H Q hh nf eo q =>
  h σ H _ hh nf eo fun tm1 s1 x H1 h2 h1 => h2 x σ H1 _ h1 nf eo fun tm2 s2 y H2 ⟨a, b, k, ea, eb, em, hk⟩ h3 => by
    obtain ⟨c, ec, em'⟩ := ob_cases (by rw [← em]; exact nf)
    have h4 := h3
    obtain ⟨G, ω, h3⟩ := h3
    have r1 := h3.repC h3.tm.2.1 ea
    have r2 := h3.repC h3.tm.1 eb
    cases a <;> cases b <;> try (cases ec; done)
    rename_i i j
    simp only [rngD] at ec
    split at ec
    · cases ec
      rename_i hb
      have r1' : x = .int i := r1
      have r2' : y = .int j := r2
      subst r1'; subst r2'
      refine ⟨i, j, rfl, ⟨by omega, by omega, by omega, by omega⟩, q [] _ id _ s2 _ H2 (by rw [em, em']; exact hk _) (it_range (by omega)) h4.pop.pop⟩
    · cases ec
def enumD : Nat → List D → List D
  | _, [] => []
  | i, d :: r => .tup [.int (i : Nat), d] :: enumD (i + 1) r
omit [EC] in
theorem enumD_len : ∀ (l : List D) (i : Nat), (enumD i l).length = l.length
  | [], _ => rfl
  | _ :: r, i => by simp [enumD, enumD_len r]
omit [EC] in
theorem enumD_get : ∀ (l : List D) (i k : Nat) (d : D), (enumD i l)[k]? = some d → ∃ e, l[k]? = some e ∧ d = .tup [.int ((i + k : Nat)), e]
  | [], _, _, _, h => by simp [enumD] at h
  | x :: r, i, 0, d, h => by simp [enumD] at h; exact ⟨x, rfl, by rw [← h]; rfl⟩
  | x :: r, i, k + 1, d, h => by
    obtain ⟨e, a, b⟩ := enumD_get r (i + 1) k d (by simpa [enumD] using h)
    exact ⟨e, by simpa using a, by rw [b, show i + 1 + k = i + (k + 1) by omega]⟩
theorem ri_enum {Kf : PySem.W.Frag} {K : Ki R} (h : RD F tmp s ta m (fun tm s1 m1 => ∃ ds, valS s1 tm = some (.lst ds) ∧ ∀ v, K [(v, tm)] (fun s => valS s tm = valS s1 tm) id (enumD 0 ds) s1 m1)) : RI F tmp s m (iEnum Kf (tCons ta tNil)) K := fun σ H Q hh nf eo q =>
  h σ H _ hh nf eo fun tm s1 x H1 ⟨ds, ea, hk⟩ h1 => by
    have at_ : ∀ (pre : Tmp) s σ H, valS s tm = some (.lst ds) → Holds F (pre ++ ([(x, tm)] ++ tmp)) s σ H → ∃ a vs G ω, x = .ref a ∧ Rd H a (.lst vs) ∧ Hd F G ω (pre ++ ([(x, tm)] ++ tmp)) s σ H ∧ Reps G ds vs ∧ ds.length ≤ sizeLine := fun pre s σ H e ⟨G, ω, h⟩ => by
      obtain ⟨a, vs, e1, g, z, r⟩ := h.repC (Tms.at (tm := tm) (tmp := tmp) pre h.tm) e
      exact ⟨a, vs, G, ω, e1, g, h, r, z⟩
    have hp' : ∀ {s : State}, valS s tm = valS s1 tm → valS s tm = some (.lst ds) := fun h => h.trans ea
    obtain ⟨a, vs, G, ω, e1, g, h2, r, z⟩ := at_ [] s1 σ H1 ea h1
    refine ⟨a, vs, by rw [e1], .inl g, q [(x, tm)] _ id _ s1 (Ite Kf a) H1 (hk x) ⟨fun pre s σ H _ h => h.dropMid pre, by rw [enumD_len]; exact z, fun s σ H i hp hh hi => ?_, fun s σ H hp hh => ?_, fun pre s σ H i d y H' hp hh hd hy => ?_⟩ h1⟩
    · obtain ⟨a', vs', G', ω', e2, g2, _, r2, _⟩ := at_ [] s σ H (hp' hp) hh
      rw [e1] at e2; cases e2
      rw [enumD_len] at hi
      exact (walk_enum (K := Kf) (a := a) (xs := vs')).goes i H (by rw [← r2.length]; exact hi) (.inl g2)
    · obtain ⟨a', vs', G', ω', e2, g2, _, r2, _⟩ := at_ [] s σ H (hp' hp) hh
      rw [e1] at e2; cases e2
      rw [enumD_len, r2.length]
      exact (walk_enum (K := Kf) (a := a) (xs := vs')).stops H (.inl g2)
    · obtain ⟨a', vs', G', ω', e2, g2, h3, r2, _⟩ := at_ pre s σ H (hp' hp) hh
      rw [e1] at e2; cases e2
      obtain ⟨e, e3, e4⟩ := enumD_get ds 0 i d hd
      obtain ⟨w, w1, w2⟩ := r2.get e3
      obtain ⟨p, x1, x2, rfl, np, rfl, y1, y2⟩ := (walk_enum (K := Kf) (a := a) (xs := vs')).yields i H y H' ((List.getElem?_eq_some_iff.mp w1).1) (.inl g2) hy
      have y1' : x1 = .int (i : Nat) := (Option.some.inj y1).symm
      have y2' : vs'[i]? = some x2 := y2
      rw [w1] at y2'; cases y2'
      subst y1'
      rw [e4, Nat.zero_add]
      exact h3.pushNewT np rfl w2
def zipD : List D → List D → List D
  | a :: r, b :: q => .tup [a, b] :: zipD r q
  | _, _ => []
theorem zipD_len : ∀ (l m : List D), (zipD l m).length = min l.length m.length
  | [], _ => by simp [zipD]
  | _ :: _, [] => by simp [zipD]
  | _ :: r, _ :: q => by simp only [zipD, List.length_cons, zipD_len r q]; omega
theorem zipD_get : ∀ (l m : List D) (k : Nat) (d : D), (zipD l m)[k]? = some d → ∃ a b, l[k]? = some a ∧ m[k]? = some b ∧ d = .tup [a, b]
  | [], _, _, _, h => by simp [zipD] at h
  | _ :: _, [], _, _, h => by simp [zipD] at h
  | x :: r, y :: q, 0, d, h => by simp [zipD] at h; exact ⟨x, y, rfl, rfl, h.symm⟩
  | x :: r, y :: q, k + 1, d, h => by
    obtain ⟨a, b, h1, h2, h3⟩ := zipD_get r q k d (by simpa [zipD] using h)
    exact ⟨a, b, by simpa using h1, by simpa using h2, h3⟩
theorem ri_zip {Kf : PySem.W.Frag} {K : Ki R} (h : RD F tmp s ta m (fun tm1 s1 m1 => ∀ x, RD F ((x, tm1) :: tmp) s1 tb m1 (fun tm2 s2 m2 => ∃ da db, valS s2 tm1 = some (.lst da) ∧ valS s2 tm2 = some (.lst db) ∧ ∀ y, K [(y, tm2), (x, tm1)] (fun s => valS s tm1 = valS s2 tm1 ∧ valS s tm2 = valS s2 tm2) id (zipD da db) s2 m2))) : RI F tmp s m (iZip Kf (tCons ta (tCons tb tNil))) K := fun σ H Q hh nf eo q =>
  h σ H _ hh nf eo fun tm1 s1 x H1 hx h1 => hx x σ H1 _ h1 nf eo fun tm2 s2 y H2 ⟨da, db, ea, eb, hk⟩ h2 => by
    have at_ : ∀ (pre : Tmp) s σ H, (valS s tm1 = some (.lst da) ∧ valS s tm2 = some (.lst db)) → Holds F (pre ++ ([(y, tm2), (x, tm1)] ++ tmp)) s σ H → ∃ a b vs ws G ω, x = .ref a ∧ y = .ref b ∧ Rd H a (.lst vs) ∧ Rd H b (.lst ws) ∧ Hd F G ω (pre ++ ([(y, tm2), (x, tm1)] ++ tmp)) s σ H ∧ Reps G da vs ∧ Reps G db ws ∧ da.length ≤ sizeLine := fun pre s σ H e ⟨G, ω, h⟩ => by
      have q1 := Tms.at (tm := tm2) (tmp := (x, tm1) :: tmp) pre h.tm
      have q2 := Tms.at (tm := tm1) (tmp := tmp) (pre ++ [(y, tm2)]) (by rw [List.append_assoc]; exact h.tm)
      obtain ⟨b, ws, e2, g2, z2, r2⟩ := h.repC q1 e.2
      obtain ⟨a, vs, e1, g1, z1, r1⟩ := h.repC q2 e.1
      exact ⟨a, b, vs, ws, G, ω, e1, e2, g1, g2, h, r1, r2, z1⟩
    have hp' : ∀ {s : State}, (valS s tm1 = valS s2 tm1 ∧ valS s tm2 = valS s2 tm2) → (valS s tm1 = some (.lst da) ∧ valS s tm2 = some (.lst db)) := fun h => ⟨h.1.trans ea, h.2.trans eb⟩
    obtain ⟨a, b, vs, ws, G, ω, e1, e2, g1, g2, h3, r1, r2, z⟩ := at_ [] s2 σ H2 ⟨ea, eb⟩ h2
    refine ⟨a, b, vs, ws, by rw [e1, e2], .inl g1, .inl g2, q [(y, tm2), (x, tm1)] _ id _ s2 (Itz Kf a b) H2 (hk y) ⟨fun pre s σ H _ h => h.dropMid pre, by rw [zipD_len]; omega, fun s σ H i hp hh hi => ?_, fun s σ H hp hh => ?_, fun pre s σ H i d v H' hp hh hd hy => ?_⟩ h2⟩
    · obtain ⟨a', b', vs', ws', G', ω', e3, e4, g3, g4, _, r3, r4, _⟩ := at_ [] s σ H (hp' hp) hh
      rw [e1] at e3; cases e3; rw [e2] at e4; cases e4
      rw [zipD_len] at hi
      exact (walk_zip (K := Kf) (a := a) (b := b) (xs := vs') (ys := ws') rfl).goes i H (by rw [← r3.length, ← r4.length]; exact hi) ⟨.inl g3, .inl g4⟩
    · obtain ⟨a', b', vs', ws', G', ω', e3, e4, g3, g4, _, r3, r4, _⟩ := at_ [] s σ H (hp' hp) hh
      rw [e1] at e3; cases e3; rw [e2] at e4; cases e4
      rw [zipD_len, r3.length, r4.length]
      exact (walk_zip (K := Kf) (a := a) (b := b) (xs := vs') (ys := ws') rfl).stops H ⟨.inl g3, .inl g4⟩
    · obtain ⟨a', b', vs', ws', G', ω', e3, e4, g3, g4, h5, r3, r4, _⟩ := at_ pre s σ H (hp' hp) hh
      rw [e1] at e3; cases e3; rw [e2] at e4; cases e4
      obtain ⟨da', db', d1, d2, d3⟩ := zipD_get da db i d hd
      obtain ⟨w, w1, w2⟩ := r3.get d1
      obtain ⟨w', w1', w2'⟩ := r4.get d2
      have l1 := (List.getElem?_eq_some_iff.mp w1).1
      have l2 := (List.getElem?_eq_some_iff.mp w1').1
      obtain ⟨p, x1, x2, rfl, np, rfl, y1, y2⟩ := (walk_zip (K := Kf) (a := a) (b := b) (xs := vs') (ys := ws') rfl).yields i H v H' (by omega) ⟨.inl g3, .inl g4⟩ hy
      have y1' : vs'[i]? = some x1 := y1
      have y2' : ws'[i]? = some x2 := y2
      rw [w1] at y1'; cases y1'
      rw [w1'] at y2'; cases y2'
      rw [d3]
      exact h5.pushNewT np w2 w2'
def strL (x : List Nat) : List D := x.map fun c => .str [c]
def strLD : D → Option (List D) | .str x => if x.length ≤ 16777216 then some (strL x) else none | _ => none
theorem ri_str {K : Ki R} (h : RD F tmp s ta m (fun tm s1 m1 => ∃ d k, valS s1 tm = some d ∧ m1 = ob (strLD d) k ∧ ∀ ds, K [] (fun _ => True) id ds s1 (k ds))) : RI F tmp s m (iStr ta) K := fun σ H Q hh nf eo q =>
  h σ H _ hh nf eo fun tm s1 x H1 ⟨d, k, ea, em, hk⟩ h1 => by
    obtain ⟨c, ec, em'⟩ := ob_cases (by rw [← em]; exact nf)
    have h2 := h1
    obtain ⟨G, ω, h1⟩ := h1
    have r := h1.repC h1.tm.1 ea
    cases d <;> try (cases ec; done)
    rename_i z
    simp only [strLD] at ec
    split at ec
    · rename_i hz
      cases ec
      have r' : x = .str (mkS z) := r
      refine ⟨mkS z, r', q [] _ id _ s1 _ H1 (by rw [em, em']; exact hk _) ⟨fun pre s σ H _ h => h.dropMid (ex := []) pre, by rw [sizeLine_eq]; simpa [strL] using hz, fun s σ H i _ _ hi => ?_, fun s σ H _ _ => ?_, fun pre s σ H i d x H' _ hh hd hy => ?_⟩ h2.pop⟩
      · exact (walk_str (z := mkS z)).goes i H (by simpa [strL, mkS] using hi) trivial
      · have := (walk_str (z := mkS z)).stops H trivial
        simpa [strL, mkS] using this
      · obtain ⟨rfl, c, c1, rfl⟩ := hy
        unfold strL at hd
        rw [List.getElem?_map] at hd
        have : z[i]? = some c := by
          have h5 : (mkS z).cps[i]? = some c := c1
          simpa [mkS] using h5
        rw [this] at hd
        cases hd
        exact holds_push (d := .str [c]) hh fun _ => rfl
    · cases ec
/-! targets of two names -/
end
end VL

namespace VL
open PySem L2
variable [EC]

/-! methods of lists in slots -/
def apL (ds : List D) (d : D) : Option (List D) := if ds.length < 16777216 then some (ds ++ [d]) else none
def popL (ds : List D) : Option (D × List D) := match ds[ds.length - 1]? with | some d => some (d, ds.dropLast) | none => none
def popAtL (ds : List D) : D → Option (D × List D)
  | .int i => match ixN ds.length i with
    | some k => match ds[k]? with | some d => some (d, ds.eraseIdx k) | none => none
    | none => none
  | _ => none
def setL (ds : List D) (k : D) (d : D) : Option (List D) := match k with
  | .int i => (ixN ds.length i).map fun j => ds.set j d
  | _ => none
section
variable {R : Type} {F : Fc} {tmp : Tmp} {s : State} {m : Res R} {K : Rs R} {N : Rn R} {Rt : Rr R} {ta tb te to : TE} {Kf : PySem.W.Frag}
theorem Holds.tyL {i : Nat} {ds : List D} {x : V} {σ : St} {H : Hp} (h : Holds F ((x, .ali i) :: tmp) s σ H) (hi : s[i]? = some (some (.l ds))) : tyV Kf "list" x H ∧ σ[i]? = some (some x) := by
  obtain ⟨G, ω, h⟩ := h
  obtain ⟨v, e1, a, vs, e2, ha, hw, z, r⟩ := h.sl i _ hi
  have ok : σ[i]? = some (some x) := h.tm.1
  rw [ok] at e1
  cases e1
  subst e2
  exact ⟨.inl ⟨rfl, vs, .inl (.inl ha)⟩, ok⟩
theorem rd_append (h : RD F tmp s to m (fun tm1 s1 m1 => ∃ i ds0, tm1 = .ali i ∧ s1[i]? = some (some (.l ds0)) ∧ ∀ x, RD F ((x, .ali i) :: tmp) s1 te m1 (fun tm2 s2 m2 => ∃ d ds k, tm2 = .own (.f d) ∧ s2[i]? = some (some (.l ds)) ∧ m2 = ob (apL ds d) k ∧ ∀ ds', K (.own (.f .non)) (s2.set i (some (.l ds'))) (k ds')))) :
    RD F tmp s (tBM Kf "list" rAppend to (tCons te tNil)) m K := fun σ H Q hh nf eo q =>
  h σ H _ hh nf eo fun tm1 s1 x H1 ⟨i, ds0, e1, hi0, h2⟩ h1 => by
    subst e1
    refine ⟨(h1.tyL hi0).1, h2 x σ H1 _ h1 nf eo fun tm2 s2 y H2 ⟨d, ds, k, e2, hi, em, hk⟩ h3 => ?_⟩
    subst e2
    obtain ⟨c, ec, em'⟩ := ob_cases (by rw [← em]; exact nf)
    obtain ⟨a, vs, sa, ha, hl, hz, _, up⟩ := h3.wrSlot hi
    have ex := (h3.pop.tyL (Kf := Kf) hi).2
    rw [sa] at ex; cases ex
    unfold apL at ec
    split at ec
    · cases ec
      rename_i hlt
      refine ⟨a, vs, y, rfl, rfl, ha, by rw [hl, sizeLine_eq]; exact hlt, ?_⟩
      have h4 := up (ds ++ [d]) (vs ++ [y]) (by rw [sizeLine_eq]; simp; omega) fun G _ _ r ht => r.append ⟨y, [], rfl, ht _ _ rfl d rfl, rfl⟩
      exact q _ _ .non _ (by rw [em, em']; exact hk _) (holds_push (d := .non) h4.pop.pop fun _ => rfl)
    · cases ec
theorem rd_pop (h : RD F tmp s to m (fun tm1 s1 m1 => ∃ i ds k, tm1 = .ali i ∧ s1[i]? = some (some (.l ds)) ∧ m1 = ob (popL ds) k ∧ ∀ p : D × List D, K (.own (.f p.1)) (s1.set i (some (.l p.2))) (k p))) :
    RD F tmp s (tBM0 Kf "list" rPop to) m K := fun σ H Q hh nf eo q =>
  h σ H _ hh nf eo fun tm1 s1 x H1 ⟨i, ds, k, e1, hi, em, hk⟩ h1 => by
    subst e1
    refine ⟨(h1.tyL hi).1, ?_⟩
    obtain ⟨c, ec, em'⟩ := ob_cases (by rw [← em]; exact nf)
    obtain ⟨a, vs, sa, ha, hl, hz, get, _⟩ := h1.wrSlot hi
    have ex := (h1.tyL (Kf := Kf) hi).2
    rw [sa] at ex; cases ex
    unfold popL at ec
    split at ec
    · rename_i d hd
      cases ec
      obtain ⟨v, e2, hp⟩ := get _ _ hd
      have h2 := hp (x := v) rfl
      obtain ⟨a', vs', sa', ha', hl', hz', _, up⟩ := h2.wrSlot hi
      rw [sa] at sa'; cases sa'
      rw [ha] at ha'; cases ha'
      refine ⟨a, vs, v, rfl, rfl, ha, by rw [hl]; exact e2, ?_⟩
      have h4 := up ds.dropLast vs.dropLast (by rw [List.length_dropLast]; omega) fun G _ _ r ht => r.dropLast
      obtain ⟨G, ω, h4⟩ := h4
      exact q _ _ v _ (by rw [em, em']; exact hk (_, _)) ⟨G, ω, h4.pop.pop.pushF h4.topF⟩
    · cases ec
theorem rd_popAt (h : RD F tmp s to m (fun tm1 s1 m1 => ∃ i ds0, tm1 = .ali i ∧ s1[i]? = some (some (.l ds0)) ∧ ∀ x, RD F ((x, .ali i) :: tmp) s1 te m1 (fun tm2 s2 m2 => ∃ di ds k, valS s2 tm2 = some di ∧ s2[i]? = some (some (.l ds)) ∧ m2 = ob (popAtL ds di) k ∧ ∀ p : D × List D, K (.own (.f p.1)) (s2.set i (some (.l p.2))) (k p)))) :
    RD F tmp s (tBM Kf "list" rPopAt to (tCons te tNil)) m K := fun σ H Q hh nf eo q =>
  h σ H _ hh nf eo fun tm1 s1 x H1 ⟨i, ds0, e1, hi0, h2⟩ h1 => by
    subst e1
    refine ⟨(h1.tyL hi0).1, h2 x σ H1 _ h1 nf eo fun tm2 s2 y H2 ⟨di, ds, k, e2, hi, em, hk⟩ h3 => ?_⟩
    obtain ⟨c, ec, em'⟩ := ob_cases (by rw [← em]; exact nf)
    have ey : ∃ j, di = .int j ∧ y = .int j := by
      obtain ⟨G, ω, h4⟩ := h3
      have r := h4.repC h4.tm.1 e2
      cases di <;> try (cases ec; done)
      exact ⟨_, rfl, r⟩
    obtain ⟨j, rfl, rfl⟩ := ey
    have h3 := h3.pop
    obtain ⟨a, vs, sa, ha, hl, hz, get, _⟩ := h3.wrSlot hi
    have ex := (h3.tyL (Kf := Kf) hi).2
    rw [sa] at ex; cases ex
    simp only [popAtL] at ec
    split at ec
    · rename_i k0 hk0
      split at ec
      · rename_i d hd
        cases ec
        obtain ⟨v, e2, hp⟩ := get _ _ hd
        have h2 := hp (x := v) rfl
        obtain ⟨a', vs', sa', ha', hl', hz', _, up⟩ := h2.wrSlot hi
        rw [sa] at sa'; cases sa'
        rw [ha] at ha'; cases ha'
        obtain ⟨i1, i2, i3, i4⟩ := ixN_seq hk0
        have hb : (ds.length : Int) ≤ 16777216 := by rw [sizeLine_eq] at hz; omega
        refine ⟨a, vs, j, k0, v, rfl, rfl, ha, by omega, by omega, by rw [hl]; exact i1, e2, ?_⟩
        have h4 := up (ds.eraseIdx k0) (vs.eraseIdx k0) (by rw [List.length_eraseIdx]; split <;> omega) fun G _ _ r ht => r.eraseIdx k0
        obtain ⟨G, ω, h4⟩ := h4
        exact q _ _ v _ (by rw [em, em']; exact hk (_, _)) ⟨G, ω, h4.pop.pop.pushF h4.topF⟩
      · cases ec
    · cases ec
/-- x[i] = v -/
theorem rs_setL (h : RD F tmp s te m (fun tm1 s1 m1 => ∃ d, tm1 = .own (.f d) ∧ ∀ v, RD F ((v, .own (.f d)) :: tmp) s1 to m1 (fun tm2 s2 m2 => ∃ i, tm2 = .ali i ∧ ∀ x, RD F ((x, .ali i) :: (v, .own (.f d)) :: tmp) s2 ta m2 (fun tm3 s3 m3 => ∃ dk ds k, valS s3 tm3 = some dk ∧ s3[i]? = some (some (.l ds)) ∧ m3 = ob (setL ds dk d) k ∧ ∀ ds', N (s3.set i (some (.l ds'))) (k ds'))))) :
    RS F tmp s m (tAsg te (gSub to ta rSetL)) N Rt := fun σ H De hh nf eo nx rt =>
  h σ H _ hh nf eo fun tm1 s1 v H1 ⟨d, e1, h2⟩ h1 => by
    subst e1
    refine h2 v σ H1 _ h1 nf eo fun tm2 s2 x H2 ⟨i, e2, h4⟩ h3 => ?_
    subst e2
    refine h4 x σ H2 _ h3 nf eo fun tm3 s3 y H3 ⟨dk, ds, k, ea, hi, em, hk⟩ h5 => ?_
    obtain ⟨c, ec, em'⟩ := ob_cases (by rw [← em]; exact nf)
    have ey : ∃ j, dk = .int j ∧ y = .int j := by
      obtain ⟨G, ω, h6⟩ := h5
      have r := h6.repC h6.tm.1 ea
      cases dk <;> try (cases ec; done)
      exact ⟨_, rfl, r⟩
    obtain ⟨j, rfl, rfl⟩ := ey
    have h6 := h5.pop
    have ex := (h6.tyL (Kf := F.K) hi).2
    have h7 := h6.pop
    obtain ⟨a, vs, sa, ha, hl, hz, _, up⟩ := h7.wrSlot hi
    rw [sa] at ex; cases ex
    simp only [setL] at ec
    cases e3 : ixN ds.length j with
    | none => rw [e3] at ec; cases ec
    | some n =>
      rw [e3] at ec
      cases ec
      refine ⟨a, vs, j, n, rfl, rfl, ha, by rw [hl]; exact e3, ?_⟩
      have h8 := up (ds.set n d) (vs.set n v) (by simpa using hz) fun G _ _ r ht => r.set n (ht _ _ rfl d rfl)
      exact nx _ σ _ (by rw [em, em']; exact hk _) h8.pop
/-! lists by values -/
theorem reps_eqV {H : Hp} {a : D} {x : V} (f : a.flat = true) (r : Rep H a x) {l : List D} {vs : List V} (g : l.all D.flat = true) (q : Reps H l vs) {j : Nat} {v : V} (e : vs[j]? = some v) : ∃ d, l[j]? = some d ∧ eqV v x = D.eqv d a := by
  have hl : j < l.length := by rw [q.length]; exact (List.getElem?_eq_some_iff.mp e).1
  have hd : l[j]? = some l[j] := List.getElem?_eq_getElem hl
  obtain ⟨w, w1, w2⟩ := q.get hd
  rw [e] at w1; cases w1
  exact ⟨l[j], hd, eqV_ok (List.all_eq_true.mp g _ (List.getElem_mem hl)) f w2 r⟩
def indexD : D → D → Option D
  | .lst l, a => if a.flat = true ∧ l.all D.flat = true then (l.findIdx? fun d => D.eqv d a).map fun j => .int (j : Nat) else none
  | _, _ => none
theorem rd_index (h : RD F tmp s to m (fun tm1 s1 m1 => ∃ l0, valS s1 tm1 = some (.lst l0) ∧ ∀ x, RD F ((x, tm1) :: tmp) s1 te m1 (fun tm2 s2 m2 => ∃ a b k, valS s2 tm1 = some a ∧ valS s2 tm2 = some b ∧ m2 = ob (indexD a b) k ∧ ∀ c, K (.own (.f c)) s2 (k c)))) :
    RD F tmp s (tBM Kf "list" (rIndex Kf) to (tCons te tNil)) m K := fun σ H Q hh nf eo q =>
  h σ H _ hh nf eo fun tm1 s1 x H1 ⟨l0, e0, h2⟩ h1 => by
    have ht : tyV Kf "list" x H1 := by
      obtain ⟨G, ω, h3⟩ := h1
      obtain ⟨a, vs, e, g, z, r⟩ := h3.repC h3.tm.1 e0
      subst e
      exact .inl ⟨rfl, vs, .inl g⟩
    refine ⟨ht, h2 x σ H1 _ h1 nf eo fun tm2 s2 y H2 ⟨a, b, k, ea, eb, em, hk⟩ h3 => ?_⟩
    obtain ⟨c, ec, em'⟩ := ob_cases (by rw [← em]; exact nf)
    have h5 := h3
    obtain ⟨G, ω, h4⟩ := h3
    have ra := h4.repC h4.tm.2.1 ea
    have rb := (h4.repC h4.tm.1 eb).toR h4.gH
    cases a <;> try (cases ec; done)
    rename_i l
    obtain ⟨p, vs, e, g, z, r⟩ := ra
    simp only [indexD] at ec
    split at ec
    · rename_i hf
      cases e2 : l.findIdx? (fun d => D.eqv d b) with
      | none => rw [e2] at ec; cases ec
      | some j =>
        rw [e2] at ec
        cases ec
        obtain ⟨j1, j2, j3⟩ := List.findIdx?_eq_some_iff_getElem.mp e2
        have r2 := Reps.mono h4.gH _ _ r
        have hv : j < vs.length := by rw [← r.length]; exact j1
        have hvj : vs[j]? = some vs[j] := List.getElem?_eq_getElem hv
        obtain ⟨d, d1, d2⟩ := reps_eqV hf.1 rb hf.2 r2 hvj
        rw [List.getElem?_eq_getElem j1] at d1
        cases d1
        refine ⟨p, vs, y, j, vs[j], e, rfl, .inl g, flat_ok hf.1 rb, flats_ok hf.2 r2, hvj, d2.trans j2, fun m z' hm ez => ?_, ?_⟩
        · obtain ⟨d', d3, d4⟩ := reps_eqV hf.1 rb hf.2 r2 ez
          have hml : m < l.length := by omega
          rw [List.getElem?_eq_getElem hml] at d3
          cases d3
          rw [d4]
          have := j3 m hm
          simpa using this
        · exact q _ s2 _ H2 (by rw [em, em']; exact hk _) (holds_push (d := .int _) h5.pop.pop fun _ => rfl)
    · cases ec
def strsD : List D → Option (List (List Nat))
  | [] => some []
  | .str x :: r => (strsD r).map (x :: ·)
  | _ :: _ => none
theorem strs_ok {G : Hp} : ∀ {l : List D} {ys : List (List Nat)} {vs : List V}, strsD l = some ys → Reps G l vs → vs = (ys.map mkS).map V.str
  | [], ys, vs, e, h => by cases e; exact h
  | .str x :: r, ys, vs, e, ⟨v, q, e1, h, k⟩ => by
    cases e2 : strsD r with
    | none => simp [strsD, e2] at e
    | some ys' =>
      simp [strsD, e2] at e
      subst e
      rw [e1, show v = .str (mkS x) from h, strs_ok e2 k]
      rfl
  | .non :: _, _, _, e, _ => by cases e
  | .bl _ :: _, _, _, e, _ => by cases e
  | .int _ :: _, _, _, e, _ => by cases e
  | .tup _ :: _, _, _, e, _ => by cases e
  | .lst _ :: _, _, _, e, _ => by cases e
  | .dct _ _ :: _, _, _, e, _ => by cases e
  | .opq _ :: _, _, _, e, _ => by cases e
  | .exc _ _ :: _, _, _, e, _ => by cases e
  | .fd _ _ _ :: _, _, _, e, _ => by cases e
  | .fz _ :: _, _, _, e, _ => by cases e
def joinS (a : List Nat) : List (List Nat) → List Nat
  | [] => []
  | [x] => x
  | x :: r => x ++ a ++ joinS a r
def joinD : D → D → Option D
  | .str a, .lst l => match strsD l with
    | some ys => if (ys.map List.length).sum + ys.length * a.length ≤ 16777216 then some (.str (joinS a ys)) else none
    | none => none
  | _, _ => none
end
/-! isinstance -/
inductive Kn where | int | str | bool | list | tuple | dict
def Kn.nm : Kn → String | .int => "int" | .str => "str" | .bool => "bool" | .list => "list" | .tuple => "tuple" | .dict => "dict"
def isK : D → Kn → Option Bool
  | .non, _ => some false
  | .bl _, .bool => some true
  | .bl _, .int => some true
  | .bl _, _ => some false
  | .int _, .int => some true
  | .int _, _ => some false
  | .str _, .str => some true
  | .str _, _ => some false
  | .tup _, .tuple => some true
  | .tup _, _ => some false
  | .lst _, .list => some true
  | .lst _, _ => some false
  | .dct false _, .dict => some true
  | .dct false _, _ => some false
  | .dct true _, _ => none
  | .opq _, _ => none
  | .exc _ _, _ => none
  | .fd _ _ _, _ => none
  | .fz _, _ => none
def isO : D → Bool | .opq _ => true | .exc _ _ => true | .fd _ _ _ => true | .fz _ => true | .dct true _ => true | _ => false
def tyN : D → String | .non => "NoneType" | .bl _ => "bool" | .int _ => "int" | .str _ => "str" | .tup _ => "tuple" | .lst _ => "list" | .dct _ _ => "dict" | .opq _ => "" | .exc _ _ => "" | .fd _ _ _ => "" | .fz _ => ""
theorem ty_ok {K : PySem.W.Frag} {H : Hp} : ∀ (d : D) (x : V), isO d = false → Rep H d x → TyX K H x (.type (tyN d))
  | .non, x, _, h => by rw [show x = .non from h]; exact .base .non
  | .bl b, x, _, h => by rw [show x = .bl b from h]; exact .base (.bl b)
  | .int b, x, _, h => by rw [show x = .int b from h]; exact .base (.int b)
  | .str b, x, _, h => by rw [show x = .str (mkS b) from h]; exact .base (.str _)
  | .tup l, x, _, ⟨a, vs, e, g, _, _⟩ => by rw [e]; exact .base (.tup g)
  | .lst l, x, _, ⟨a, vs, e, .inl g, _, _⟩ => by rw [e]; exact .base (.lst g)
  | .lst l, x, _, ⟨a, vs, e, .inr ⟨o, g⟩, _, _⟩ => by rw [e]; exact .base (.frz g)
  | .dct false l, x, _, ⟨a, kvs, e, .inl g, _⟩ => by rw [e]; exact .base (.dK g)
  | .dct false l, x, _, ⟨a, kvs, e, .inr ⟨o, g⟩, _⟩ => by rw [e]; exact .fDict g
  | .dct true l, x, n, _ => by cases n
  | .opq w, x, n, _ => by cases n
  | .exc _ _, x, n, _ => by cases n
  | .fd _ _ _, x, n, _ => by cases n
  | .fz _, x, n, _ => by cases n
theorem kitB_ok : ∀ (d : D) (k : Kn) (c : Bool), isK d k = some c → kitB (tyN d) k.nm = some c := by
  intro d k c e
  cases d <;> cases k <;> first | cases e | skip
  all_goals try (rename_i b _; cases b <;> first | cases e | skip)
  all_goals (simp only [tyN, Kn.nm]; decide +kernel)
section
variable {R : Type} {F : Fc} {tmp : Tmp} {s : State} {m : Res R} {K : Rs R} {ta tb te to : TE} {Kf : PySem.W.Frag}
theorem rd_isi (kn : Kn) (h : RD F tmp s ta m (fun tm1 s1 m1 => ∃ a k, valT s1 tm1 = some a ∧ m1 = ob (isK a kn) k ∧ ∀ c, K (.own (.f (.bl c))) s1 (k c))) : RD F tmp s (tCB (rIsi Kf) (tCons ta (tCons (tC (.ty kn.nm)) tNil))) m K := fun σ H Q hh nf eo q =>
  h σ H _ hh nf eo fun tm1 s1 x H1 ⟨a, k, ea, em, hk⟩ h1 => by
    obtain ⟨c, ec, em'⟩ := ob_cases (by rw [← em]; exact nf)
    have h3 := h1
    obtain ⟨G, ω, h2⟩ := h1
    have r := h2.repT h2.tm.1 ea
    have no : isO a = false := by cases a <;> first | rfl | cases ec | (rename_i b _; cases b <;> first | rfl | cases ec)
    exact ⟨x, .ty kn.nm, .type (tyN a), .type kn.nm, c, rfl, .ty _, ty_ok a x no r, kit_ty (kitB_ok a kn c ec), q _ s1 _ H1 (by rw [em, em']; exact hk c) (holds_bl h3.pop)⟩
end
end VL

namespace VL
open PySem L2
variable [EC]

/-! join, lists put together -/
theorem join_ok (a : List Nat) : ∀ ys : List (List Nat), Txt.join (mkS a) (ys.map mkS) = mkS (joinS a ys) := by
  intro ys
  show Builtin.Str.glued (mkS a) (ys.map mkS) = _
  rw [StrLaws.glued_eq_join]
  induction ys with
  | nil => rfl
  | cons x r ih =>
    cases r with
    | nil => rfl
    | cons y q =>
      show mkS x ++ mkS a ++ Str.join (mkS a) ((y :: q).map mkS) = mkS (x ++ a ++ joinS a (y :: q))
      rw [ih, mkS_app, mkS_app]
def rCatR : R2 := fun x y H Q => ∃ l b xs zs, x = .ref l ∧ y = .ref b ∧ Rd H l (.lst xs) ∧ Rd H b (.lst zs) ∧ xs.length + zs.length ≤ sizeLine ∧ ∀ p, H p = none → Q (.ref p) (upd H p (.lst (xs ++ zs)))
theorem op_catR {X : Cx} : OpR X (binaryOp .Add) rCatR := by
  intro pins s σ H x y v u Q I rx ry h
  obtain ⟨l, b, xs, zs, e1, e2, hH, hB, hz, q⟩ := h
  subst e1; subst e2
  cases rx
  cases ry
  obtain ⟨z, its, n, r, ho⟩ := hH.ok I.hok
  obtain ⟨z2, its2, n2, r2, ho2⟩ := hB.ok I.hok
  refine PySem.P.add_list ho ho2 ?_ (by rw [List.size_toArray, List.size_toArray, ← r.length, ← r2.length]; exact hz)
  rw [show its.toArray ++ its2.toArray = (its ++ its2).toArray by simp]
  exact ⟨.ref _, _, I.lnew (t' := s.toks) (r.append r2) (by rw [List.length_append]; exact hz), rfl, q _ I.fresh⟩
def catD : D → D → Option (List D)
  | .lst a, .lst b => if a.length + b.length ≤ 16777216 then some (a ++ b) else none
  | _, _ => none
theorem o_cat : Op2L rCatR catD := fun G H x y a b c Q sm ra rb e => by
  cases a <;> cases b <;> try (cases e; done)
  rename_i l m
  simp only [catD] at e
  split at e
  · rename_i hz
    cases e
    obtain ⟨p, vs, e1, g1, z1, r1⟩ := ra
    obtain ⟨p2, ws, e2, g2, z2, r2⟩ := rb
    refine ⟨by rw [sizeLine_eq, List.length_append]; exact hz, fun q => ⟨p, p2, vs, ws, e1, e2, g1, g2, by rw [← r1.length, ← r2.length, sizeLine_eq]; exact hz, fun p3 np => q p3 _ np (r1.append r2)⟩⟩
  · cases e
theorem Reps.rep {G : Hp} {l : List D} {vs : List V} (h : Reps G l vs) : ∀ n, Reps G (List.replicate n l).flatten (List.replicate n vs).flatten
  | 0 => rfl
  | n + 1 => by
    rw [List.replicate_succ, List.replicate_succ, List.flatten_cons, List.flatten_cons]
    exact h.append (Reps.rep h n)
section
variable {R : Type} {F : Fc} {tmp : Tmp} {s : State} {m : Res R} {K : Rs R} {N : Rn R} {Rt : Rr R} {ta tb te to td ty tv : TE} {Kf : PySem.W.Frag}
/-- sep.join(xs) -/
theorem rd_join (h : RD F tmp s to m (fun tm1 s1 m1 => (∃ a0, valS s1 tm1 = some (.str a0)) ∧ ∀ x, RD F ((x, tm1) :: tmp) s1 te m1 (fun tm2 s2 m2 => ∃ a b k, valS s2 tm1 = some a ∧ valS s2 tm2 = some b ∧ m2 = ob (joinD a b) k ∧ ∀ c, K (.own (.f c)) s2 (k c)))) :
    RD F tmp s (tM1 (fun x xs H Q => ∃ a p ys, x = V.str a ∧ xs = [V.ref p] ∧ (SqL Kf H p (List.map V.str ys) ∨ SqT Kf H p (List.map V.str ys)) ∧ (List.map (fun x : Str => x.length) ys).sum + ys.length * a.length ≤ 16777216 ∧ Q (V.str (Txt.join a ys)) H) to te) m K := fun σ H Q hh nf eo q =>
  h σ H _ hh nf eo fun tm1 s1 x H1 ⟨⟨a0, e0⟩, h2⟩ h1 => by
    refine ⟨?_, h2 x σ H1 _ h1 nf eo fun tm2 s2 y H2 ⟨a, b, k, ea, eb, em, hk⟩ h3 => ?_⟩
    · obtain ⟨G, ω, h4⟩ := h1
      exact ⟨_, h4.repC h4.tm.1 e0⟩
    obtain ⟨c, ec, em'⟩ := ob_cases (by rw [← em]; exact nf)
    have h5 := h3
    obtain ⟨G, ω, h4⟩ := h3
    have ra := h4.repC h4.tm.2.1 ea
    have rb := h4.repC h4.tm.1 eb
    cases a <;> cases b <;> try (cases ec; done)
    rename_i z l
    simp only [joinD] at ec
    split at ec
    · rename_i ys hs
      split at ec
      · rename_i hz
        cases ec
        obtain ⟨p, vs, e1, g, zz, r⟩ := rb
        have hv := strs_ok hs r
        subst hv
        refine ⟨mkS z, p, ys.map mkS, ra, by rw [show y = .ref p from e1], .inl (.inl g), ?_, ?_⟩
        · rw [List.map_map, List.length_map, mkS_len]
          have : ((fun x : Str => x.length) ∘ mkS) = List.length := by funext w; exact mkS_len w
          rw [this]; exact hz
        · rw [join_ok]
          exact q _ s2 _ H2 (by rw [em, em']; exact hk _) (holds_push (d := .str _) h5.pop.pop fun _ => rfl)
      · cases ec
    · cases ec
/-! str of a whole number -/
def numS (i : Int) : List Nat := (Str.ofString (toString i)).cps.toList
end
def rStrI : List V → Hp → VK → Prop := fun xs H Q => ∃ i, xs = [.int i] ∧ i.natAbs.log2 < 1920 ∧ Q (.str (Str.ofString (toString i))) H
def strI : D → Option D
  | .int i => if i.natAbs < 1000000000000000000000000000000 then some (.str (numS i)) else none
  | _ => none
theorem o_strI : Op1C (fun x H Q => rStrI [x] H Q) strI := fun G H x a c Q sm ra e q => by
  cases a <;> try (cases e; done)
  rename_i i
  simp only [strI] at e
  split at e
  · rename_i hb
    cases e
    refine ⟨i, by rw [show x = .int i from ra], ?_, ?_⟩
    · by_cases h0 : i.natAbs = 0
      · rw [h0]; decide
      · rw [Nat.log2_lt h0]
        exact Nat.lt_of_lt_of_le hb (by decide)
    · have := q (.str (mkS (numS i))) rfl
      unfold numS at this
      rw [mkS_of] at this
      exact this
  · cases e
/-! dicts -/
def keyK : D → Option Key
  | .int i => some (.inl i)
  | .str x => some (.inr (mkS x))
  | _ => none
theorem keyK_kD {d : D} {k : Key} (h : keyK d = some k) : d = kD k := by
  cases d <;> try (cases h; done)
  · cases h; rfl
  · cases h; simp [kD, mkS_cps]
theorem rep_key {H : Hp} {d : D} {k : Key} {y : V} (h : keyK d = some k) (r : Rep H d y) : y = kV k := by
  cases d <;> try (cases h; done)
  · cases h; exact r
  · cases h; exact r
theorem kD_eqv : ∀ (a b : Key), D.eqv (kD a) (kD b) = decide (a = b)
  | .inl a, .inl b => by
    show (a == b) = _
    by_cases h : a = b
    · subst h; simp
    · rw [beq_eq_false_iff_ne.mpr h]; exact (decide_eq_false fun z => h (Sum.inl.inj z)).symm
  | .inl a, .inr b => by rw [decide_eq_false fun z => nomatch z]; rfl
  | .inr a, .inl b => by rw [decide_eq_false fun z => nomatch z]; rfl
  | .inr a, .inr b => by
    show (a.cps.toList == b.cps.toList) = _
    by_cases h : a = b
    · subst h; simp
    · have h2 : ¬ a.cps.toList = b.cps.toList := fun z => h (by rw [← mkS_of a, ← mkS_of b, z])
      rw [beq_eq_false_iff_ne.mpr h2]; exact (decide_eq_false fun z => h (Sum.inr.inj z)).symm
def keyOk (k : Bool) (d : D) : Bool := if k = true then false else (keyK d).isSome
def findD (l : List (D × D)) (d : D) : Option D := (l.find? fun kv => D.eqv kv.1 d).map (·.2)
def storeD (l : List (D × D)) (d v : D) : List (D × D) := if (l.any fun kv => D.eqv kv.1 d) = true then l.map (fun kv => if D.eqv kv.1 d = true then (kv.1, v) else kv) else l ++ [(d, v)]
theorem repK_find {G : Hp} {kk : Key} {d : D} (hd : d = kD kk) : ∀ {l : List (D × D)} {kvs : List (Key × V)}, RepK G l kvs →
    (findD l d = none ∧ valV kvs kk = none) ∨ ∃ c v, findD l d = some c ∧ valV kvs kk = some v ∧ Rep G c v
  | [], _, h => by cases (show _ = [] from h); exact .inl ⟨rfl, rfl⟩
  | (k, c) :: r, _, ⟨k', v, q, e, ek, rc, h⟩ => by
    subst e; subst hd; subst ek
    unfold findD valV
    rw [List.find?_cons, List.find?_cons]
    show (_ ∧ _) ∨ _
    rw [kD_eqv]
    by_cases e : k' = kk
    · rw [decide_eq_true e]; exact .inr ⟨c, v, rfl, rfl, rc⟩
    · rw [decide_eq_false e]; exact repK_find rfl h
theorem dget_any {G H : Hp} {k : Bool} {l : List (D × D)} {d : D} {x y : V} (sm : Same G H) (rx : RepC G H (.dct k l) x) (ry : RepC G H d y) (ok : keyOk k d = true) :
    ∃ a o, x = .ref a ∧ DGet H a y o ∧ ((findD l d = none ∧ o = none) ∨ ∃ c v, findD l d = some c ∧ o = some v ∧ Rep G c v) := by
  have ry' := ry.toR sm
  cases k with
  | false =>
    obtain ⟨a, kvs, e, g, r⟩ := rx
    obtain ⟨kk, hk⟩ := Option.isSome_iff_exists.mp (show (keyK d).isSome = true from ok)
    rw [rep_key hk ry']
    refine ⟨a, valV kvs kk, e, .inl ⟨kvs, kk, g, rfl, rfl⟩, ?_⟩
    rcases repK_find (keyK_kD hk) r with ⟨h1, h2⟩ | ⟨c, v, h1, h2, h3⟩
    · exact .inl ⟨h1, h2⟩
    · exact .inr ⟨c, v, h1, h2, h3⟩
  | true => cases ok
theorem repK_store {G : Hp} {kk : Key} {d c : D} {v : V} (hd : d = kD kk) (rc : Rep G c v) {l : List (D × D)} {kvs : List (Key × V)} (h : RepK G l kvs) : RepK G (storeD l d c) (putK kvs kk v) := by
  subst hd
  have hany : ∀ {l : List (D × D)} {kvs : List (Key × V)}, RepK G l kvs → (l.any fun kv => D.eqv kv.1 (kD kk)) = kvs.any fun kv => decide (kv.1 = kk) := by
    intro l
    induction l with
    | nil => intro kvs h; cases (show kvs = [] from h); rfl
    | cons kv r ih =>
      obtain ⟨k, c'⟩ := kv
      intro kvs ⟨k', v', q, e, ek, rc', h'⟩
      subst e; subst ek
      rw [List.any_cons, List.any_cons, ih h', kD_eqv]
  have hmap : ∀ {l : List (D × D)} {kvs : List (Key × V)}, RepK G l kvs → RepK G (l.map fun kv => if D.eqv kv.1 (kD kk) = true then (kv.1, c) else kv) (kvs.map fun kv => if kv.1 = kk then (kv.1, v) else kv) := by
    intro l
    induction l with
    | nil => intro kvs h; cases (show kvs = [] from h); exact rfl
    | cons kv r ih =>
      obtain ⟨k, c'⟩ := kv
      intro kvs ⟨k', v', q, e, ek, rc', h'⟩
      subst e; subst ek
      rw [List.map_cons, List.map_cons]
      simp only [kD_eqv]
      by_cases e : k' = kk
      · simp only [e, decide_true, if_true]
        exact ⟨kk, v, _, rfl, rfl, rc, by simpa only [kD_eqv] using ih h'⟩
      · simp only [e, decide_false, Bool.false_eq_true, if_false]
        exact ⟨k', v', _, rfl, rfl, rc', by simpa only [kD_eqv] using ih h'⟩
  have happ : ∀ {l : List (D × D)} {kvs : List (Key × V)}, RepK G l kvs → RepK G (l ++ [(kD kk, c)]) (kvs ++ [(kk, v)]) := by
    intro l
    induction l with
    | nil => intro kvs h; cases (show kvs = [] from h); exact ⟨kk, v, [], rfl, rfl, rc, rfl⟩
    | cons kv r ih =>
      obtain ⟨k, c'⟩ := kv
      intro kvs ⟨k', v', q, e, ek, rc', h'⟩
      subst e
      exact ⟨k', v', _, rfl, ek, rc', ih h'⟩
  unfold storeD putK
  rw [hany h]
  split
  · exact hmap h
  · exact happ h
def dgetD (a d : D) : Option D := match a with | .dct k l => if keyOk k d = true then findD l d else none | _ => none
def dget1D (a d : D) : Option D := match a with | .dct k l => if keyOk k d = true then some ((findD l d).getD .non) else none | _ => none
def dinD (d a : D) : Option Bool := match a with | .dct k l => if keyOk k d = true then some (findD l d).isSome else none | _ => none
def dputD (k : Bool) (l : List (D × D)) (d v : D) : Option (List (D × D)) := if keyOk k d = true ∧ l.length < 16777216 then some (storeD l d v) else none
section
variable {R : Type} {F : Fc} {tmp : Tmp} {s : State} {m : Res R} {K : Rs R} {N : Rn R} {Rt : Rr R} {ta tb te to td ty tv tx : TE} {Kf : PySem.W.Frag}
theorem rd_dget (h : RD F tmp s td m (fun tm1 s1 m1 => ∀ x, RD F ((x, tm1) :: tmp) s1 ty m1 (fun tm2 s2 m2 => ∃ a b k, valS s2 tm1 = some a ∧ valS s2 tm2 = some b ∧ m2 = ob (dgetD a b) k ∧ ∀ c, K (.own (.f c)) s2 (k c)))) : RD F tmp s (tDGet td ty) m K := fun σ H Q hh nf eo q =>
  h σ H _ hh nf eo fun tm1 s1 x H1 h2 h1 => h2 x σ H1 _ h1 nf eo fun tm2 s2 y H2 ⟨a, b, k, ea, eb, em, hk⟩ h3 => by
    obtain ⟨c, ec, em'⟩ := ob_cases (by rw [← em]; exact nf)
    obtain ⟨G, ω, h3⟩ := h3
    have ra := h3.repC h3.tm.2.1 ea
    have rb := h3.repC h3.tm.1 eb
    cases a <;> try (cases ec; done)
    simp only [dgetD] at ec
    split at ec
    · rename_i ok
      obtain ⟨p, o, e1, g, w⟩ := dget_any h3.gH ra rb ok
      rcases w with ⟨w1, _⟩ | ⟨c', v, w1, w2, w3⟩
      · rw [w1] at ec; cases ec
      · rw [w1] at ec; cases ec
        rw [w2] at g
        exact ⟨p, v, e1, g, q _ s2 v H2 (by rw [em, em']; exact hk _) ⟨G, ω, h3.pop.pop.pushF w3⟩⟩
    · cases ec
theorem rd_dget1 (h : RD F tmp s td m (fun tm1 s1 m1 => (∃ l0, valS s1 tm1 = some (.dct false l0)) ∧ ∀ x, RD F ((x, tm1) :: tmp) s1 ty m1 (fun tm2 s2 m2 => ∃ a b k, valS s2 tm1 = some a ∧ valS s2 tm2 = some b ∧ m2 = ob (dget1D a b) k ∧ ∀ c, K (.own (.f c)) s2 (k c)))) : RD F tmp s (tDGet1 td ty) m K := fun σ H Q hh nf eo q =>
  h σ H _ hh nf eo fun tm1 s1 x H1 ⟨⟨l0, e0⟩, h2⟩ h1 => by
    have hd : ∃ a, x = .ref a ∧ IsD H1 a := by
      obtain ⟨G, ω, h3⟩ := h1
      have r := h3.repC h3.tm.1 e0
      obtain ⟨a, kvs, e, g, _⟩ := r
      exact ⟨a, e, .inl ⟨kvs, g⟩⟩
    obtain ⟨a0, ea0, hisd⟩ := hd
    refine ⟨a0, ea0, hisd, h2 x σ H1 _ h1 nf eo fun tm2 s2 y H2 ⟨a, b, k, ea, eb, em, hk⟩ h3 => ?_⟩
    obtain ⟨c, ec, em'⟩ := ob_cases (by rw [← em]; exact nf)
    have h4 := h3
    obtain ⟨G, ω, h3⟩ := h3
    have ra := h3.repC h3.tm.2.1 ea
    have rb := h3.repC h3.tm.1 eb
    cases a <;> try (cases ec; done)
    simp only [dget1D] at ec
    split at ec
    · rename_i ok
      obtain ⟨p, o, e1, g, w⟩ := dget_any h3.gH ra rb ok
      have e1' : x = .ref p := e1
      rw [ea0] at e1'; cases e1'
      refine ⟨o, g, ?_⟩
      rcases w with ⟨w1, w2⟩ | ⟨c', v, w1, w2, w3⟩
      · rw [w1] at ec; cases ec
        rw [w2]
        exact q _ s2 .non H2 (by rw [em, em']; exact hk _) (holds_push (d := .non) h4.pop.pop fun _ => rfl)
      · rw [w1] at ec; cases ec
        rw [w2]
        exact q _ s2 v H2 (by rw [em, em']; exact hk _) ⟨G, ω, h3.pop.pop.pushF w3⟩
    · cases ec
theorem din_core {b : Bool} {f : Bool → Bool} {σ : St} {H1 : Hp} {tm1 tm2 : TM} {s2 : State} {x y : V} {d a : D} (h3 : Holds F ((x, tm2) :: (y, tm1) :: tmp) s2 σ H1) (ed : valS s2 tm1 = some d) (ea : valS s2 tm2 = some a) (ec : dinD d a = some b) : ∃ p o, x = .ref p ∧ DGet H1 p y o ∧ o.isSome = b := by
  obtain ⟨G, ω, h3⟩ := h3
  have rd := h3.repC h3.tm.2.1 ed
  have ra := h3.repC h3.tm.1 ea
  cases a <;> try (cases ec; done)
  simp only [dinD] at ec
  split at ec
  · rename_i ok
    cases ec
    obtain ⟨p, o, e1, g, w⟩ := dget_any h3.gH ra rd ok
    refine ⟨p, o, e1, g, ?_⟩
    rcases w with ⟨w1, w2⟩ | ⟨c', v, w1, w2, w3⟩ <;> (rw [w1, w2]; rfl)
  · cases ec
theorem rt_din {K : Bool → State → Res R → Prop} (h : RD F tmp s ty m (fun tm1 s1 m1 => ∀ y, RD F ((y, tm1) :: tmp) s1 td m1 (fun tm2 s2 m2 => ∃ d a k, valS s2 tm1 = some d ∧ valS s2 tm2 = some a ∧ m2 = ob (dinD d a) k ∧ ∀ c, K c s2 (k c)))) : RT F tmp s m (tB (tDIn ty td)) K := fun σ H Q hh nf eo q =>
  h σ H _ hh nf eo fun tm1 s1 y H1 h2 h1 => h2 y σ H1 _ h1 nf eo fun tm2 s2 x H2 ⟨d, a, k, ed, ea, em, hk⟩ h3 => by
    obtain ⟨c, ec, em'⟩ := ob_cases (by rw [← em]; exact nf)
    obtain ⟨p, o, e1, g, e2⟩ := din_core (f := id) h3 ed ea ec
    exact ⟨p, o, e1, g, c, by rw [e2], q _ s2 H2 (by rw [em, em']; exact hk _) h3.pop.pop⟩
theorem rt_dnotin {K : Bool → State → Res R → Prop} (h : RD F tmp s ty m (fun tm1 s1 m1 => ∀ y, RD F ((y, tm1) :: tmp) s1 td m1 (fun tm2 s2 m2 => ∃ d a k, valS s2 tm1 = some d ∧ valS s2 tm2 = some a ∧ m2 = ob (dinD d a) k ∧ ∀ c, K (!c) s2 (k c)))) : RT F tmp s m (tB (tDNotIn ty td)) K := fun σ H Q hh nf eo q =>
  h σ H _ hh nf eo fun tm1 s1 y H1 h2 h1 => h2 y σ H1 _ h1 nf eo fun tm2 s2 x H2 ⟨d, a, k, ed, ea, em, hk⟩ h3 => by
    obtain ⟨c, ec, em'⟩ := ob_cases (by rw [← em]; exact nf)
    obtain ⟨p, o, e1, g, e2⟩ := din_core (f := id) h3 ed ea ec
    exact ⟨p, o, e1, g, !c, by rw [e2], q _ s2 H2 (by rw [em, em']; exact hk _) h3.pop.pop⟩
theorem rd_dnewK (k : K (.own (.dc false [])) s m) : RD F tmp s tDNewK m K := fun σ H Q hh nf eo q => fun p np => by
  obtain ⟨G, ω, h⟩ := hh
  exact q _ s _ _ k ⟨G, _, h.newO np ⟨p, [], rfl, by simp, upd_same, rfl⟩⟩
/-- an owned dict in slot i -/
theorem Holds.wrDict {σ : St} {H : Hp} {c d : D} {x y : V} {k : Bool} (h : Holds F ((y, .own (.f d)) :: (x, .own (.f c)) :: tmp) s σ H) {i : Nat} {l : List (D × D)} (hi : s[i]? = some (some (.dc k l))) (ok : keyOk k d = true) (hz : l.length < 16777216) :
    ∃ a H', σ[i]? = some (some (.ref a)) ∧ DPut H a y x H' ∧ Holds F tmp (s.set i (some (.dc k (storeD l d c)))) σ H' := by
  obtain ⟨G, ω, h⟩ := h
  have ry : Rep G d y := h.tm.1
  have rx : Rep G c x := h.tm.2.1
  have fin : ∀ {a : Addr} {o : HO}, ω a = some [0, i] → σ[i]? = some (some (.ref a)) → Own G (upd H a o) ω [0, i] (.dc k (storeD l d c)) (.ref a) → Holds F tmp (s.set i (some (.dc k (storeD l d c)))) σ (upd H a o) := fun {a o} hw e1 q => by
    refine ⟨G, ω, (h.pop.pop).wr hw o (by simp) (fun j u e => ?_) (Tms.wrO hw tmp (fun j hj => by simp [pre]) h.tm.2.2)⟩
    have hil : i < s.length := (List.getElem?_eq_some_iff.mp hi).1
    by_cases hj : i = j
    · subst hj
      rw [List.getElem?_set_self hil] at e
      cases e
      exact ⟨_, e1, q⟩
    · rw [List.getElem?_set_ne hj] at e
      obtain ⟨v', b1, b2⟩ := h.sl j u e
      exact ⟨v', b1, Own.wrO hw (by simp [pre]; exact fun z => hj z.symm) b2⟩
  cases k with
  | false =>
    obtain ⟨v, e1, a, kvs, e2, hw, ha, r⟩ := h.sl i _ hi
    subst e2
    obtain ⟨kk, hk⟩ := Option.isSome_iff_exists.mp (show (keyK d).isSome = true from ok)
    have hl : kvs.length < sizeLine := by
      have : ∀ {l : List (D × D)} {kvs : List (Key × V)}, RepK G l kvs → l.length = kvs.length := by
        intro l
        induction l with
        | nil => intro kvs h; cases (show kvs = [] from h); rfl
        | cons kv r ih =>
          obtain ⟨k, c'⟩ := kv
          intro kvs ⟨k', v', q, e, ek, rc', h'⟩
          subst e
          simp [ih h']
      rw [← this r, sizeLine_eq]; exact hz
    refine ⟨a, _, e1, by rw [rep_key hk (Rep.mono h.gH _ _ ry)]; exact .k ha hl, fin hw e1 ⟨a, _, rfl, hw, upd_same, repK_store (keyK_kD hk) rx r⟩⟩
  | true => cases ok
theorem rs_dput (h : RD F tmp s tv m (fun tm1 s1 m1 => ∃ c, tm1 = .own (.f c) ∧ ∀ v, RD F ((v, .own (.f c)) :: tmp) s1 td m1 (fun tm2 s2 m2 => ∃ i, tm2 = .ali i ∧ ∀ x, RD F ((x, .ali i) :: (v, .own (.f c)) :: tmp) s2 ty m2 (fun tm3 s3 m3 => ∃ d kf l k, tm3 = .own (.f d) ∧ s3[i]? = some (some (.dc kf l)) ∧ m3 = ob (dputD kf l d c) k ∧ ∀ l', N (s3.set i (some (.dc kf l'))) (k l'))))) :
    RS F tmp s m (sDPut td ty tv) N Rt := fun σ H De hh nf eo nx rt =>
  h σ H _ hh nf eo fun tm1 s1 v H1 ⟨c, e1, h2⟩ h1 => by
    subst e1
    refine h2 v σ H1 _ h1 nf eo fun tm2 s2 x H2 ⟨i, e2, h4⟩ h3 => ?_
    subst e2
    refine h4 x σ H2 _ h3 nf eo fun tm3 s3 y H3 ⟨d, kf, l, k, e3, hi, em, hk⟩ h5 => ?_
    subst e3
    obtain ⟨c', ec, em'⟩ := ob_cases (by rw [← em]; exact nf)
    unfold dputD at ec
    split at ec
    · rename_i ok
      cases ec
      have hx : σ[i]? = some (some x) := by obtain ⟨G, ω, h6⟩ := h5; exact h6.tm.2.1
      have h6 : Holds F ((y, .own (.f d)) :: (v, .own (.f c)) :: tmp) s3 σ H3 := Holds.dropMid (ex := [(x, .ali i)]) [(y, .own (.f d))] h5
      obtain ⟨a, H', sa, put, h7⟩ := h6.wrDict hi ok.1 ok.2
      rw [hx] at sa; cases sa
      exact ⟨a, H', rfl, put, nx _ σ H' (by rw [em, em']; exact hk _) h7⟩
    · cases ec
end
end VL

namespace VL
open PySem L2
variable [EC]

/-! a call that reads owned things -/
mutual
def T.fl : T → Bool
  | .f d => d.flat
  | .l ds => ds.all D.flat
  | .ll ts => T.fls ts
  | .tt ts => T.fls ts
  | .dc false kvs => kvs.all fun kv => kv.2.flat
  | .dc true _ => false
  | .dl _ ts => T.fls ts
  | .nx _ _ _ => false
  | .no _ _ _ => false
  | .lf _ => false
  | .ob _ _ _ => false
  | .hole _ => true
def T.fls : List T → Bool
  | [] => true
  | t :: r => T.fl t && T.fls r
end
theorem Rep.flat {G G' : Hp} : ∀ {d : D} {v : V}, d.flat = true → Rep G d v → Rep G' d v
  | .non, _, _, h => h
  | .bl _, _, _, h => h
  | .int _, _, _, h => h
  | .str _, _, _, h => h
  | .tup _, _, f, _ => by cases f
  | .lst _, _, f, _ => by cases f
  | .dct _ _, _, f, _ => by cases f
  | .opq _, _, f, _ => by cases f
  | .exc _ _, _, f, _ => by cases f
  | .fd _ _ _, _, f, _ => by cases f
  | .fz _, _, f, _ => by cases f
theorem Reps.flat {G G' : Hp} : ∀ {l : List D} {vs : List V}, l.all D.flat = true → Reps G l vs → Reps G' l vs
  | [], _, _, h => h
  | d :: r, _, f, ⟨v, q, e, h, k⟩ => by
    simp only [List.all_cons, Bool.and_eq_true] at f
    exact ⟨v, q, e, Rep.flat f.1 h, Reps.flat f.2 k⟩
theorem RepK.flat {G G' : Hp} : ∀ {l : List (D × D)} {vs : List (Key × V)}, (l.all fun kv => kv.2.flat) = true → RepK G l vs → RepK G' l vs
  | [], _, _, h => h
  | (a, d) :: r, _, f, ⟨kk, v, q, e, ek, h, k⟩ => by
    simp only [List.all_cons, Bool.and_eq_true] at f
    exact ⟨kk, v, q, e, ek, Rep.flat f.1 h, RepK.flat f.2 k⟩
mutual
theorem Own.flat {G G' H H' : Hp} {ω ω' : Addr → Option Lab} : ∀ (p q : Lab) (t : T) (v : V), t.fl = true → (∀ a x, ω a = some (p ++ x) → H' a = H a ∧ ω' a = some (q ++ x)) → Own G H ω p t v → Own G' H' ω' q t v
  | _, _, .f d, v, f, _, h => Rep.flat f h
  | p, q, .l ds, v, f, m, ⟨a, vs, e, h, w, z, r⟩ => by
    obtain ⟨m1, m2⟩ := m a [] (by rw [List.append_nil]; exact w)
    rw [List.append_nil] at m2
    exact ⟨a, vs, e, m1.trans h, m2, z, Reps.flat f r⟩
  | p, q, .ll ts, v, f, m, ⟨a, vs, e, h, w, z, r⟩ => by
    obtain ⟨m1, m2⟩ := m a [] (by rw [List.append_nil]; exact w)
    rw [List.append_nil] at m2
    exact ⟨a, vs, e, m1.trans h, m2, z, Owns.flat p q 0 ts vs f m r⟩
  | p, q, .tt ts, v, f, m, ⟨a, vs, e, h, w, z, r⟩ => by
    obtain ⟨m1, m2⟩ := m a [] (by rw [List.append_nil]; exact w)
    rw [List.append_nil] at m2
    exact ⟨a, vs, e, m1.trans h, m2, z, Owns.flat p q 0 ts vs f m r⟩
  | p, q, .dc false l, v, f, m, ⟨a, kvs, e, w, h, r⟩ => by
    obtain ⟨m1, m2⟩ := m a [] (by rw [List.append_nil]; exact w)
    rw [List.append_nil] at m2
    exact ⟨a, kvs, e, m2, m1.trans h, RepK.flat f r⟩
  | p, q, .dc true l, v, f, m, h => by cases f
  | p, q, .nx _ _ _, v, f, m, h => by cases f
  | p, q, .no _ _ _, v, f, m, h => by cases f
  | p, q, .lf _, v, f, m, h => by cases f
  | p, q, .dl ks ts, v, f, m, ⟨a, kvs, e, w, h, ek, r⟩ => by
    obtain ⟨m1, m2⟩ := m a [] (by rw [List.append_nil]; exact w)
    rw [List.append_nil] at m2
    exact ⟨a, kvs, e, m2, m1.trans h, ek, Owns.flat p q 0 ts _ f m r⟩
  | p, q, .ob _ _ _, v, f, m, h => by cases f
  | _, _, .hole _, _, _, _, h => h
theorem Owns.flat {G G' H H' : Hp} {ω ω' : Addr → Option Lab} : ∀ (p q : Lab) (i : Nat) (ts : List T) (vs : List V), T.fls ts = true → (∀ a x, ω a = some (p ++ x) → H' a = H a ∧ ω' a = some (q ++ x)) → Owns G H ω p i ts vs → Owns G' H' ω' q i ts vs
  | _, _, _, [], _, _, _, h => h
  | p, q, i, t :: ts, _, f, m, ⟨v, r, e, h, k⟩ => by
    simp only [T.fls, Bool.and_eq_true] at f
    exact ⟨v, r, e, Own.flat (p ++ [i]) (q ++ [i]) t v f.1 (fun a x e => by
      rw [List.append_assoc] at e ⊢
      exact m a _ e) h, Owns.flat p q (i + 1) ts r f.2 m k⟩
end
end VL

namespace VL
open PySem L2
variable [EC]

/-! owned lists of owned things -/
section
variable {G G' H H' : Hp} {ω ω' : Addr → Option Lab}
theorem Owns.len : ∀ {ts : List T} {vs : List V} {p : Lab} {i : Nat}, Owns G H ω p i ts vs → ts.length = vs.length
  | [], _, _, _, h => by cases (show _ = [] from h); rfl
  | t :: ts, _, _, _, ⟨v, r, e, _, k⟩ => by subst e; simp [Owns.len k]
theorem Owns.get : ∀ {ts : List T} {vs : List V} {p : Lab} {i j : Nat} {t : T}, Owns G H ω p i ts vs → ts[j]? = some t → ∃ v, vs[j]? = some v ∧ Own G H ω (p ++ [i + j]) t v
  | [], _, _, _, _, _, _, e => by simp at e
  | t0 :: ts, _, _, i, 0, t, ⟨v, r, e, h, k⟩, e2 => by subst e; simp at e2; subst e2; exact ⟨v, rfl, h⟩
  | t0 :: ts, _, _, i, j + 1, t, ⟨v, r, e, h, k⟩, e2 => by
    subst e
    obtain ⟨w, a, b⟩ := Owns.get (j := j) k (by simpa using e2)
    exact ⟨w, by simpa using a, by rwa [show i + (j + 1) = i + 1 + j by omega]⟩
theorem Owns.of : ∀ {ts : List T} {vs : List V} {p : Lab} {i : Nat}, ts.length = vs.length → (∀ (j : Nat) t v, ts[j]? = some t → vs[j]? = some v → Own G H ω (p ++ [i + j]) t v) → Owns G H ω p i ts vs
  | [], [], _, _, _, _ => rfl
  | [], _ :: _, _, _, e, _ => by simp at e
  | _ :: _, [], _, _, e, _ => by simp at e
  | t :: ts, v :: vs, p, i, e, h => ⟨v, vs, rfl, h 0 t v rfl rfl, Owns.of (by simpa using e) fun j t' v' a b => by
      have := h (j + 1) t' v' (by simpa using a) (by simpa using b)
      rwa [show i + (j + 1) = i + 1 + j by omega] at this⟩
end
section
variable {F : Fc} {tmp : Tmp} {s : State} {σ : St} {H : Hp} {v : V} {t : T}
end
section
variable {R : Type} {F : Fc} {tmp : Tmp} {s : State} {m : Res R} {K : Rs R} {N : Rn R} {Rt : Rr R} {ta tb te to ti : TE} {Kf : PySem.W.Frag}
end
end VL

namespace VL
open PySem L2
variable [EC]

/-! what the printed walks use besides -/
def asLst : D → Option (List D) | .lst l => some l | _ => none
def asStr : D → Option (List Nat) | .str x => some x | _ => none
def asDc : D → Option (Bool × List (D × D)) | .dct false l => some (false, l) | _ => none
def un2 : D → Option (D × D) | .tup [a, b] => some (a, b) | _ => none
def un3 : D → Option (D × D × D) | .tup [a, b, c] => some (a, b, c) | _ => none
def un4 : D → Option (D × D × D × D) | .tup [a, b, c, d] => some (a, b, c, d) | _ => none
theorem asLst_eq {d : D} {l : List D} (h : asLst d = some l) : d = .lst l := by cases d <;> first | (cases h; rfl) | cases h
theorem asStr_eq {d : D} {l : List Nat} (h : asStr d = some l) : d = .str l := by cases d <;> first | (cases h; rfl) | cases h
theorem asDc_f {d : D} {p : Bool × List (D × D)} (h : asDc d = some p) : d = .dct false p.2 := by
  cases d <;> first | cases h | skip
  rename_i b _
  cases b <;> first | (cases h; rfl) | cases h
theorem un2_eq {d : D} {p : D × D} (h : un2 d = some p) : d = .tup [p.1, p.2] := by
  unfold un2 at h; split at h <;> cases h; rfl
theorem un4_eq {d : D} {p : D × D × D × D} (h : un4 d = some p) : d = .tup [p.1, p.2.1, p.2.2.1, p.2.2.2] := by
  unfold un4 at h; split at h <;> cases h; rfl
section
variable {R : Type} {F : Fc} {tmp : Tmp} {s : State} {m : Res R} {K : Rs R} {N : Rn R} {Rt : Rr R} {ta tb te to ti td ty : TE} {Kf : PySem.W.Frag}
theorem rs_join {Z : Type} {t : TS} (S : Z → State) (ma : Res Z) (k : Z → Res R) (e : m = rb ma k) (h : RS F tmp s ma t (fun s' m' => ∃ z, m' = .ok z ∧ Sub s' (S z)) (fun _ _ _ => False)) (hn : ∀ z, N (S z) (k z)) : RS F tmp s m t N Rt := fun σ H D hh nf eo nx rt => by
  subst e
  have nf' : ma ≠ .fail := fun z => nf (by rw [z]; rfl)
  refine h σ H D hh nf' (eo.of fun e he => by rw [he]; rfl) (fun s' σ' H' ⟨z, ez, sb⟩ h1 => ?_) fun t s' v σ' H' hk h1 => hk.elim
  refine nx (S z) σ' H' ?_ (h1.sub sb)
  rw [ez]; exact hn z
theorem rs_joinF {Z R' : Type} {t : TS} (S : Z → State) (ma : Res (Fl Z R')) (k : Fl Z R' → Res R) (e : m = rb ma k) (h : RS F tmp s ma t (fun s' m' => ∃ z, m' = .ok (.nx z) ∧ Sub s' (S z)) (fun t s' m' => ∃ r, m' = .ok (.rt r) ∧ Rt t s' (k (.rt r)))) (hn : ∀ z, N (S z) (k (.nx z))) : RS F tmp s m t N Rt := fun σ H D hh nf eo nx rt => by
  subst e
  have nf' : ma ≠ .fail := fun z => nf (by rw [z]; rfl)
  refine h σ H D hh nf' (eo.of fun e he => by rw [he]; rfl) (fun s' σ' H' ⟨z, ez, sb⟩ h1 => ?_) fun t s' v σ' H' ⟨r, er, hk⟩ h1 => ?_
  · refine nx (S z) σ' H' ?_ (h1.sub sb)
    rw [ez]; exact hn z
  · refine rt t s' v σ' H' ?_ h1
    rw [er]; exact hk
theorem rs_asgG {te : TE} {g : TG} (is : List Nat) (h : RD F tmp s te m (fun tm s1 m1 => ∃ d, tm = .own (.f d) ∧ RG F tmp s1 m1 is g d N)) : RS F tmp s m (tAsg te g) N Rt := fun σ H De hh nf eo nx rt =>
  h σ H _ hh nf eo fun tm s1 v H1 ⟨d, e, hg⟩ h1 => by
    subst e
    exact hg σ H1 v _ h1 nf eo fun s' σ' H' hk h2 _ _ => nx s' σ' H' hk h2
theorem rg_many {gs : TGs} {n : Nat} {d : D} {is : List Nat} {K : State → Res R → Prop} {ds : List D} (e : d = .tup ds) (hn : ds.length = n)
    (h : ∀ xs, xs.length = n → ∀ σ H Q, Holds F (xs.zip (ds.map fun d => TM.own (.f d)) ++ tmp) s σ H → m ≠ .fail → EOk F m → (∀ s' σ' H', K s' m → Holds F tmp s' σ' H' → (∀ j, j ∉ is → σ'[j]? = σ[j]?) → σ'.length = σ.length → Q σ' H') → gs xs σ H Q) : RG F tmp s m is (gTup Kf n gs) d K := fun σ H v Q hh nf eo q => by
  subst e
  obtain ⟨G, ω, h0⟩ := hh
  obtain ⟨p, vs, e1, g, z, r⟩ := h0.tm.1
  refine ⟨p, vs, e1, .inl (.inl (h0.gH _ _ g)), by rw [← r.length]; exact hn, h vs (by rw [← r.length]; exact hn) σ H Q ⟨G, ω, ?_⟩ nf eo q⟩
  have hp := h0.pop
  have key : ∀ (ds : List D) (vs : List V), Reps G ds vs → Hd F G ω (vs.zip (ds.map fun d => TM.own (.f d)) ++ tmp) s σ H := by
    intro ds
    induction ds with
    | nil => intro vs h; cases (show vs = [] from h); exact hp
    | cons d r ih =>
      intro vs ⟨v, q, e, h, k⟩
      subst e
      exact (ih q k).pushF h
  exact key ds vs r
/-- the targets of an unpacking, one after another -/
def RGs (F : Fc) (tmp : Tmp) (s : State) (m : Res R) (is : List Nat) (gs : TGs) (ds : List D) (K : State → Res R → Prop) : Prop :=
  ∀ xs, xs.length = ds.length → ∀ σ H Q, Holds F (xs.zip (ds.map fun d => TM.own (.f d)) ++ tmp) s σ H → m ≠ .fail → EOk F m → (∀ s' σ' H', K s' m → Holds F tmp s' σ' H' → (∀ j, j ∉ is → σ'[j]? = σ[j]?) → σ'.length = σ.length → Q σ' H') → gs xs σ H Q
theorem rgs_nil {K : State → Res R → Prop} (k : K s m) : RGs F tmp s m [] gNil [] K := fun xs hl σ H Q hh nf eo q => by
  cases xs with
  | nil => exact ⟨rfl, q s σ H k hh (fun _ _ => rfl) rfl⟩
  | cons _ _ => simp at hl
theorem rgs_cons {i : Nat} {is : List Nat} {gs : TGs} {d : D} {ds : List D} {K : State → Res R → Prop} (hi : i < s.length) (na : noAli i tmp = true) (hp : F.pv i = none)
    (h : RGs F tmp (s.set i (some (.f d))) m is gs ds K) : RGs F tmp s m (i :: is) (gCons (gName i) gs) (d :: ds) K := fun xs hl σ H Q hh nf eo q => by
  cases xs with
  | nil => simp at hl
  | cons x r =>
    refine ⟨x, r, rfl, ?_⟩
    have na2 : ∀ (xs : List V) (ds : List D), noAli i (xs.zip (ds.map fun d => TM.own (.f d)) ++ tmp) = true := by
      intro xs
      induction xs with
      | nil => intro ds; exact na
      | cons y q ih =>
        intro ds
        cases ds with
        | nil => exact na
        | cons d' r' => exact ih r'
    have h1 : Holds F ((x, .own (.f d)) :: (r.zip (ds.map fun d => TM.own (.f d)) ++ tmp)) s σ H := hh
    have h2 := h1.store hi (na2 r ds) hp
    refine h r (by simpa using hl) (σ.set i (some x)) H Q h2 nf eo fun s' σ' H' hk h3 hj hl2 => q s' σ' H' hk h3 (fun j hj2 => ?_) (by rw [hl2]; simp)
    have h4 : j ∉ is := fun z => hj2 (List.mem_cons_of_mem _ z)
    have h5 : i ≠ j := fun z => hj2 (by rw [z]; exact List.mem_cons_self)
    rw [hj j h4, List.getElem?_set_ne h5]
theorem rg_un {gs : TGs} {n : Nat} {d : D} {is : List Nat} {K : State → Res R → Prop} {ds : List D} (e : d = .tup ds) (hn : ds.length = n) (h : RGs F tmp s m is gs ds K) : RG F tmp s m is (gTup Kf n gs) d K :=
  rg_many e hn fun xs hx => h xs (hx.trans hn.symm)
theorem rg_n2 {gs : TGs} {d : D} {is : List Nat} {K : State → Res R → Prop} (h : ∃ k, m = ob (un2 d) k ∧ ∀ p : D × D, RGs F tmp s (k p) is gs [p.1, p.2] K) : RG F tmp s m is (gTup Kf 2 gs) d K := fun σ H v Q hh nf eo q => by
  obtain ⟨k, em, h⟩ := h
  obtain ⟨p, ep, em'⟩ := ob_cases (by rw [← em]; exact nf)
  exact rg_un (un2_eq ep) rfl (by have := h p; rw [em, em']; exact this) σ H v Q hh nf eo q
theorem rg_n4 {gs : TGs} {d : D} {is : List Nat} {K : State → Res R → Prop} (h : ∃ k, m = ob (un4 d) k ∧ ∀ p : D × D × D × D, RGs F tmp s (k p) is gs [p.1, p.2.1, p.2.2.1, p.2.2.2] K) : RG F tmp s m is (gTup Kf 4 gs) d K := fun σ H v Q hh nf eo q => by
  obtain ⟨k, em, h⟩ := h
  obtain ⟨p, ep, em'⟩ := ob_cases (by rw [← em]; exact nf)
  exact rg_un (un4_eq ep) rfl (by have := h p; rw [em, em']; exact this) σ H v Q hh nf eo q
/-- a list of a value that was not known to be one -/
theorem ri_lst {K : Ki R} (h : RD F tmp s ta m (fun tm s1 m1 => ∃ d k, valS s1 tm = some d ∧ m1 = ob (asLst d) k ∧ ∀ ds v, K [(v, tm)] (fun s => valS s tm = valS s1 tm) id ds s1 (k ds))) : RI F tmp s m (iList Kf ta) K := fun σ H Q hh nf eo q => by
  refine ri_list (fun σ H Q' hh' nf' eo' q' => h σ H Q' hh' nf' eo' fun tm s1 v H1 ⟨d, k, ea, em, hk⟩ h1 => q' tm s1 v H1 ?_ h1) σ H Q hh nf eo q
  obtain ⟨ds, ed, em'⟩ := ob_cases (by rw [← em]; exact nf)
  rw [asLst_eq ed] at ea
  exact ⟨ds, ea, fun v => by have := hk ds v; rw [em, em']; exact this⟩
theorem ri_enumL {K : Ki R} (h : RD F tmp s ta m (fun tm s1 m1 => ∃ d k, valS s1 tm = some d ∧ m1 = ob (asLst d) k ∧ ∀ ds v, K [(v, tm)] (fun s => valS s tm = valS s1 tm) id (enumD 0 ds) s1 (k ds))) : RI F tmp s m (iEnum Kf (tCons ta tNil)) K := fun σ H Q hh nf eo q => by
  refine ri_enum (fun σ H Q' hh' nf' eo' q' => h σ H Q' hh' nf' eo' fun tm s1 v H1 ⟨d, k, ea, em, hk⟩ h1 => q' tm s1 v H1 ?_ h1) σ H Q hh nf eo q
  obtain ⟨ds, ed, em'⟩ := ob_cases (by rw [← em]; exact nf)
  rw [asLst_eq ed] at ea
  exact ⟨ds, ea, fun v => by have := hk ds v; rw [em, em']; exact this⟩
theorem ri_zipL {K : Ki R} (h : RD F tmp s ta m (fun tm1 s1 m1 => ∀ x, RD F ((x, tm1) :: tmp) s1 tb m1 (fun tm2 s2 m2 => ∃ (a b : D) (k : List D → List D → Res R), valS s2 tm1 = some a ∧ valS s2 tm2 = some b ∧ m2 = ob (asLst a) (fun da => ob (asLst b) (fun db => k da db)) ∧ ∀ da db y, K [(y, tm2), (x, tm1)] (fun s => valS s tm1 = valS s2 tm1 ∧ valS s tm2 = valS s2 tm2) id (zipD da db) s2 (k da db)))) : RI F tmp s m (iZip Kf (tCons ta (tCons tb tNil))) K := fun σ H Q hh nf eo q => by
  refine ri_zip (fun σ H Q' hh' nf' eo' q' => h σ H Q' hh' nf' eo' fun tm1 s1 v H1 h2 h1 => q' tm1 s1 v H1 (fun x σ2 H2 Q2 hh2 nf2 eo2 q2 => h2 x σ2 H2 Q2 hh2 nf2 eo2 fun tm2 s2 w H3 ⟨a, b, k, ea, eb, em, hk⟩ h3 => q2 tm2 s2 w H3 ?_ h3) h1) σ H Q hh nf eo q
  obtain ⟨da, eda, em'⟩ := ob_cases (by rw [← em]; exact nf)
  obtain ⟨db, edb, em''⟩ := ob_cases (by rw [← em', ← em]; exact nf)
  rw [asLst_eq eda] at ea
  rw [asLst_eq edb] at eb
  exact ⟨da, db, ea, eb, fun y => by have := hk da db y; rw [em, em', em'']; exact this⟩
def Fl.on {Z R Q : Type} (o : Fl Z R) (a : Z → Res Q) (b : R → Res Q) : Res Q := match o with | .nx z => a z | .rt r => b r
theorem rs_at {t : TS} (s' : State) (e : s = s') (h : RS F tmp s' m t N Rt) : RS F tmp s m t N Rt := by subst e; exact h
theorem all1 {P : Nat → Prop} {a : Nat} (h : P a) : ∀ i ∈ [a], P i := fun i hi => by
  rw [List.mem_singleton] at hi; subst hi; exact h
theorem all2 {P : Nat → Prop} {a b : Nat} (h : P a) (k : P b) : ∀ i ∈ [a, b], P i := fun i hi => by
  rcases List.mem_cons.mp hi with e | e
  · subst e; exact h
  · rw [List.mem_singleton] at e; subst e; exact k
def lcBodyR (F : Fc) (tmp : Tmp) (S : State) (is : List Nat) (g : TG) (tt : TT) (te : TE) (m : Res (Option D)) (d : D) : Prop :=
  RG F tmp S m is g d (fun s2 m2 => RT F tmp s2 m2 tt (fun b s3 m3 => ∃ ma mb, m3 = (if b = true then ma else mb) ∧
    (b = true → RD F tmp s3 te ma (fun tm s4 m4 => ∃ y, tm = .own (.f y) ∧ m4 = .ok (some y) ∧ Sub s4 S)) ∧ (b = false → mb = .ok none ∧ Sub s3 S)))
theorem rd_sub {R' : Type} {F : Fc} {tmp : Tmp} {s : State} {te : TE} {mr : Res R'} {mu : Res (R' × Unit)} (em : mu = rb mr fun o => .ok (o, ())) {K1 : TM → State → Res R' → Prop} {K2 : TM → State → Res (R' × Unit) → Prop} (h : RD F tmp s te mr K1) (hk : ∀ tm s', K1 tm s' mr → K2 tm s' mu) : RD F tmp s te mu K2 := fun σ H Q hh nf eo q =>
  h σ H Q hh (fun z => nf (by rw [em, z]; rfl)) (eo.of fun e he => by rw [em, he]; rfl) fun tm s' v H' k h1 => q tm s' v H' (hk tm s' k) h1
theorem rd_lcR {wi : TI} {g : TG} {tt : TT} {vs : List Nat} (is : List Nat) (hv : ∀ i ∈ is, i ∈ vs) (hp : ∀ i ∈ vs, F.pv i = none)
    (h : RI F tmp s m wi (fun ex P pb ds s1 m1 => ∃ (S : State) (f : D → Res (Option D)) (k : List D → Res R), m1 = rb (fmR ds f) k ∧ Sub s1 S ∧ P S ∧ (∀ i ∈ vs, S[i]? = some none) ∧ noAlis vs (ex ++ tmp) = true ∧
      (∀ d lv acc, lcBodyR F ((lv, .own (.l acc)) :: (ex ++ tmp)) S is g tt te (f d) d) ∧ ∀ ys, K (.own (.l ys)) (pb S) (k ys))) : RD F tmp s (tLc wi g tt te vs) m K :=
  rd_lc (Z := Unit) is hv hp fun σ H Q hh nf eo q => h σ H Q hh nf eo fun ex P pb ds s1 J H1 ⟨S, f, k, em, sb, hP, hS, na, body, fin⟩ => q ex P pb ds s1 J H1 ⟨fun _ => S, (), fun _ d => rb (f d) fun o => .ok (o, ()), fun p => k p.1, by
      rw [fmR_fmS, em]
      cases fmR ds f <;> rfl, sb, fun _ => hP, fun _ => hS, na, fun z d lv acc => by
      have b := body d lv acc
      intro σ2 H2 v2 Q2 hh2 nf2 eo2 q2
      have nf3 : f d ≠ .fail := fun z => nf2 (by show rb (f d) _ = _; rw [z]; rfl)
      have eo3 : EOk F (f d) := eo2.of fun e he => by show rb (f d) _ = _; rw [he]; rfl
      refine b σ2 H2 v2 Q2 hh2 nf3 eo3 fun s3 σ3 H3 hk hh3 hj hl => q2 s3 σ3 H3 ?_ hh3 hj hl
      intro σ4 H4 Q4 hh4 nf4 eo4 q4
      refine hk σ4 H4 Q4 hh4 nf3 eo3 fun b s5 H5 ⟨ma, mb, eb, hT, hF⟩ hh5 => q4 b s5 H5 ⟨rb ma fun o => .ok (o, ()), rb mb fun o => .ok (o, ()), ?_, fun hb => ?_, fun hb => ?_⟩ hh5
      · show rb (f d) _ = _
        rw [eb]; cases b <;> rfl
      · refine rd_sub rfl (hT hb) fun tm s6 ⟨y, e1, e2, e3⟩ => ⟨y, (), e1, by rw [e2]; rfl, e3⟩
      · obtain ⟨e1, e2⟩ := hF hb
        exact ⟨(), by rw [e1]; rfl, e2⟩, fun p => fin p.1⟩
theorem rd_idx (h : RD F tmp s to m (fun tm1 s1 m1 => ∃ d k, valS s1 tm1 = some d ∧ m1 = ob (asLst d) k ∧ ∀ l0 x, RD F ((x, tm1) :: tmp) s1 te (k l0) (fun tm2 s2 m2 => ∃ a b k, valS s2 tm1 = some a ∧ valS s2 tm2 = some b ∧ m2 = ob (indexD a b) k ∧ ∀ c, K (.own (.f c)) s2 (k c)))) :
    RD F tmp s (tBM Kf "list" (rIndex Kf) to (tCons te tNil)) m K := rd_index fun σ H Q hh nf eo q => h σ H Q hh nf eo fun tm s1 v H1 ⟨d, k, ea, em, hk⟩ h1 => q tm s1 v H1 (by
      obtain ⟨ds, ed, em'⟩ := ob_cases (by rw [← em]; exact nf)
      rw [asLst_eq ed] at ea
      exact ⟨ds, ea, fun x => by have := hk ds x; rw [em, em']; exact this⟩) h1
theorem rd_get1 (h : RD F tmp s td m (fun tm1 s1 m1 => ∃ d k, valS s1 tm1 = some d ∧ m1 = ob (asDc d) k ∧ ∀ p x, RD F ((x, tm1) :: tmp) s1 ty (k p) (fun tm2 s2 m2 => ∃ a b k, valS s2 tm1 = some a ∧ valS s2 tm2 = some b ∧ m2 = ob (dget1D a b) k ∧ ∀ c, K (.own (.f c)) s2 (k c)))) : RD F tmp s (tDGet1 td ty) m K :=
  rd_dget1 fun σ H Q hh nf eo q => h σ H Q hh nf eo fun tm s1 v H1 ⟨d, k, ea, em, hk⟩ h1 => q tm s1 v H1 (by
      obtain ⟨p, ed, em'⟩ := ob_cases (by rw [← em]; exact nf)
      rw [asDc_f ed] at ea
      exact ⟨⟨p.2, ea⟩, fun x => by have := hk p x; rw [em, em']; exact this⟩) h1
theorem rd_jn (h : RD F tmp s to m (fun tm1 s1 m1 => ∃ d k, valS s1 tm1 = some d ∧ m1 = ob (asStr d) k ∧ ∀ l0 x, RD F ((x, tm1) :: tmp) s1 te (k l0) (fun tm2 s2 m2 => ∃ a b k, valS s2 tm1 = some a ∧ valS s2 tm2 = some b ∧ m2 = ob (joinD a b) k ∧ ∀ c, K (.own (.f c)) s2 (k c)))) :
    RD F tmp s (tM1 (fun x xs H Q => ∃ a p ys, x = V.str a ∧ xs = [V.ref p] ∧ (SqL Kf H p (List.map V.str ys) ∨ SqT Kf H p (List.map V.str ys)) ∧ (List.map (fun x : Str => x.length) ys).sum + ys.length * a.length ≤ 16777216 ∧ Q (V.str (Txt.join a ys)) H) to te) m K :=
  rd_join fun σ H Q hh nf eo q => h σ H Q hh nf eo fun tm s1 v H1 ⟨d, k, ea, em, hk⟩ h1 => q tm s1 v H1 (by
      obtain ⟨p, ed, em'⟩ := ob_cases (by rw [← em]; exact nf)
      rw [asStr_eq ed] at ea
      exact ⟨⟨p, ea⟩, fun x => by have := hk p x; rw [em, em']; exact this⟩) h1
/-- one pair written -/
theorem rd_disp1 {tk tv : TE} (h : ∀ p, RD F ((p, .own (.dc false [])) :: tmp) s tk m (fun tm1 s1 m1 => ∀ x, RD F ((x, tm1) :: (p, .own (.dc false [])) :: tmp) s1 tv m1 (fun tm2 s2 m2 => ∃ dk dv k, tm1 = .own (.f dk) ∧ tm2 = .own (.f dv) ∧ m2 = (if (keyK dk).isSome = true then k else .fail) ∧ K (.own (.dc false [(dk, dv)])) s2 k))) : RD F tmp s (tDisp [(tk, tv)]) m K := fun σ H Q hh nf eo q => fun p np => by
  have hn : Holds F ((.ref p, .own (.dc false [])) :: tmp) s σ (upd H p (.dK [])) := by
    obtain ⟨G, ω, h⟩ := hh
    exact ⟨G, _, h.newO np ⟨p, [], rfl, by simp, upd_same, rfl⟩⟩
  refine h (.ref p) σ _ _ hn nf eo fun tm1 s1 x H1 h2 h1 => h2 x σ H1 _ h1 nf eo fun tm2 s2 y H2 ⟨dk, dv, k, e1, e2, em, hk⟩ h3 => ?_
  subst e1; subst e2
  have hok : (keyK dk).isSome = true := by
    refine Decidable.byContradiction fun z => ?_
    rw [if_neg z] at em
    exact nf em
  rw [if_pos hok] at em
  obtain ⟨kk, hkk⟩ := Option.isSome_iff_exists.mp hok
  obtain ⟨G, ω, h4⟩ := h3
  have ry := h4.tm.1
  have rx := h4.tm.2.1
  obtain ⟨a, kvs, e3, hw, ha, hr⟩ := h4.tm.2.2.1
  cases e3
  cases (show kvs = [] from hr)
  have own : Own G (upd H2 p (.dK (mergeK [] [(kk, y)]))) ω [1, tmp.length] (.dc false [(dk, dv)]) (.ref p) := ⟨p, mergeK [] [(kk, y)], rfl, hw, upd_same, kk, y, [], rfl, keyK_kD hkk, ry, rfl⟩
  refine ⟨ha, [(kk, y)], by rw [show x = kV kk from rep_key hkk (Rep.mono h4.gH _ _ rx)]; rfl, by show 1 ≤ 15; omega, ?_⟩
  refine q _ s2 _ _ (by rw [em]; exact hk) ⟨G, ω, Hd.wr (tmp' := (.ref p, .own (.dc false [(dk, dv)])) :: tmp) h4.pop.pop.pop hw _ rfl (fun j u e => ?_) ⟨own, Tms.wrO hw tmp (fun j hj => ?_) h4.tm.2.2.2⟩⟩
  · obtain ⟨v', b1, b2⟩ := h4.sl j u e
    exact ⟨v', b1, Own.wrO hw (by simp [pre]) b2⟩
  · have : ¬ j = tmp.length := by omega
    simp [pre, this]
end
end VL

namespace VL
open PySem L2
variable [EC]
def isnD (a b : D) : Option Bool := match b with | .non => isNoneD a | _ => none
def nnD (a b : D) : Option Bool := match b with | .non => (isNoneD a).map not | _ => none
theorem o_isn : Op2B (fun x y H Q => y = .non ∧ Q (.bl (decide (x = .non))) H) isnD := o_isN
theorem o_nn : Op2B (fun x y H Q => y = .non ∧ Q (.bl (!decide (x = .non))) H) nnD := o_notN
section
variable {R : Type} {F : Fc} {tmp : Tmp} {s : State} {m : Res R} {K : Rs R} {N : Rn R} {Rt : Rr R} {ta tb te to ti td ty : TE} {Kf : PySem.W.Frag}
end
theorem hu_1 {k : Nat} {A : Around} (r : Room k A) : A.units + 1 < cLine := by have := r.un; omega
theorem hu_64 {k : Nat} {A : Around} (r : Room k A) : A.units + 64 < cLine := by have := r.un; omega
def FU : Nat := 1000000
/-! rules with the written part named -/
section
variable {X : Cx} {Kf : PySem.W.Frag}
theorem ix_anyK (hK : X.K = Kf) : IxR X (rIxA Kf) := hK ▸ ix_any
theorem sl_listK (hK : X.K = Kf) : SlR X (rSlL Kf) := hK ▸ sl_list
theorem mt_indexK (hK : X.K = Kf) : MtR X "list.index" (rIndex Kf) := hK ▸ mt_index
theorem op_inK (hK : X.K = Kf) : OpR X (compareOp .In) (rInA Kf) := hK ▸ op_inA
theorem op_notInK (hK : X.K = Kf) : OpR X (compareOp .NotIn) (rNotInA Kf) := hK ▸ op_notInA
theorem call_lenK (hK : X.K = Kf) : CallR X (.builtin "len") (rLen Kf) := by subst hK; exact call_len
theorem call_listK (hK : X.K = Kf) : CallR X (.type "list") (rList Kf) := by subst hK; exact call_list_of
theorem call_isiK' (hK : X.K = Kf) : CallR X (.builtin "isinstance") (rIsi Kf) := by subst hK; exact call_isi
theorem pi_listK {tg l : Expr} {tl : TE} (hK : X.K = Kf) (hl : PE X l tl) : PI X tg l (iList Kf tl) := hK ▸ pi_list hl
theorem pi_enumK {e : Expr} {ta : TA} {p pos tpos : Pos} {elts : List Expr} {kk : Nat} (hK : X.K = Kf) (hg : Gl X "enumerate") (hm : X.mg "enumerate" = none) (ha : PA X [e] ta) (hs : starEach [e] X.env = [(false, eval e X.env)] := by rfl) :
    PI X (.Tuple elts kk tpos) (.Call (.Name "enumerate" p) [e] [] pos) (iEnum Kf ta) := hK ▸ pi_enum hg hm ha hs
theorem pi_zipK {e e2 : Expr} {ta : TA} {p pos tpos : Pos} {elts : List Expr} {kk : Nat} (hK : X.K = Kf) (hg : Gl X "zip") (hm : X.mg "zip" = none) (ha : PA X [e, e2] ta)
    (hs : starEach [e, e2] X.env = (false, eval e X.env) :: starEach [e2] X.env := by rfl) (hpl : (backTo pos (starEach [e2] X.env)).any (·.1) = false := by rfl) :
    PI X (.Tuple elts kk tpos) (.Call (.Name "zip" p) [e, e2] [] pos) (iZip Kf ta) := hK ▸ pi_zip hg hm ha hs hpl
theorem pg_tupK {es : List Expr} {k : Nat} {t : TGs} {n : Nat} {pos : Pos} (hK : X.K = Kf) (hc : X.calm = true) (h : PGs X es t)
    (hn : (assignEach es X.env).length = n := by rfl) (hst : (assignEach es X.env).findIdx? (·.1) = none := by rfl) : PG X (.Tuple es k pos) (gTup Kf n t) := hK ▸ pg_tup hc h hn hst
theorem pe_bm0K {o : Expr} {to : TE} {name : Str} {apos cpos : Pos} {T id : String} {r : V → List V → Hp → VK → Prop} (hK : X.K = Kf) (pa : PlainAttrs T) (slot : Slot T name id) (hty : typeOf (.builtin id) = pure (.type "method_descriptor")) (hm : MtR X id r) (ho : PE X o to)
    (hbase : attributeBase o name X.env (eval o X.env) = eval o X.env := by rfl) (hline : (apos.endLine == cpos.line) = true := by rfl) : PE X (.Call (.Attribute o name apos) [] [] cpos) (tBM0 Kf T r to) := hK ▸ pe_bm0 pa slot hty hm ho hbase hline
theorem pe_bmK {o e : Expr} {es : List Expr} {to : TE} {t : TA} {name : Str} {apos cpos : Pos} {T id : String} {r : V → List V → Hp → VK → Prop} (hK : X.K = Kf) (pa : PlainAttrs T) (slot : Slot T name id) (hty : typeOf (.builtin id) = pure (.type "method_descriptor")) (hm : MtR X id r) (ho : PE X o to) (ha : PA X (e :: es) t)
    (hbase : attributeBase o name X.env (eval o X.env) = eval o X.env := by rfl)
    (hfew : ((backTo cpos (starEach (e :: es) X.env)).all (fun x => !x.1) && (backToKw cpos (keywordEach [] X.env)).all (fun x => x.1.isSome)
      && decide ((e :: es).length + ([] : List Keyword).length + (if ([] : List Keyword).isEmpty then 0 else 1) < 30)) = true := by rfl)
    (hline : (apos.endLine == cpos.line) = true := by rfl) (hs : starEach (e :: es) X.env = (false, eval e X.env) :: starEach es X.env := by rfl) (hplain : (backTo cpos (starEach es X.env)).any (·.1) = false := by rfl) :
    PE X (.Call (.Attribute o name apos) (e :: es) [] cpos) (tBM Kf T r to t) := hK ▸ pe_bm pa slot hty hm ho ha hbase hfew hline hs hplain
def rJoin (Kf : PySem.W.Frag) : V → List V → Hp → VK → Prop := fun x xs H Q => ∃ a p ys, x = V.str a ∧ xs = [V.ref p] ∧ (SqL Kf H p (List.map V.str ys) ∨ SqT Kf H p (List.map V.str ys)) ∧ (List.map (fun x : Str => x.length) ys).sum + ys.length * a.length ≤ 16777216 ∧ Q (V.str (Txt.join a ys)) H
theorem pe_joinK {o e : Expr} {to te : TE} {apos pos : Pos} (hK : X.K = Kf) (ho : PE X o to) (he : PE X e te) (hs : starEach [e] X.env = [(false, eval e X.env)] := by rfl) (hbase : attributeBase o "join" X.env (eval o X.env) = eval o X.env := by rfl) (hline : (apos.endLine == pos.line) = true := by rfl) :
    PE X (.Call (.Attribute o "join" apos) [e] [] pos) (tM1 (rJoin Kf) to te) := by subst hK; exact pe_join ho he hs hbase hline
end
end VL

namespace VL
open PySem L2
variable [EC]
/-! the script -/
def noL (o : Obj) : Bool := match o.cls with | .type t => !(t == "list") | _ => true
theorem lookup_mem {K : PySem.W.Frag} {a : Addr} {o : Obj} : K.lookup a = some o → (a, o) ∈ K := by
  induction K with
  | nil => intro h; cases h
  | cons p r ih =>
    intro h
    rw [List.lookup_cons] at h
    split at h
    · rename_i e
      cases h
      have : a = p.1 := by simpa using e
      subst this
      exact List.mem_cons_self
    · exact List.mem_cons_of_mem _ (ih h)
theorem noL_rd {K : PySem.W.Frag} {H : Hp} {a : Addr} {xs : List V} (h : (K.all fun p => noL p.2) = true) (hS : SqL K H a xs) : Rd H a (.lst xs) := by
  rcases hS with r | ⟨o, its, n, e, c, _⟩
  · exact r
  · have := List.all_eq_true.mp h _ (lookup_mem e)
    simp only [noL, c] at this
    exact absurd this (by decide)
theorem reps_ints {G : Hp} : ∀ ns : List Int, Reps G (ns.map D.int) (ns.map V.int)
  | [] => rfl
  | i :: r => ⟨.int i, r.map V.int, rfl, rfl, reps_ints r⟩
theorem law_end {K : PySem.W.Frag} {H : Hp} {a : Addr} {ns : List Int} {E : XK} {mir : D → Res D} (h : (K.all fun p => noL p.2) = true) (hl : ns.length ≤ 63) (hS : SqL K H a (ns.map V.int)) (hm : mir (.lst (ns.map .int)) = .ok (.bl true)) :
    spOf (A := D) (R := D) EC.ec (fun a => [.f a]) (fun a => mir a) (fun r => .f r) (fun r => [none]) [.ref a] H (fun v _ => v = .bl true) E := by
  refine ⟨.lst (ns.map .int), H, fun _ => none, Same.refl _, fun x p e => absurd e (by simp), rfl, fun k t e => ?_, ?_, fun r v H' e p => ?_, fun e od H' z => ?_⟩
  · match k, e with
    | 0, e =>
      cases e
      refine ⟨.ref a, rfl, a, ns.map V.int, rfl, noL_rd h hS, ?_, reps_ints ns⟩
      rw [List.length_map, sizeLine_eq]; omega
    | k + 1, e => simp at e
  · show mir _ ≠ _
    rw [hm]; intro z; cases z
  · have e' : mir (.lst (ns.map .int)) = .ok r := e
    rw [hm] at e'
    cases e'
    obtain ⟨G', w', _, _, o, _⟩ := p
    exact o
  · have z' : mir (.lst (ns.map .int)) = .err e := z
    rw [hm] at z'; cases z'
end VL

namespace VL
open PySem L2
/-! mathematics of mirrors -/
def Sat {R : Type} (m : Res R) (P : R → Prop) : Prop := ∃ r, m = .ok r ∧ P r
section
variable {R S Z : Type}
theorem sat_rb {ma : Res S} {k : S → Res R} {P : S → Prop} {Q : R → Prop} (h : Sat ma P) (hk : ∀ r, P r → Sat (k r) Q) : Sat (rb ma k) Q := by
  obtain ⟨r, rfl, p⟩ := h; exact hk r p
theorem sat_ob {o : Option S} {c : S} {k : S → Res R} {Q : R → Prop} (e : o = some c) (h : Sat (k c) Q) : Sat (ob o k) Q := by subst e; exact h
theorem sat_ok {r : R} {P : R → Prop} (h : P r) : Sat (.ok r) P := ⟨r, rfl, h⟩
theorem Sat.mono {m : Res R} {P Q : R → Prop} (h : Sat m P) (i : ∀ r, P r → Q r) : Sat m Q := by obtain ⟨r, e, p⟩ := h; exact ⟨r, e, i r p⟩
theorem of_sat {m : Res R} {r : R} (h : Sat m (fun x => x = r)) : m = .ok r := by obtain ⟨x, e, p⟩ := h; rw [e, p]
theorem sat_rbe {ma : Res S} {r : S} {k : S → Res R} {Q : R → Prop} (h : ma = .ok r) (hk : Sat (k r) Q) : Sat (rb ma k) Q := by subst h; exact hk
theorem sat_if {c : Prop} [Decidable c] {a b : Res R} {Q : R → Prop} (h1 : c → Sat a Q) (h2 : ¬ c → Sat b Q) : Sat (if c then a else b) Q := by
  by_cases h : c
  · rw [if_pos h]; exact h1 h
  · rw [if_neg h]; exact h2 h
theorem sat_forN {f : Z → D → Res Z} {I : Nat → Z → Prop} : ∀ (ds : List D) (z0 : Z) (n : Nat), I n z0 → (∀ i z d, ds[i]? = some d → I (n + i) z → Sat (f z d) (I (n + i + 1))) → Sat (forN ds z0 f) (I (n + ds.length))
  | [], z0, n, h0, _ => ⟨z0, rfl, h0⟩
  | d :: r, z0, n, h0, h => by
    refine sat_rb (h 0 z0 d rfl h0) fun z hz => ?_
    have := sat_forN r z (n + 1) hz fun i z d e hi => by
      have := h (i + 1) z d (by simpa using e) (by rw [show n + (i + 1) = n + 1 + i by omega]; exact hi)
      rwa [show n + (i + 1) = n + 1 + i by omega] at this
    rwa [show n + 1 + r.length = n + (d :: r).length by simp; omega] at this
theorem sat_forL {f : Z → D → Res (Fl Z R)} {I : Nat → Z → Prop} : ∀ (ds : List D) (z0 : Z) (n : Nat), I n z0 → (∀ i z d, ds[i]? = some d → I (n + i) z → Sat (f z d) (fun o => ∃ z', o = .nx z' ∧ I (n + i + 1) z')) → Sat (forL ds z0 f) (fun o => ∃ z', o = .nx z' ∧ I (n + ds.length) z')
  | [], z0, n, h0, _ => ⟨_, rfl, z0, rfl, h0⟩
  | d :: r, z0, n, h0, h => by
    refine sat_rb (h 0 z0 d rfl h0) fun o hz => ?_
    obtain ⟨z, rfl, hz⟩ := hz
    have := sat_forL r z (n + 1) hz fun i z d e hi => by
      have := h (i + 1) z d (by simpa using e) (by rw [show n + (i + 1) = n + 1 + i by omega]; exact hi)
      rwa [show n + (i + 1) = n + 1 + i by omega] at this
    rwa [show n + 1 + r.length = n + (d :: r).length by simp; omega] at this
theorem sat_forL0 {f : Z → D → Res (Fl Z R)} {I : Z → Prop} {ds : List D} {z0 : Z} (h0 : I z0) (h : ∀ z d, d ∈ ds → I z → Sat (f z d) (fun o => ∃ z', o = .nx z' ∧ I z')) : Sat (forL ds z0 f) (fun o => ∃ z', o = .nx z' ∧ I z') :=
  sat_forL (I := fun _ => I) ds z0 0 h0 fun i z d e hi => h z d (List.mem_of_getElem? e) hi
theorem sat_while {fc : Z → Res Bool} {f : Z → Res (Fl Z R)} {I : Z → Prop} {E : Z → Prop} {μ : Z → Nat} (h : ∀ z, I z → (fc z = .ok false ∧ E z) ∨ (fc z = .ok true ∧ Sat (f z) (fun o => ∃ z', o = .nx z' ∧ I z' ∧ μ z' < μ z))) :
    ∀ (n : Nat) (z0 : Z), I z0 → μ z0 < n → Sat (whileF n z0 fc f) (fun o => ∃ z, o = .nx z ∧ I z ∧ E z)
  | 0, _, _, hm => absurd hm (Nat.not_lt_zero _)
  | n + 1, z0, h0, hm => by
    rcases h z0 h0 with ⟨e, q⟩ | ⟨e, q⟩
    · show Sat (rb (fc z0) _) _
      rw [e]; exact ⟨_, rfl, z0, rfl, h0, q⟩
    · show Sat (rb (fc z0) _) _
      rw [e]
      show Sat (rb (f z0) _) _
      refine sat_rb q fun o ho => ?_
      obtain ⟨z', rfl, i, m⟩ := ho
      exact sat_while h n z' i (by omega)
theorem sat_whileN {fc : Z → Res Bool} {f : Z → Res Z} {I : Z → Prop} {E : Z → Prop} {μ : Z → Nat} (h : ∀ z, I z → (fc z = .ok false ∧ E z) ∨ (fc z = .ok true ∧ Sat (f z) (fun z' => I z' ∧ μ z' < μ z))) :
    ∀ (n : Nat) (z0 : Z), I z0 → μ z0 < n → Sat (whileN n z0 fc f) (fun z => I z ∧ E z)
  | 0, _, _, hm => absurd hm (Nat.not_lt_zero _)
  | n + 1, z0, h0, hm => by
    rcases h z0 h0 with ⟨e, q⟩ | ⟨e, q⟩
    · show Sat (rb (fc z0) _) _
      rw [e]; exact ⟨_, rfl, h0, q⟩
    · show Sat (rb (fc z0) _) _
      rw [e]
      show Sat (rb (f z0) _) _
      refine sat_rb q fun z' ho => ?_
      exact sat_whileN h n z' ho.1 (by omega)
theorem fmR_eq {f : D → Res (Option D)} {g : D → Option D} : ∀ (ds : List D), (∀ d ∈ ds, f d = .ok (g d)) → fmR ds f = .ok (ds.filterMap g)
  | [], _ => rfl
  | d :: r, h => by
    show rb (f d) _ = _
    rw [h d List.mem_cons_self]
    show rb (fmR r f) _ = _
    rw [fmR_eq r fun d hd => h d (List.mem_cons_of_mem _ hd)]
    rw [List.filterMap_cons]
    cases g d <;> rfl
theorem fmR_map {f : D → Res (Option D)} {g : D → D} (ds : List D) (h : ∀ d ∈ ds, f d = .ok (some (g d))) : fmR ds f = .ok (ds.map g) := by
  rw [fmR_eq (g := fun d => some (g d)) ds h]
  congr 1
  induction ds with
  | nil => rfl
  | cons d r ih => rw [List.filterMap_cons, List.map_cons, ih fun d hd => h d (List.mem_cons_of_mem _ hd)]
end
/-! values -/
theorem atI_n {α : Type} (xs : List α) (j : Nat) : atI xs ((j : Nat) : Int) = xs[j]? := by
  unfold atI ixN
  rw [if_pos (by omega)]
  by_cases h : (j : Int) < xs.length
  · rw [if_pos h]; simp
  · rw [if_neg h]; simp; omega
theorem ixN_n {n j : Nat} (h : j < n) : ixN n ((j : Nat) : Int) = some j := by
  unfold ixN
  rw [if_pos (by omega), if_pos (by omega)]; simp
theorem ix_l {l : List D} {i : Nat} {d : D} (h : l[i]? = some d) : ixD (.lst l) (.int (i : Nat)) = some d := by
  show atI l _ = _
  rw [atI_n]; exact h
theorem ix_t {l : List D} {i : Nat} {d : D} (h : l[i]? = some d) : ixD (.tup l) (.int (i : Nat)) = some d := by
  show atI l _ = _
  rw [atI_n]; exact h
theorem ix_s {s : List Nat} {i c : Nat} (h : s[i]? = some c) (hl : s.length ≤ 16777216) : ixD (.str s) (.int (i : Nat)) = some (.str [c]) := by
  show (if s.length ≤ 16777216 then (atI s _).map _ else none) = _
  rw [if_pos hl, atI_n, h]; rfl
theorem set_l {l : List D} {i : Nat} {d : D} (h : i < l.length) : setL l (.int (i : Nat)) d = some (l.set i d) := by
  show (ixN l.length _).map _ = _
  rw [ixN_n h]; rfl
theorem rng0 {n : Nat} (h : n ≤ 16777216) : rngD (.int 0) (.int (n : Nat)) = some ((List.range n).map fun k => .int (k : Nat)) := by
  show (if _ then _ else _) = _
  rw [if_pos (by omega)]
  simp
theorem ap_l {l : List D} {d : D} (h : l.length < 16777216) : apL l d = some (l ++ [d]) := if_pos h
theorem cat_l {a b : List D} (h : a.length + b.length ≤ 16777216) : catD (.lst a) (.lst b) = some (a ++ b) := if_pos h
theorem cut_to {α : Type} (l : List α) (n : Nat) (h : n ≤ l.length) : cut l none (some (n : Nat)) = l.take n := by
  unfold cut
  rw [HT.sIx_nat, HT.sIx_none, Nat.min_eq_left h]; simp
theorem cut_from {α : Type} (l : List α) (n : Nat) (h : n ≤ l.length) : cut l (some (n : Nat)) none = l.drop n := by
  unfold cut
  rw [HT.sIx_nat, HT.sIx_none, Nat.min_eq_left h]
  rw [List.take_of_length_le (by rw [List.length_drop]; omega)]
theorem add_s {a b : List Nat} (h : a.length + b.length ≤ 16777216) : addD (.str a) (.str b) = some (.str (a ++ b)) := if_pos h
theorem len_s {a : List Nat} (h : a.length ≤ 16777216) : lenD (.str a) = some (.int a.length) := if_pos h
theorem mod_i {a b : Int} (h : 0 < b) : modD (.int a) (.int b) = some (.int (a % b)) := if_pos h
theorem fdiv_i {a b : Int} (h : 0 < b ∧ b < 1073741824) : fdivD (.int a) (.int b) = some (.int (a / b)) := if_pos h
theorem mul_l {a b : Int} (h : -18446744073709551616 < a ∧ a < 18446744073709551616) : mulD (.int a) (.int b) = some (.int (a * b)) := if_pos (.inl h)
theorem mul_r {a b : Int} (h : -18446744073709551616 < b ∧ b < 18446744073709551616) : mulD (.int a) (.int b) = some (.int (a * b)) := if_pos (.inr h)
theorem len_l {l : List D} : lenD (.lst l) = some (.int l.length) := rfl
mutual
theorem eqvR : ∀ d : D, d.plain = true → D.eqv d d = true
  | .non, _ => rfl
  | .bl b, _ => by simp [D.eqv]
  | .int b, _ => by simp [D.eqv]
  | .str b, _ => by simp [D.eqv]
  | .tup l, h => by simp only [D.eqv]; exact eqvsR l (by simpa [D.plain] using h)
  | .lst l, h => by simp only [D.eqv]; exact eqvsR l (by simpa [D.plain] using h)
  | .dct _ _, h => by simp [D.plain] at h
  | .opq _, h => by simp [D.plain] at h
  | .exc _ _, p => by cases p
  | .fd _ _ _, p => by cases p
  | .fz _, p => by cases p
theorem eqvsR : ∀ l : List D, D.plains l = true → D.eqvs l l = true
  | [], _ => rfl
  | d :: r, h => by
    simp only [D.plains, Bool.and_eq_true] at h
    simp only [D.eqvs, Bool.and_eq_true]
    exact ⟨eqvR d h.1, eqvsR r h.2⟩
end
theorem eq_same {d : D} (p : d.plain = true) (h : d.dep ≤ 60) : eqD d d = some true := by
  unfold eqD
  rw [if_pos ⟨p, p, by omega⟩, eqvR d p]
theorem ne_same {d : D} (p : d.plain = true) (h : d.dep ≤ 60) : neD d d = some false := by
  unfold neD
  rw [eq_same p h]; rfl
theorem eq_str {a b : List Nat} : eqD (.str a) (.str b) = some (a == b) := by
  unfold eqD
  rw [if_pos ⟨rfl, rfl, Nat.zero_le _⟩]
  simp [D.eqv]
theorem ne_str {a b : List Nat} : neD (.str a) (.str b) = some (!(a == b)) := by
  unfold neD; rw [eq_str]; rfl
theorem ne_nil {l : List D} (p : D.plains l = true) (h : D.deps l ≤ 60) : neD (.lst l) (.lst []) = some (!l.isEmpty) := by
  unfold neD eqD
  rw [if_pos ⟨by simpa [D.plain] using p, rfl, by simp [D.dep, D.deps]⟩]
  cases l <;> rfl
theorem eq_nil {l : List D} (p : D.plains l = true) : eqD (.lst l) (.lst []) = some l.isEmpty := by
  unfold eqD
  rw [if_pos ⟨by simpa [D.plain] using p, rfl, by simp [D.dep, D.deps]⟩]
  cases l <;> rfl
theorem plains_iff : ∀ {l : List D}, D.plains l = true ↔ ∀ d ∈ l, d.plain = true
  | [] => by simp [D.plains]
  | d :: r => by simp [D.plains, plains_iff (l := r)]
theorem deps_le : ∀ {l : List D} {n : Nat}, (∀ d ∈ l, d.dep ≤ n) → D.deps l ≤ n
  | [], _, _ => Nat.zero_le _
  | d :: r, n, h => by
    simp only [D.deps]
    have := h d List.mem_cons_self
    have := deps_le (l := r) fun x hx => h x (List.mem_cons_of_mem _ hx)
    omega
variable [EC]
end VL

/-! zip of a list and a text; its pairs as a dict's argument -/
namespace PySem.ZS
open PySem

abbrev hA (h : Heap) (l : Addr) : Heap := h.push { cls := .type "list_iterator", data := .fields #[.ref l, .int 0 0] }
abbrev hB (h : Heap) (l : Addr) (x : Str) (t : Tok) : Heap := (hA h l).push { cls := .type (strIterType x), data := .fields #[.str x t, .int 0 0] }
abbrev hC (h : Heap) (l : Addr) (x : Str) (t : Tok) : Heap := (hB h l x t).push { cls := .type "tuple", data := .seq #[.ref h.objs.size, .ref (hA h l).objs.size] }
abbrev hD (h : Heap) (l : Addr) (x : Str) (t : Tok) : Heap := (hC h l x t).push { cls := .type "tuple", data := .seq #[.none, .none] }
abbrev hE (h : Heap) (l : Addr) (x : Str) (t : Tok) : Heap := (hD h l x t).push { cls := .type "zip", data := .fields #[.none, .bool false, .bool false, .ref (hB h l x t).objs.size, .ref (hC h l x t).objs.size] }
set_option maxHeartbeats 2000000 in
theorem made (l : Addr) (xs : Array Value) (x : Str) (t : Tok) :
    Meets (Builtin.«zip.__new__» ⟨[.type "zip", .ref l, .str x t], []⟩) (fun _ R s => s.heap.IsList l xs ∧ R (.ok (.ret (.ref (hD s.heap l x t).objs.size))) { s with heap := hE s.heap l x t }) :=
  .of_wp fun prog w A R s h => by
    obtain ⟨hp, g, d, tk, os⟩ := s; obtain ⟨hl, h⟩ := h; have hsub := sub_zip
    have hL : Heap.IsList (Shared.heap ⟨hp, g, d, tk, os⟩) l xs := hl
    wp_walk using wpAny_pyIter_list hL, wpAny_pyIter_strU
    exact ⟨_, rfl, h⟩
section
variable {prog : Program} {w : World} {A : Around} {E : Value → Shared → Prop} {s : Shared}
theorem call {l : Addr} {xs : Array Value} {x : Str} {t : Tok} {Q : Value → Shared → Prop} (hl : s.heap.IsList l xs)
    (h : ∀ h', IsZip h' (s.heap.objs.size + 4) (s.heap.objs.size + 2) (s.heap.objs.size + 3) .none → IsPair h' (s.heap.objs.size + 2) (.ref s.heap.objs.size) (.ref (s.heap.objs.size + 1)) → IsPair h' (s.heap.objs.size + 3) .none .none →
      h'.IsListIter s.heap.objs.size l 0 → h'.IsStrIter (s.heap.objs.size + 1) (strIterType x) x t 0 → h'.objs.size = s.heap.objs.size + 5 → (∀ c o, s.heap.get? c = some o → h'.get? c = some o) → Q (.ref (s.heap.objs.size + 4)) { s with heap := h' }) :
    wpAny (model prog w) A (PySem.call (.type "zip") [.ref l, .str x t]) Q E s := by
  refine callType_new F.called_zip (by decide) (F.typeCall_zip_2 _ _) (F.newCall_zip_2 _ _) (fun obj => F.args_object_init_3 obj _ _) F.entry_zip_new (made l xs x t) ⟨hl, ?_⟩
  have a1 : (hA s.heap l).objs.size = s.heap.objs.size + 1 := Heap.size_push ..
  have a2 : (hB s.heap l x t).objs.size = s.heap.objs.size + 2 := by rw [Heap.size_push, a1]
  have a3 : (hC s.heap l x t).objs.size = s.heap.objs.size + 3 := by rw [Heap.size_push, a2]
  have a4 : (hD s.heap l x t).objs.size = s.heap.objs.size + 4 := by rw [Heap.size_push, a3]
  have a5 : (hE s.heap l x t).objs.size = s.heap.objs.size + 5 := by rw [Heap.size_push, a4]
  have b5 : (hE s.heap l x t).get? (hD s.heap l x t).objs.size = some _ := Heap.get?_push_size _ rfl
  have b4 : (hE s.heap l x t).get? (hC s.heap l x t).objs.size = some _ := Heap.get?_push_of_some _ (Heap.get?_push_size _ rfl)
  have b3 : (hE s.heap l x t).get? (hB s.heap l x t).objs.size = some _ := Heap.get?_push_of_some _ (Heap.get?_push_of_some _ (Heap.get?_push_size _ rfl))
  have b2 : (hE s.heap l x t).get? (hA s.heap l).objs.size = some _ := Heap.get?_push_of_some _ (Heap.get?_push_of_some _ (Heap.get?_push_of_some _ (Heap.get?_push_size _ rfl)))
  have b1 : (hE s.heap l x t).get? s.heap.objs.size = some _ := Heap.get?_push_of_some _ (Heap.get?_push_of_some _ (Heap.get?_push_of_some _ (Heap.get?_push_of_some _ (Heap.get?_push_size _ rfl))))
  show _ ∧ _
  rw [a2, a3, a4] at b5; rw [a1, a2] at b3; rw [a3] at b4; rw [a1] at b2; rw [a4]
  exact ⟨⟨_, b5, rfl⟩, h _ b5 b3 b4 ⟨_, b1, rfl, rfl⟩ ⟨_, b2, rfl, rfl⟩ a5 fun c o y => Heap.get?_push_of_some _ (Heap.get?_push_of_some _ (Heap.get?_push_of_some _ (Heap.get?_push_of_some _ (Heap.get?_push_of_some _ y))))⟩
end
end PySem.ZS

namespace PySem.ZS
open PySem PySem.W
section
variable {prog : Program} {w : World} {A : Around} {E : Value → Shared → Prop} {s : Shared} {z TI TO T i1 i2 l : Addr} {k : Nat} {xs : Array Value} {x a b : Value} {y : Str} {t : Tok} {c : Nat} {f : Bool} {oT : Obj}
end
end PySem.ZS

namespace PySem.ZS
open PySem PySem.W
section
variable {prog : Program} {w : World} {A : Around} {E : Value → Shared → Prop} {s : Shared} {z TI TO T i1 i2 l : Addr} {k : Nat} {xs : Array Value} {x a b : Value} {y : Str} {t : Tok} {c : Nat} {f : Bool} {oT : Obj}
end
section
variable {prog : Program} {w : World}
end
end PySem.ZS

namespace L2
open PySem PySem.Spec PyProof.Rows
section
variable {prog : Program} {w : World} {A : Around} {E : Value → Shared → Prop} {s : Shared}
theorem mergeK_step {kvs : List (Key × V)} {i : Nat} {k : Key} {y : V} (h : kvs[i]? = some (k, y)) : mergeK [] (kvs.take (i + 1)) = mergeK (mergeK [] (kvs.take i)) [(k, y)] := by
  unfold mergeK
  rw [List.take_add_one, h, List.foldl_append]; rfl
theorem call_dictZ {T : String} {a : Addr} {fp wr : List Addr} {n : Nat} {Rel : Nat → Value → Value → Prop} {OK : Heap → Prop} {kvs : List (Key × V)} {Q : Value → Shared → Prop} (P : PairArg prog w T a fp wr n Rel OK) (hh : A.handled = none) (ok : OK s.heap) (hl : kvs.length = n)
    (hc : ∀ i key v, Rel i key v → ∃ k y, kvs[i]? = some (k, y) ∧ (mixKind prog w).is k key = true ∧ RelV y v) (hsz : n ≤ sizeLine)
    (h : ∀ h' tk vs, KV (mergeK [] kvs) vs → h'.DictOf (mixKind prog w) s.heap.objs.size vs → (∀ b o, b ∉ wr → s.heap.get? b = some o → h'.get? b = some o) → Q (.ref s.heap.objs.size) { s with heap := h', toks := tk }) :
    wpAny (model prog w) A (call (.type "dict") [.ref a]) Q E s := by
  refine call_dict_arg P ok fun s₁ hs₁ hdf ok₁ => ?_
  subst hs₁
  refine updateFrom_arg (A := A.in1) (Tab := fun i h => ∃ vs, KV (mergeK [] (kvs.take i)) vs ∧ h.DictOf (mixKind prog w) s.heap.objs.size vs) P .none hh ok₁ hdf ⟨[], .nil, Heap.DictOf.new s.heap⟩ (fun _ _ ⟨_, _, tb⟩ => tb.lt_size) (fun i h h' wr' hd _ ⟨vs, r, tb⟩ hk => ⟨vs, r, tb.at' fun o e => hk _ o hd e⟩) ?_ ?_
  · intro i key v s' Q E' hi hrel tb0 _ hQ
    obtain ⟨vs, r, tb⟩ := tb0
    obtain ⟨k, y, hk, his, ry⟩ := hc i key v hrel
    have len : vs.length ≤ i := by
      rw [← r.length]
      refine Nat.le_trans (length_mergeK (kvs.take i) []) ?_
      rw [List.length_nil, List.length_take]; omega
    refine wpAny_dictSet_pairs (hsz := by omega) his tb fun h' hm' hs => ?_
    refine hQ h' _ ⟨_, ?_, hm'⟩ hs
    rw [mergeK_step hk]
    exact KV.merge (more := [(k, y)]) (rs := [(k, v)]) (.cons ⟨rfl, ry⟩ .nil) r
  · rintro h' tk ⟨vs, r, tb⟩ hk
    rw [List.take_of_length_le (Nat.le_of_eq hl)] at r
    exact ⟨rfl, h h' tk vs r tb fun b o hw e => hk b o (Nat.ne_of_lt (Heap.lt_size e)) hw (Heap.get?_push_of_some _ e)⟩
end
end L2

namespace L2
open PySem PySem.Spec PyProof.Rows
section
variable {X : Cx} {pins : List (Addr × Obj)} {σ : St}
end
end L2

namespace VL
open PySem L2
variable [EC]
section
variable {R : Type} {F : Fc} {tmp : Tmp} {s : State} {m : Res R} {K : Rs R} {N : Rn R} {Rt : Rr R} {ta tb : TE} {Kf : PySem.W.Frag}
end
end VL

namespace VL
open PySem L2
variable [EC]
section
variable {R : Type} {F : Fc} {tmp : Tmp} {s : State} {m : Res R} {K : Rs R} {N : Rn R} {Rt : Rr R} {ta tb te to ti : TE} {Kf : PySem.W.Frag}
/-! a deck: [pools, number]; one of its pools by a name of its own -/
end
end VL

namespace VL
open PySem L2
variable [EC]
/-! text times number -/
def rMulS : R2 := fun x y H Q => ∃ (a : List Nat) (n : Int), x = .str (mkS a) ∧ y = .int n ∧ 0 ≤ n ∧ n ≤ 1000000 ∧ a.length * n.toNat ≤ 16777216 ∧ Q (.str (mkS (List.replicate n.toNat a).flatten)) H
theorem foldl_arr : ∀ (n : Nat) (a : Array Nat) (acc : List Nat), List.foldl (fun x y : Array Nat => x ++ y) acc.toArray (List.replicate n a) = (acc ++ (List.replicate n a.toList).flatten).toArray
  | 0, a, acc => by simp
  | n + 1, a, acc => by
    rw [List.replicate_succ, List.foldl_cons]
    have : acc.toArray ++ a = (acc ++ a.toList).toArray := by apply Array.ext'; simp
    rw [this, foldl_arr n a]
    simp [List.replicate_succ]
theorem mul_mkS (a : List Nat) (n : Int) (h : 0 ≤ n) : Txt.mul (mkS a) n = mkS (List.replicate n.toNat a).flatten := by
  unfold Txt.mul
  by_cases h1 : n < 1
  · rw [if_pos h1]
    have : n = 0 := by omega
    subst this; rfl
  · rw [if_neg h1]
    split
    · rename_i h2
      simp only [Bool.or_eq_true, beq_iff_eq] at h2
      rcases h2 with h2 | h2
      · subst h2; simp [mkS]
      · rw [mkS_len] at h2
        have : a = [] := List.length_eq_zero_iff.mp h2
        subst this
        simp [mkS]
    · have := foldl_arr n.toNat (mkS a).cps []
      simp only [List.nil_append] at this
      show Str.mk _ = _
      rw [show ((#[] : Array Nat)) = ([] : List Nat).toArray from rfl, this, mkS_cps]; rfl
theorem op_mulS {X : Cx} : OpR X (binaryOp .Mult) rMulS := by
  intro pins s σ H x y v u Q I rx ry h
  obtain ⟨a, n, rfl, rfl, h0, h1, hz, q⟩ := h
  obtain ⟨t, rfl⟩ := rx
  obtain ⟨t', rfl⟩ := ry
  refine SB.mul ⟨?_, fun h2 h3 => ?_, fun h2 h3 => ?_⟩ fun t' k => ⟨.str (mkS (List.replicate n.toNat a).flatten), H, I.tok _, ⟨t', by rw [mul_mkS a n h0]⟩, q⟩
  · simp; omega
  · rw [mkS_len]
    have : (a.length : Int) * n ≤ 16777216 := by
      have e : (a.length : Int) * n = ((a.length * n.toNat : Nat) : Int) := by rw [Int.natCast_mul, Int.toNat_of_nonneg h0]
      rw [e]; omega
    intro hgt
    have h5 : (2 ^ 63 - 1) / n * n ≤ 2 ^ 63 - 1 := Int.ediv_mul_le _ (by omega)
    have h6 : ((2 ^ 63 - 1) / n + 1) * n ≤ (a.length : Int) * n := Int.mul_le_mul_of_nonneg_right (by omega) (by omega)
    have h7 : (2 ^ 63 - 1 : Int) < ((2 ^ 63 - 1) / n + 1) * n := Int.lt_ediv_add_one_mul_self _ (by omega)
    omega
  · rw [mkS_len]
    have : a.length * n.toNat ≤ sizeLine := by rw [sizeLine_eq]; exact hz
    simpa [Builtin.Str.tooLong] using this
def mulS : D → D → Option D
  | .str a, .int n => if 0 ≤ n ∧ n ≤ 1000000 ∧ a.length * n.toNat ≤ 16777216 then some (.str (List.replicate n.toNat a).flatten) else none
  | _, _ => none
theorem o_mulS : Op2C rMulS mulS := fun G H x y a b c Q sm ra rb e q => by
  cases a <;> cases b <;> try (cases e; done)
  simp only [mulS] at e
  split at e
  · cases e
    rename_i h
    exact ⟨_, _, ra, rb, h.1, h.2.1, h.2.2, q _ rfl⟩
  · cases e
/-! insert -/
section
variable {R : Type} {F : Fc} {tmp : Tmp} {s : State} {m : Res R} {K : Rs R} {N : Rn R} {Rt : Rr R} {ta tb te to ti : TE} {Kf : PySem.W.Frag}
/-! targets of a list -/
end
end VL

set_option maxHeartbeats 2000000
namespace VL
open PySem PySem.Spec PyProof.Rows L2
/-! a caught exception, kept by a name -/
section
variable {X : Cx} {pins : List (Addr × Obj)} {σ : L2.St} {H : Hp} {s : Shared}
end
section
variable {X : Cx} {x n y : Str} {c : Value} {i j : Nat} {body : List Stmt} {np np2 yp apos pos pos' : Pos} {tb : WX → TS}
end
end VL

set_option maxHeartbeats 1000000
namespace VL
open PySem L2
variable [EC]
section
variable {A R R' : Type} {ec : Nat → Addr} {ea : A → List T} {mir : A → Res R'} {er : R' → T} {eo : R' → List (Option T)} {F : Fc} {tmp : Tmp} {s : State} {m : Res R} {K : Rs R} {N : Rn R} {Rt : Rr R} {t : TA} {E : XK} {te : TE}
/-! raise -/
theorem Hd.errP {G H : Hp} {ω : Addr → Option Lab} {σ : L2.St} (h : Hd F G ω tmp s σ H) (k : Nat) : ErrP F ⟨k, none⟩ none H :=
  ⟨G, h.g0, h.gH, h.gn, h.fr, h.ex, rfl⟩
end
/-! try -/
end VL

set_option maxHeartbeats 1000000
namespace VL
open PySem L2
/-! the classes of refusals -/
def xname : Nat → Str | 0 => "NetError" | 1 => "NoStanding" | 2 => "NoFit" | 3 => "NoText" | 4 => "NoName" | 5 => "NoRow" | 6 => "NoStep" | 7 => "Unfolding" | 8 => "Put" | _ => "Desk"
def clsA (K : PySem.W.Frag) (k : Nat) : Addr := match PySem.W.nsIn K mainGlobals (xname k) with | some (some (.ref c)) => c | _ => 0
def ecOf (P : Program) (w : World) (K : PySem.W.Frag) : EC := ⟨clsA K, P, w⟩
def isub (k j : Nat) : Bool := k == j || j == 0
open PySem.W in
structure XOne (K : PySem.W.Frag) (C : Addr) : Prop where
  cl : (clsIn K C).isSome = true
  ga : findIn K (.ref C) "__getattribute__" = some (some (.builtin "BaseException.__getattribute__"))
  gg : findIn K (.ref C) "__getattr__" = some none
  su : subIn K (.ref C) (.type "BaseException") = some true
  ha : findIn K (.ref C) "__class__" = some (some (.builtin "object.__class__"))
  hn : specialIn K (.builtin "object.__class__") "__get__" = some (some (.builtin "getset_descriptor.__get__"))
  ht : takesIn K (.builtin "object.__class__") = some true
  hm : mroIn K C (.type "object") = some true
  hd : hasDictIn K C = true
  kv : kitOne K (.ref C) (.type "ValueError") = some true
  kn : kitOne K (.type "NoneType") (.ref C) = some false
  no : findIn K (.ref C) "at" = some none
/-- what a text's own classes of refusals are -/
structure XF [EC] (K : PySem.W.Frag) (ks : List Nat) : Prop where
  one : ∀ k ∈ ks, XOne K (EC.ec k)
  kit : ∀ k ∈ ks, ∀ j ∈ ks, PySem.W.kitOne K (.ref (EC.ec k)) (.ref (EC.ec j)) = some (isub k j)
  exm : ∀ k ∈ ks, ∀ j ∈ ks, PySem.W.exmOne K (.ref (EC.ec k)) (.ref (EC.ec j)) = some (isub k j)
/-! isinstance(x, C), C a class of refusals or ValueError -/
variable [EC]
section
variable {R : Type} {F : Fc} {tmp : Tmp} {s : State} {m : Res R} {K : Rs R} {ta : TE} {Kf : PySem.W.Frag}
end
/-! e.at -/
section
variable {R : Type} {F : Fc} {tmp : Tmp} {s : State} {m : Res R} {K : Rs R} {ta : TE} {Kf : PySem.W.Frag}
end
end VL

namespace VL
open PySem L2
/-- the law, behind its top -/
theorem walk_ofE {l : PySem.W.OpenLaw} {k : Nat} {q : Program} {loose : List Str} {XP : (Str → Option Value) → Heap → Prop} {YP : World → Heap → Prop} {d : DefRec} {K : Params → PySem.W.Frag} {mir : D → Res D}
    (hn : l.most = some 63) (hdf : d.params.defaults = []) (hr : Room k callerA) (hY : ∀ (w : World) (h : Heap), YP w h → (K w.params).In h)
    (F : ∀ (w : World) (mg : Str → Option Value) (fa : Addr) (h : Heap), (K w.params).In h → h.Ns mainGlobals mg → mg d.name = some (.ref fa) →
      ∃ fd : FuncData, (∀ (s : Shared) (u : Value), BindsTo s fd ⟨[u], []⟩ [("script", u)]) ∧
        ∀ base : Heap, (K w.params).In base → base.Ns mainGlobals mg → FnOk l.prog w (K w.params) mg base CX0 k fa fd ["script"] (@spOf (ecOf l.prog w (K w.params)) D D (@EC.ec (ecOf l.prog w (K w.params))) (fun a => [.f a]) mir (fun r => .f r) fun _ => [none]))
    (hno : ∀ w : World, ((K w.params).all fun p => noL p.2) = true) (hm : ∀ ns : List Int, ns.length ≤ 63 → mir (.lst (ns.map .int)) = .ok (.bl true)) :
    PySem.W.WalkO q loose XP YP l.row.toRowW d [] (fun f vs => PySem.call f vs) :=
  walk_of (n := 63) (CX := fun _ => CX0) (sp := fun w => @spOf (ecOf l.prog w (K w.params)) D D (@EC.ec (ecOf l.prog w (K w.params))) (fun a => [.f a]) mir (fun r => .f r) fun _ => [none]) hn (by decide) hdf hr hY F
    (fun w H a ns hl _ hS => @law_end (ecOf l.prog w (K w.params)) (K w.params) H a ns _ mir (hno w) hl hS (hm ns hl)) (fun _ _ _ _ _ h => h)
end VL
namespace VL
open PySem L2
end VL

namespace VL
open PySem L2 PySem.Spec PyProof.Rows
def tupleD : D → Option D | .lst l => some (.tup l) | .str x => if x.length ≤ 1000 then some (.tup (strL x)) else none | _ => none
variable [EC]
def charsV (a : Str) : List V := a.cps.toList.map fun c => V.str ⟨#[c]⟩
def rTuple (K : PySem.W.Frag) : List V → Hp → VK → Prop := fun xs H Q => (∃ p ys, xs = [V.ref p] ∧ SqL K H p ys ∧ ∀ l, H l = none → Q (.ref l) (upd H l (.tup ys))) ∨ ∃ a : Str, xs = [.str a] ∧ a.length ≤ sizeLine ∧ ∀ p, H p = none → Q (.ref p) (upd H p (.tup (charsV a)))
theorem vals_signs {x : Str} {acc : Array Value} (h : ItemsOf (SignAt x) acc x.cps.size) : Vals (charsV x) acc.toList := by
  refine vals_of_at (by simp [charsV, h.1]) fun j y u h1 h2 => ?_
  obtain ⟨c, t, hc, rfl⟩ := h.2 j u (by rw [← h2, Array.getElem?_toList])
  simp only [charsV, List.getElem?_map, Array.getElem?_toList, hc] at h1
  cases h1
  exact ⟨t, rfl⟩
theorem reps_strL {G : Hp} : ∀ x : List Nat, Reps G (strL x) (x.map fun c => V.str ⟨#[c]⟩)
  | [] => rfl
  | c :: r => ⟨_, _, rfl, rfl, reps_strL r⟩
section
variable {X : Cx} {Kf : PySem.W.Frag}
theorem call_tupleK (hK : X.K = Kf) (hc : X.calm = true) : CallR X (.type "tuple") (rTuple Kf) := by
  subst hK
  intro pins s σ H xs us Q I r h
  rcases h with ⟨p, ys, e, hq, q⟩ | ⟨a, rfl, hz, q⟩
  · exact call_tuple_of pins s σ H xs us Q I r ⟨p, ys, e, .inl ⟨hq, q⟩⟩
  · obtain ⟨u, rfl, t, rfl⟩ := vals1 r
    refine call_tuple_str (I.ok.hd hc) a t (fun h' tk acc kp hacc => ?_) hz
    have I1 : Inv X pins σ H { s with heap := h', toks := tk } := I.kept (t' := tk) kp
    have I2 : Inv X pins σ (upd H h'.objs.size (.tup (charsV a))) { s with heap := h'.push { cls := .type "tuple", data := .seq acc }, toks := tk } :=
      I1.laid (t' := tk) (fun b o e => Heap.get?_push_of_some _ e) (Nat.le_refl _) (show ObjOk X.prog X.w _ _ _ (.tup (charsV a)) from ⟨by simpa [charsV, Str.length] using hz, acc.toList, vals_signs hacc, by simpa using IsTup.new h' acc⟩)
    exact ⟨.ref h'.objs.size, _, I2, rfl, q _ (I1.hok.fresh (Nat.le_refl _))⟩
end
section
variable {X : Cx} {Kf : PySem.W.Frag}
end
section
variable {R : Type} {F : Fc} {tmp : Tmp} {s : State} {m : Res R} {K : Rs R} {N : Rn R} {Rt : Rr R} {ta tb tc to te td ty tx : TE} {Kf : PySem.W.Frag}
theorem rt_chain {r r' : R2} {op op' : D → D → Option Bool} {K : Bool → State → Res R → Prop} (ho : Op2B r op) (ho' : Op2B r' op')
    (h : RD F tmp s ta m (fun tm1 s1 m1 => ∀ x, RD F ((x, tm1) :: tmp) s1 tb m1 (fun tm2 s2 m2 => ∃ a b kk, valT s2 tm1 = some a ∧ valT s2 tm2 = some b ∧ m2 = ob (op a b) kk ∧
      ∀ c : Bool, ∃ (ma : Res Bool) (k : Bool → Res R), kk c = rb (if c = true then ma else .ok false) k ∧
        (c = true → ∀ y, RD F ((y, tm2) :: (x, tm1) :: tmp) s2 tc ma (fun tm3 s3 m3 => ∃ b' d, valT s3 tm2 = some b' ∧ valT s3 tm3 = some d ∧ m3 = ob (op' b' d) (fun e => .ok e) ∧ Sub s3 s2)) ∧ ∀ e, K e s2 (k e)))) :
    RT F tmp s m (tTest (tChain r r' ta tb tc)) K := fun σ H Q hh nf eo q =>
  h σ H _ hh nf eo fun tm1 s1 x H1 h2 h1 => h2 x σ H1 _ h1 nf eo fun tm2 s2 y H2 ⟨a, b, kk, ea, eb, em, hk⟩ h3 => by
    obtain ⟨c, ec, em'⟩ := ob_cases (by rw [← em]; exact nf)
    have h4 := h3
    obtain ⟨G, ω, h3⟩ := h3
    obtain ⟨ma, k, ek, hu, hk⟩ := hk c
    rw [← em', ← em] at ek
    refine ho H2 x y a b c _ (h3.repT h3.tm.2.1 ea) (h3.repT h3.tm.1 eb) ec ⟨c, rfl, ?_⟩
    cases c with
    | false =>
      simp only [Bool.false_eq_true, if_false] at ek ⊢
      exact ⟨false, rfl, q false s2 H2 (by rw [ek]; exact hk false) h4.pop.pop⟩
    | true =>
      simp only [if_true] at ek ⊢
      have nf' : ma ≠ .fail := fun z => nf (by rw [ek, z]; rfl)
      refine hu rfl y σ H2 _ h4 nf' (eo.of fun e he => by rw [ek, he]; rfl) fun tm3 s3 z H3 ⟨b', d, eb', ed, em3, sb⟩ h5 => ?_
      obtain ⟨e, ee, em3'⟩ := ob_cases (by rw [← em3]; exact nf')
      have h6 := h5
      obtain ⟨G5, ω5, h5⟩ := h5
      exact ho' H3 y z b' d e _ (h5.repT h5.tm.2.1 eb') (h5.repT h5.tm.1 ed) ee ⟨e, rfl, q e s2 H3 (by rw [ek, em3, em3']; exact hk e) (h6.pop.pop.pop.sub sb)⟩
theorem rd_chain {r r' : R2} {op op' : D → D → Option Bool} (ho : Op2B r op) (ho' : Op2B r' op')
    (h : RD F tmp s ta m (fun tm1 s1 m1 => ∀ x, RD F ((x, tm1) :: tmp) s1 tb m1 (fun tm2 s2 m2 => ∃ a b kk, valT s2 tm1 = some a ∧ valT s2 tm2 = some b ∧ m2 = ob (op a b) kk ∧
      ∀ c : Bool, ∃ (ma : Res Bool) (k : Bool → Res R), kk c = rb (if c = true then ma else .ok false) k ∧
        (c = true → ∀ y, RD F ((y, tm2) :: (x, tm1) :: tmp) s2 tc ma (fun tm3 s3 m3 => ∃ b' d, valT s3 tm2 = some b' ∧ valT s3 tm3 = some d ∧ m3 = ob (op' b' d) (fun e => .ok e) ∧ Sub s3 s2)) ∧ ∀ e, K (.own (.f (.bl e))) s2 (k e)))) :
    RD F tmp s (tChain r r' ta tb tc) m K := fun σ H Q hh nf eo q =>
  h σ H _ hh nf eo fun tm1 s1 x H1 h2 h1 => h2 x σ H1 _ h1 nf eo fun tm2 s2 y H2 ⟨a, b, kk, ea, eb, em, hk⟩ h3 => by
    obtain ⟨c, ec, em'⟩ := ob_cases (by rw [← em]; exact nf)
    have h4 := h3
    obtain ⟨G, ω, h3⟩ := h3
    obtain ⟨ma, k, ek, hu, hk⟩ := hk c
    rw [← em', ← em] at ek
    refine ho H2 x y a b c _ (h3.repT h3.tm.2.1 ea) (h3.repT h3.tm.1 eb) ec ⟨c, rfl, ?_⟩
    cases c with
    | false =>
      simp only [Bool.false_eq_true, if_false] at ek ⊢
      exact q _ s2 _ H2 (by rw [ek]; exact hk false) (holds_bl h4.pop.pop)
    | true =>
      simp only [if_true] at ek ⊢
      have nf' : ma ≠ .fail := fun z => nf (by rw [ek, z]; rfl)
      refine hu rfl y σ H2 _ h4 nf' (eo.of fun e he => by rw [ek, he]; rfl) fun tm3 s3 z H3 ⟨b', d, eb', ed, em3, sb⟩ h5 => ?_
      obtain ⟨e, ee, em3'⟩ := ob_cases (by rw [← em3]; exact nf')
      have h6 := h5
      obtain ⟨G5, ω5, h5⟩ := h5
      exact ho' H3 y z b' d e _ (h5.repT h5.tm.2.1 eb') (h5.repT h5.tm.1 ed) ee (q _ s2 _ H3 (by rw [ek, em3, em3']; exact hk e) (holds_bl (h6.pop.pop.pop.sub sb)))
theorem rs_onN {Z R' : Type} {z : Z} {f : Z → Res R} {g : R' → Res R} {tb : TS} (h : RS F tmp s (f z) tb N Rt) : RS F tmp s (Fl.on (.nx z) f g) tb N Rt := h
/-! tuple(..), list(..) -/
theorem rd_tupL (h : RD F tmp s ta m (fun tm1 s1 m1 => ∃ a k, valS s1 tm1 = some a ∧ m1 = ob (tupleD a) k ∧ ∀ c, K (.own (.f c)) s1 (k c))) : RD F tmp s (tCB (rTuple Kf) (tCons ta tNil)) m K := fun σ H Q hh nf eo q =>
  h σ H _ hh nf eo fun tm1 s1 x H1 ⟨a, k, ea, em, hk⟩ h1 => by
    obtain ⟨c, ec, em'⟩ := ob_cases (by rw [← em]; exact nf)
    obtain ⟨G, ω, h1⟩ := h1
    have r := h1.repC h1.tm.1 ea
    cases a <;> try (cases ec; done)
    · rename_i x
      simp only [tupleD] at ec
      split at ec
      · rename_i hx
        cases ec
        refine .inr ⟨mkS x, congrArg (fun v => [v]) r, by rw [mkS_len, sizeLine_eq]; omega, fun p np => ?_⟩
        refine q _ s1 _ _ (by rw [em, em']; exact hk _) (h1.pop.newT np (by rw [sizeLine_eq]; simp [strL]; omega) ?_)
        show Reps G _ ((mkS x).cps.toList.map _)
        rw [mkS_cps]
        exact reps_strL x
      · cases ec
    · cases ec
      obtain ⟨p, vs, e, g, z, rr⟩ := r
      subst e
      exact .inl ⟨p, vs, rfl, .inl g, fun l nl => q _ s1 _ _ (by rw [em, em']; exact hk _) (h1.pop.newT nl z rr)⟩
/-! list.count of texts -/
end
end VL

namespace VL
open PySem L2 PySem.W PyProof.Rows
mutual
def py : D → PyData
  | .non => .none
  | .bl b => .bool b
  | .int i => .int i
  | .str x => .str (mkS x)
  | .tup l => .tuple (pys l)
  | .lst l => .list (pys l)
  | _ => .none
def pys : List D → List PyData
  | [] => []
  | a :: r => py a :: pys r
end
theorem pys_map : ∀ l : List D, pys l = l.map py
  | [] => rfl
  | a :: r => by rw [pys, pys_map r]; rfl
mutual
theorem py_depth : ∀ d : D, d.plain = true → (py d).depth ≤ d.dep
  | .non, _ => by simp [py, PyData.depth, D.dep]
  | .bl b, _ => by simp [py, PyData.depth, D.dep]
  | .int i, _ => by simp [py, PyData.depth, D.dep]
  | .str x, _ => by simp [py, PyData.depth, D.dep]
  | .tup l, p => by have := pys_depth l p; simp [py, PyData.depth, D.dep]; omega
  | .lst l, p => by have := pys_depth l p; simp [py, PyData.depth, D.dep]; omega
  | .dct _ _, p => by cases p
  | .opq _, p => by cases p
  | .exc _ _, p => by cases p
  | .fd _ _ _, p => by cases p
  | .fz _, p => by cases p
theorem pys_depth : ∀ l : List D, D.plains l = true → PyData.depthAll (pys l) ≤ D.deps l
  | [], _ => by simp [pys, PyData.depthAll, D.deps]
  | a :: r, p => by
    simp only [D.plains, Bool.and_eq_true] at p
    have h1 := py_depth a p.1
    have h2 := pys_depth r p.2
    simp [pys, PyData.depthAll, D.deps]; omega
end
def alikes (l : List D) : Bool := l.all fun x => l.all fun y => alike (py x) (py y)
def isTupD : D → Bool | .tup (_ :: _) => true | _ => false
def noTupD : D → Bool | .tup _ => false | .non => false | _ => true
def sortOk (l : List D) : Bool := D.plains l && decide (D.deps l ≤ 60) && alikes l && (l.all isTupD || l.all noTupD) && decide (l.length ≤ 16777216)
def leD' : D → D → Bool := dataLe false py
def sortD : D → Option (List D) | .lst l => if sortOk l = true then some (l.mergeSort leD') else none | _ => none
variable [EC]
section
variable {X : Cx} {pins : List (Addr × Obj)} {σ : List (Option V)} {H : Hp} {s : Shared}
mutual
theorem rep_reads (I : Inv X pins σ H s) : ∀ (d : D) (x : V) (u : Value), d.plain = true → Rep H d x → RelV x u → ∃ as, Reads s.heap u (py d) as
  | .non, x, u, _, h, r => by
    cases (show x = .non from h); cases r; exact ⟨[], .none⟩
  | .bl b, x, u, _, h, r => by
    cases (show x = .bl b from h); cases r; exact ⟨[], .bool _⟩
  | .int i, x, u, _, h, r => by
    cases (show x = .int i from h); obtain ⟨t, rfl⟩ := r; exact ⟨[], .int _ _⟩
  | .str y, x, u, _, h, r => by
    cases (show x = .str (mkS y) from h); obtain ⟨t, rfl⟩ := r; exact ⟨[], .str _ _⟩
  | .tup l, x, u, p, h, r => by
    obtain ⟨a, vs, its, ea, eu, ht, v1, q1, n1⟩ := at_tup I h r
    obtain ⟨o, ho, hc, n, hd⟩ := ht
    obtain ⟨as, rs⟩ := reps_reads I l vs its p q1 v1
    rw [eu]
    exact ⟨as, .tuple ho hc hd (by simpa using rs)⟩
  | .lst l, x, u, p, h, r => by
    obtain ⟨a, vs, its, ea, eu, ht, v1, q1, n1⟩ := at_lst I h r
    obtain ⟨o, ho, hc, n, hd⟩ := ht
    obtain ⟨as, rs⟩ := reps_reads I l vs its p q1 v1
    rw [eu]
    exact ⟨a :: as, .list ho hc hd (by simpa using rs)⟩
  | .dct _ _, _, _, p, _, _ => by cases p
  | .opq _, _, _, p, _, _ => by cases p
  | .exc _ _, _, _, p, _, _ => by cases p
  | .fd _ _ _, _, _, p, _, _ => by cases p
  | .fz _, _, _, p, _, _ => by cases p
theorem reps_reads (I : Inv X pins σ H s) : ∀ (l : List D) (xs : List V) (us : List Value), D.plains l = true → Reps H l xs → Vals xs us → ∃ as, ReadsAll s.heap us (pys l) as
  | [], xs, us, _, h, r => by
    cases (show xs = [] from h); cases r; exact ⟨[], .nil⟩
  | d :: l, xs, us, p, ⟨x, r0, e, h, q⟩, r => by
    subst e
    simp only [D.plains, Bool.and_eq_true] at p
    cases r with
    | cons z1 v1 =>
      obtain ⟨as, h1⟩ := rep_reads I d x _ p.1 h z1
      obtain ⟨bs, h2⟩ := reps_reads I l r0 _ p.2 q v1
      exact ⟨as ++ bs, .cons h1 h2⟩
end
def RelD (H : Hp) (v : Value) (d : D) : Prop := ∃ x, RelV x v ∧ Rep H d x
theorem each_of : ∀ (l : List D) (xs : List V) (us : List Value), Reps H l xs → Vals xs us → EachIs (RelD H) us l
  | [], xs, us, h, r => by cases (show xs = [] from h); cases r; exact .nil
  | d :: l, xs, us, ⟨x, r0, e, h, q⟩, r => by
    subst e
    cases r with
    | cons z1 v1 => exact .cons ⟨x, z1, h⟩ (each_of l r0 _ q v1)
theorem of_each : ∀ {us : List Value} {l : List D}, EachIs (RelD H) us l → ∃ xs, Vals xs us ∧ Reps H l xs
  | _, _, .nil => ⟨[], .nil, rfl⟩
  | _, _, .cons ⟨x, z, h⟩ t => by
    obtain ⟨xs, v, r⟩ := of_each t
    exact ⟨x :: xs, .cons z v, x, xs, rfl, h, r⟩
def rSortD (K : PySem.W.Frag) : List V → Hp → VK → Prop := fun vs H Q => ∃ (a : Addr) (xs : List V) (l : List D) (G : Hp), vs = [V.ref a] ∧ SqL K H a xs ∧ Same G H ∧ Reps G l xs ∧ sortOk l = true ∧ ∀ ys p, Reps G (l.mergeSort leD') ys → H p = none → Q (.ref p) (upd H p (.lst ys))
theorem plains_mem {l : List D} (h : D.plains l = true) {d : D} (m : d ∈ l) : d.plain = true := by
  induction l with
  | nil => cases m
  | cons a r ih =>
    simp only [D.plains, Bool.and_eq_true] at h
    rcases List.mem_cons.mp m with e | m
    · rw [e]; exact h.1
    · exact ih h.2 m
theorem deps_mem {l : List D} {d : D} (m : d ∈ l) : d.dep ≤ D.deps l := by
  induction l with
  | nil => cases m
  | cons a r ih =>
    simp only [D.deps]
    rcases List.mem_cons.mp m with e | m
    · rw [e]; omega
    · have := ih m; omega
theorem cr_sortedK {Kf : PySem.W.Frag} (hK : X.K = Kf) (hu : X.A.units + 64 < cLine) : CallR X (.builtin "sorted") (rSortD Kf) := by
  subst hK
  intro pins s σ H vs us Q I r h
  obtain ⟨a, xs, l, G, rfl, hs, sm, hrG, hok, q⟩ := h
  have hr := Reps.mono sm _ _ hrG
  obtain ⟨its, rv, hl, hz⟩ := I.list hs
  rw [Vals.ref1 r]
  simp only [sortOk, Bool.and_eq_true, decide_eq_true_eq, Bool.or_eq_true] at hok
  obtain ⟨⟨⟨⟨p1, p2⟩, p3⟩, p4⟩, p5⟩ := hok
  have e := each_of l xs its hrG rv
  have er : EachIs (fun v b => ∃ as, Reads s.heap v (py b) as) its l := by
    obtain ⟨as, ra⟩ := reps_reads I l xs its p1 hr rv
    rw [pys_map] at ra
    exact readsAll_each py ra
  have hal : AllAlike (l.map py) := by
    intro d hd d' hd'
    obtain ⟨b, hb, rfl⟩ := List.mem_map.mp hd
    obtain ⟨b', hb', rfl⟩ := List.mem_map.mp hd'
    exact List.all_eq_true.mp (List.all_eq_true.mp p3 b hb) b' hb'
  have hk : Sortable (l.map py) := by
    rcases p4 with p4 | p4
    · refine .inl fun d hd => ?_
      obtain ⟨b, hb, rfl⟩ := List.mem_map.mp hd
      have := List.all_eq_true.mp p4 b hb
      cases b <;> try (cases this; done)
      rename_i l0
      cases l0 with
      | nil => cases this
      | cons x0 r0 => exact ⟨_, _, rfl⟩
    · refine .inr fun d hd => ?_
      obtain ⟨b, hb, rfl⟩ := List.mem_map.mp hd
      have h1 := List.all_eq_true.mp p4 b hb
      have h2 := plains_mem p1 hb
      cases b <;> first | (cases h1; done) | (cases h2; done) | exact ⟨(fun z => by cases z), fun _ z => by cases z⟩
  refine sorted_data hl.isList e er hal hk (by rw [sizeLine_eq]; omega) (fun b hb => ?_) fun out ho eo => ?_
  · have h1 := py_depth b (plains_mem p1 hb)
    have h2 := deps_mem hb
    omega
  · obtain ⟨ep, he'⟩ := PyProof.Rows.sortedAll_at s.heap its out.toArray
    obtain ⟨ys, v1, r1⟩ := of_each eo
    have hlen : ys.length ≤ sizeLine := by rw [v1.length, ho, sizeLine_eq]; omega
    exact ⟨.ref _, upd H (s.heap.objs.size + 1) (.lst ys), I.laid (t' := s.toks) (fun _ _ => PyProof.Rows.sortedAll_old) (Nat.le_succ _) ⟨hlen, out, ep, v1, he'⟩, rfl, q ys _ r1 (I.hok.fresh (Nat.le_succ _))⟩
end
theorem o_sorted {K : PySem.W.Frag} : Op1L (fun x H Q => rSortD K [x] H Q) sortD := fun G H x a c Q sm ra e => by
  cases a <;> try (cases e; done)
  rename_i l
  simp only [sortD] at e
  split at e
  · rename_i hok
    cases e
    obtain ⟨p, vs, e, g, z, r⟩ := ra
    subst e
    refine ⟨by rw [List.length_mergeSort]; exact z, fun q => ⟨p, vs, l, G, rfl, .inl g, sm, r, hok, fun ys p rs np => q p ys np rs⟩⟩
  · cases e
end VL

namespace VL
open PySem L2 PySem.SeqAt
/-! dict and text are never equal -/
section
variable {prog : Program} {w : World} {A : Around} {E : Value → Shared → Prop} {s : Shared}
theorem str_eq_declines_dict (b : Str) (u : Tok) (l : Addr) (c : Value) (es : Array DictEntry) (n : Nat) (dd : Option Addr) (sl : Array (Option Value)) :
    Meets (Builtin.«str.__eq__» ⟨[.str b u, .ref l], []⟩) (fun _ R s => s.heap.get? l = some { cls := c, dict := dd, data := .dict es n, slots := sl } ∧ R (.ok (.ret .notImplemented)) s) :=
  .of_wp fun prog w A R s h => by obtain ⟨hp, g, d, tk, os⟩ := s; obtain ⟨hl, h⟩ := h; wp_walk using wpAny_loadPart' hl, wpAny_load hl; exact ⟨_, rfl, h⟩
theorem dict_declines {T : String} {d : Addr} {x : Value} {Q' : Value → Shared → Prop} (dt : s.TypeIs (.ref d) "dict") (ty : s.TypeIs x T) (sub : isSubtype (.type T) (.type "dict") = pure false) (hq : Q' .notImplemented s) :
    wpAny (model prog w) A (call (.builtin "dict.__eq__") [.ref d, x]) Q' E s := by
  refine wpAny_call_entry PySem.F.slot_dict_eq dt PySem.F.entry_dict_eq ?_ (PySem.F.args_dict_eq_2 _ _)
  show wpAny _ _ (Builtin.Dict.dictSlotArgs "__eq__" ⟨[.ref d, x], []⟩ >>= _) _ _ s
  refine wpAny_bind ?_
  unfold Builtin.Dict.dictSlotArgs
  refine wpAny_bind (wpAny_notOrdered_dict dt ?_)
  show wpAny _ _ (pure (Value.ref d, x)) _ _ s
  refine wpAny_pure ?_
  refine wpAny_bind (wpAny_isInstance (T := T) ty sub ?_)
  simp only [Bool.not_false, if_true]
  refine wpAny_bind (wpAny_rule ?_)
  exact wpAny_pure ⟨_, rfl, hq⟩
end
section
variable {A : Around} {s : Shared}
theorem RcAt.str_dict {l : Addr} {o : Obj} {es : Array DictEntry} {n : Nat} (b : Str) (u : Tok) (ho : s.heap.get? l = some o) (hc : o.cls = .type "dict") (hd : o.data = .dict es n) (hu : A.units < cLine) : RcAt A s (.str b u) (.ref l) false := fun prog w E Q h => by
  obtain ⟨cls, dd, data, sl⟩ := o
  simp only at hc hd
  subst hc hd
  have ht : s.TypeIs (.ref l) "dict" := ⟨_, ho, rfl⟩
  exact rc_eq_decline_or (k := false) (typeIs_str s b u) ht (by decide) PySem.F.sub_dict_str PySem.F.slot_str_eq PySem.F.slot_dict_eq_refl
    (fun _ hq => call_meets PySem.F.slot_str_eq (typeIs_str s b u) PySem.F.entry_str_eq (PySem.F.args_str_eq_2 _ _) (str_eq_declines_dict b u l (.type "dict") es n dd sl) ⟨ho, hq⟩)
    (fun _ hq => dict_declines ht (typeIs_str s b u) PySem.F.sub_str_dict hq)
    (fun _ hq => wpAny_of_eq (rfl : isSame (.str b u) (.ref l) = pure false) hq) (.inr hu) h
theorem EqAt.str_dict {l : Addr} {o : Obj} {es : Array DictEntry} {n : Nat} (b : Str) (u : Tok) (ho : s.heap.get? l = some o) (hc : o.cls = .type "dict") (hd : o.data = .dict es n) (hu : A.units < cLine) : EqAt A s (.str b u) (.ref l) false := fun prog w E Q h => by
  unfold eqBool
  refine wpAny_holding ?_
  refine wpAny_ite_split (fun hab => absurd (eq_of_beq hab) nofun) (fun _ => ?_)
  exact wpAny_bind (RcAt.str_dict b u ho hc hd hu prog w E _ (wpAny_truthy_bool h))
end
def isDc : D → Bool | .dct false _ => true | _ => false
def isSt : D → Bool | .str _ => true | _ => false
/-- what `==` says of an item of the list and the thing looked for -/
def eqx (d a : D) : Bool := if isDc a = true then false else D.eqv d a
/-- a pair of a dict and a text; a pair of texts -/
def isDcT : D → Bool | .tup [.dct false _, .str _] => true | _ => false
def isStT : D → Bool | .tup [.str _, .str _] => true | _ => false
def inOk (a : D) (l : List D) : Bool := (a.plain && D.plains l && decide (D.deps l ≤ 60)) || (isDc a && l.all isSt || isDcT a && l.all isStT)
def inE (a b : D) : Option Bool := match b with
  | .lst l => if inOk a l = true then some (l.any fun d => eqx d a) else none
  | .tup l => if inOk a l = true then some (l.any fun d => eqx d a) else none
  | _ => none
def notInE (a b : D) : Option Bool := (inE a b).map not
variable [EC]
section
variable {X : Cx} {pins : List (Addr × Obj)} {σ : List (Option V)} {H : Hp} {s : Shared}
theorem plains_get {l : List D} (h : D.plains l = true) : ∀ d ∈ l, d.plain = true := by
  induction l with
  | nil => intro d m; cases m
  | cons a r ih =>
    simp only [D.plains, Bool.and_eq_true] at h
    intro d m
    rcases List.mem_cons.mp m with e | m
    · rw [e]; exact h.1
    · exact ih h.2 d m
theorem deps_get {l : List D} : ∀ d ∈ l, d.dep ≤ D.deps l := by
  induction l with
  | nil => intro d m; cases m
  | cons a r ih =>
    simp only [D.deps]
    intro d m
    rcases List.mem_cons.mp m with e | m
    · rw [e]; omega
    · have := ih d m; omega
noncomputable def hitD (H : Hp) (l : List D) (a : D) (v : Value) : Bool := open Classical in if h : ∃ d, d ∈ l ∧ ∃ x, RelV x v ∧ Rep H d x then eqx h.choose a else false
theorem plain_of_ok {a : D} {l : List D} (h : inOk a l = true) : ∀ d ∈ l, d.plain = true := by
  simp only [inOk, Bool.or_eq_true, Bool.and_eq_true] at h
  rcases h with h | h | h
  · exact plains_get h.1.2
  · intro d m
    have := List.all_eq_true.mp h.2 d m
    cases d <;> first | (cases this; done) | rfl
  · intro d m
    have := List.all_eq_true.mp h.2 d m
    unfold isStT at this
    split at this
    · rfl
    · cases this
theorem hit_eq {l : List D} {a d : D} {x : V} {v : Value} (hp : ∀ d ∈ l, d.plain = true) (hd : d ∈ l) (r : RelV x v) (q : Rep H d x) : hitD H l a v = eqx d a := by
  have h : ∃ d, d ∈ l ∧ ∃ x, RelV x v ∧ Rep H d x := ⟨d, hd, x, r, q⟩
  have e : hitD H l a v = eqx h.choose a := by
    show (open Classical in if h : ∃ d, d ∈ l ∧ ∃ x, RelV x v ∧ Rep H d x then eqx h.choose a else false) = _
    rw [dif_pos h]
  obtain ⟨m, y, ry, qy⟩ := h.choose_spec
  rw [e]
  have ey := ry.inj r
  rw [ey] at qy
  rw [rep_inj h.choose d x (hp _ m) (hp _ hd) qy q]
theorem hit_at (I : Inv X pins σ H s) {l : List D} {a : D} {y : V} {w : Value} (A : Around) (hok : inOk a l = true) (hu : A.units + 64 < cLine) (ra : Rep H a y) (rw_ : RelV y w) {d : D} {x : V} {v : Value} (hd : d ∈ l) (r : RelV x v) (q : Rep H d x) : EqAt A.in1 s v w (hitD H l a v) := by
  rw [hit_eq (plain_of_ok hok) hd r q]
  simp only [inOk, Bool.or_eq_true, Bool.and_eq_true, decide_eq_true_eq] at hok
  rcases hok with ⟨⟨p1, p2⟩, p3⟩ | ⟨p1, p2⟩ | ⟨p1, p2⟩
  · have e : eqx d a = D.eqv d a := by unfold eqx; rw [if_neg]; intro z; cases a <;> first | cases z | cases p1
    rw [e]
    have := deps_get d hd
    exact eqAt_d I d a A.in1 x y v w (plains_get p2 d hd) p1 q ra r rw_ (by rw [in1_units]; omega)
  · have hs := List.all_eq_true.mp p2 d hd
    cases d <;> try (cases hs; done)
    rename_i t
    cases (show x = .str (mkS t) from q)
    obtain ⟨u, rfl⟩ := r
    have e : eqx (.str t) a = false := by unfold eqx; rw [if_pos p1]
    rw [e]
    cases a <;> try (cases p1; done)
    rename_i k kv
    cases k with
    | true => cases p1
    | false =>
      obtain ⟨p, kvs, ey, g, rk⟩ := ra
      subst ey
      cases rw_
      obtain ⟨_, _, vs, _, o, es, ep, ho, hx, hd2, _⟩ := (show ObjOk X.prog X.w H s.heap p (.dK kvs) from rd_of I.hok g)
      exact EqAt.str_dict _ _ ho hx.1 hd2 (by rw [in1_units]; omega)
  · have hs := List.all_eq_true.mp p2 d hd
    unfold isStT at hs
    split at hs <;> try (cases hs; done)
    rename_i t1 t2
    unfold isDcT at p1
    split at p1 <;> try (cases p1; done)
    rename_i kv z
    have e : eqx (.tup [.str t1, .str t2]) (.tup [.dct false kv, .str z]) = false := by
      unfold eqx
      rw [if_neg (by simp [isDc])]
      show (D.eqv (.str t1) (.dct false kv) && D.eqvs [.str t2] [.str z]) = false
      have : D.eqv (.str t1) (.dct false kv) = false := by simp [D.eqv]
      rw [this]; rfl
    rw [e]
    obtain ⟨b1, vs, its, eb, eu, hl, v1, q1, n1⟩ := at_tup I q r
    obtain ⟨b2, ws, its2, eb2, eu2, hm, v2, q2, n2⟩ := at_tup I ra rw_
    obtain ⟨x1, vr1, ex1, g1, x2, vr2, ex2, g2, ex3⟩ := q1
    obtain ⟨y1, wr1, ey1, k1, y2, wr2, ey2, k2, ey3⟩ := q2
    subst ex1 ex2 ey1 ey2
    cases (show vr2 = [] from ex3)
    cases (show wr2 = [] from ey3)
    cases (show x1 = .str (mkS t1) from g1)
    cases (show x2 = .str (mkS t2) from g2)
    cases (show y2 = .str (mkS z) from k2)
    cases v1 with
    | cons a1 v1 =>
    cases v1 with
    | cons a2 v1 =>
    cases v1
    cases v2 with
    | cons c1 v2 =>
    cases v2 with
    | cons c2 v2 =>
    cases v2
    obtain ⟨u1, rfl⟩ := a1
    obtain ⟨u2, rfl⟩ := a2
    obtain ⟨u3, rfl⟩ := c2
    obtain ⟨p, kvs, ey, g, rk⟩ := k1
    subst ey
    cases c1
    obtain ⟨_, _, vs', _, o, es, ep, ho, hx, hd2, _⟩ := (show ObjOk X.prog X.w H s.heap p (.dK kvs) from rd_of I.hok g)
    have hne : b1 ≠ b2 := fun hab => by
      subst hab
      obtain ⟨o1, h1, _, m1, d1⟩ := hl
      obtain ⟨o2, h2, _, m2, d2⟩ := hm
      rw [h1] at h2
      cases h2
      rw [d1] at d2
      injection d2 with d2 _
      have := congrArg (fun a : Array Value => a[0]?) d2
      simp at this
    rw [eu, eu2]
    have hA : A.in1.units < cLine := by rw [in1_units]; omega
    have zz := EqAt.of_refs hne (RcAt.tuples (A := A.in1) (e := fun j => if j = 0 then false else (mkS t2 == mkS z)) hl hm hA fun j j1 j2 => by
      match j, j1, j2 with
      | 0, _, _ => exact EqAt.str_dict _ _ ho hx.1 hd2 (by rw [in1_units, in1_units]; omega)
      | 1, _, _ => exact EqAt.str_str _ _ _ _)
    exact zz
theorem any_hit {l : List D} {a : D} (hp : ∀ d ∈ l, d.plain = true) : ∀ (m : List D) (xs : List V) (us : List Value), (∀ d ∈ m, d ∈ l) → Reps H m xs → Vals xs us → us.any (hitD H l a) = m.any fun d => eqx d a
  | [], xs, us, _, h, r => by cases (show xs = [] from h); cases r; rfl
  | d :: m, xs, us, hm, ⟨x, r0, e, h, q⟩, r => by
    subst e
    cases r with
    | cons z1 v1 =>
      rw [List.any_cons, List.any_cons, hit_eq hp (hm d List.mem_cons_self) z1 h, any_hit hp m r0 _ (fun d' h' => hm d' (List.mem_cons_of_mem _ h')) q v1]
def rInE (K : PySem.W.Frag) (neg : Bool) : R2 := fun x y H Q => ∃ (p : Addr) (xs : List V) (l : List D) (a : D), y = .ref p ∧ (SqL K H p xs ∨ SqT K H p xs) ∧ Rep H a x ∧ Reps H l xs ∧ inOk a l = true ∧ Q (.bl (if neg then !(l.any fun d => eqx d a) else l.any fun d => eqx d a)) H
theorem mem_reps {m : List D} {xs : List V} {us : List Value} (h : Reps H m xs) (r : Vals xs us) {v : Value} (hv : v ∈ us) : ∃ d ∈ m, ∃ x, RelV x v ∧ Rep H d x := by
  induction m generalizing xs us with
  | nil => cases (show xs = [] from h); cases r; cases hv
  | cons d m ih =>
    obtain ⟨x, r0, e, h, q⟩ := h
    subst e
    cases r with
    | cons z1 v1 =>
      rcases List.mem_cons.mp hv with e | hv
      · subst e; exact ⟨d, List.mem_cons_self, x, z1, h⟩
      · obtain ⟨d', m', x', a, b⟩ := ih q v1 hv
        exact ⟨d', List.mem_cons_of_mem _ m', x', a, b⟩
theorem op_inEK {Kf : PySem.W.Frag} (hK : X.K = Kf) (hu : X.A.units + 64 < cLine) : OpR X (compareOp .In) (rInE Kf false) := by
  subst hK
  intro pins s σ H x y v u Q I rx ry h
  obtain ⟨p, xs, l, a, rfl, hq, ha, hl, hok, q⟩ := h
  cases ry
  rcases hq with hq | hq
  · obtain ⟨its, r, pl, hz⟩ := I.list hq
    refine in_listAt (hitD H l a) pl.isList (fun w hw => ?_) ⟨.bl _, H, I, rfl, ?_⟩
    · obtain ⟨d, hd, x', r1, q1⟩ := mem_reps hl r (show w ∈ its by simpa using hw)
      exact hit_at I X.A hok hu ha rx hd r1 q1
    · rw [show its.toArray.any (hitD H l a) = its.any (hitD H l a) by simp, any_hit (plain_of_ok hok) l xs its (fun _ h => h) hl r]
      exact q
  · obtain ⟨its, r, pl, hz⟩ := I.tuple hq
    refine in_tupleAt (hitD H l a) pl (fun w hw => ?_) ⟨.bl _, H, I, rfl, ?_⟩
    · obtain ⟨d, hd, x', r1, q1⟩ := mem_reps hl r (show w ∈ its by simpa using hw)
      exact hit_at I X.A hok hu ha rx hd r1 q1
    · rw [show its.toArray.any (hitD H l a) = its.any (hitD H l a) by simp, any_hit (plain_of_ok hok) l xs its (fun _ h => h) hl r]
      exact q
theorem op_notInEK {Kf : PySem.W.Frag} (hK : X.K = Kf) (hu : X.A.units + 64 < cLine) : OpR X (compareOp .NotIn) (rInE Kf true) := by
  subst hK
  intro pins s σ H x y v u Q I rx ry h
  obtain ⟨p, xs, l, a, rfl, hq, ha, hl, hok, q⟩ := h
  cases ry
  rcases hq with hq | hq
  · obtain ⟨its, r, pl, hz⟩ := I.list hq
    refine notIn_listAt (hitD H l a) pl.isList (fun w hw => ?_) ⟨.bl _, H, I, rfl, ?_⟩
    · obtain ⟨d, hd, x', r1, q1⟩ := mem_reps hl r (show w ∈ its by simpa using hw)
      exact hit_at I X.A hok hu ha rx hd r1 q1
    · rw [show its.toArray.any (hitD H l a) = its.any (hitD H l a) by simp, any_hit (plain_of_ok hok) l xs its (fun _ h => h) hl r]
      exact q
  · obtain ⟨its, r, pl, hz⟩ := I.tuple hq
    refine notIn_tupleAt (hitD H l a) pl (fun w hw => ?_) ⟨.bl _, H, I, rfl, ?_⟩
    · obtain ⟨d, hd, x', r1, q1⟩ := mem_reps hl r (show w ∈ its by simpa using hw)
      exact hit_at I X.A hok hu ha rx hd r1 q1
    · rw [show its.toArray.any (hitD H l a) = its.any (hitD H l a) by simp, any_hit (plain_of_ok hok) l xs its (fun _ h => h) hl r]
      exact q
end
theorem inE_cases {K : PySem.W.Frag} {H : Hp} {x y : V} {a b : D} {c : Bool} (ra : Rep H a x) (rb : Rep H b y) (e : inE a b = some c) :
    ∃ (p : Addr) (xs : List V) (l : List D), y = .ref p ∧ (SqL K H p xs ∨ SqT K H p xs) ∧ Reps H l xs ∧ inOk a l = true ∧ (l.any fun d => eqx d a) = c := by
  cases b <;> try (cases e; done)
  all_goals
    rename_i l
    simp only [inE] at e
    split at e
    · cases e
      rename_i h
      obtain ⟨p, xs, e, g, z, r⟩ := rb
      first | exact ⟨p, xs, l, e, .inr (.inl (.inl g)), r, h, rfl⟩ | exact ⟨p, xs, l, e, .inl (.inl g), r, h, rfl⟩
    · cases e
theorem o_inE {K : PySem.W.Frag} : Op2B (rInE K false) inE := fun H x y a b c Q ra rb e q => by
  obtain ⟨p, xs, l, e1, e2, e3, e4, e5⟩ := inE_cases (K := K) ra rb e
  exact ⟨p, xs, l, a, e1, e2, ra, e3, e4, by simp only [Bool.false_eq_true, if_false]; rw [e5]; exact q⟩
theorem o_notInE {K : PySem.W.Frag} : Op2B (rInE K true) notInE := fun H x y a b c Q ra rb e q => by
  unfold notInE at e
  cases e2 : inE a b with
  | none => rw [e2] at e; cases e
  | some c' =>
    rw [e2] at e
    cases e
    obtain ⟨p, xs, l, e1, e2, e3, e4, e5⟩ := inE_cases (K := K) ra rb e2
    exact ⟨p, xs, l, a, e1, e2, ra, e3, e4, by simp only [if_true]; rw [e5]; exact q⟩
end VL

namespace VL
open PySem L2 PySem.Spec PyProof.Rows PySem.W
/-! zip(list, text) in a loop -/
/-! tuples: the value of a frozen tuple; slices, sums, walks -/
variable [EC]
section
variable {F : Fc} {G H : Hp} {ω : Addr → Option Lab} {tmp : Tmp} {s : State} {σ : L2.St} {v : V} {t : T}
end
section
variable {R : Type} {F : Fc} {tmp : Tmp} {s : State} {m : Res R} {K : Rs R} {ta tb te to : TE} {Kf : PySem.W.Frag}
end
end VL

namespace L2
open PySem PySem.Spec PyProof.Rows
def zipKVL (ks : List Str) (ys : List V) : List (Key × V) := (ks.zip ys).map fun p => (Sum.inr p.1, p.2)
def tDictZipL (K : PySem.W.Frag) (ta tb : TE) : TE := fun σ H Q => ta σ H fun x H1 => tb σ H1 fun u H2 => ∃ (l l2 : Addr) (ks : List Str) (ys : List V), x = .ref l ∧ u = .ref l2 ∧ SqL K H2 l (ks.map V.str) ∧ SqL K H2 l2 ys ∧ ∀ p, H2 p = none → Q (.ref p) (upd H2 p (.dK (mergeK [] (zipKVL ks ys))))
section
variable {X : Cx} {pins : List (Addr × Obj)} {σ : L2.St}
def ZippedL (X : Cx) (pins : List (Addr × Obj)) (σ : L2.St) (l l2 : Addr) (its its2 : List Value) (H2 : Hp) (v : Value) (s1 : Shared) : Prop :=
  ∃ (s2 : Shared) (h1 : Heap), v = .ref (s2.heap.objs.size + 4) ∧ s1 = { s2 with heap := h1 } ∧ Inv X pins σ H2 s2 ∧ l < s2.heap.objs.size ∧ l2 < s2.heap.objs.size ∧ IsZip h1 (s2.heap.objs.size + 4) (s2.heap.objs.size + 2) (s2.heap.objs.size + 3) .none ∧ IsPair h1 (s2.heap.objs.size + 2) (.ref s2.heap.objs.size) (.ref (s2.heap.objs.size + 1)) ∧ IsPair h1 (s2.heap.objs.size + 3) .none .none ∧
    h1.IsListIter s2.heap.objs.size l 0 ∧ h1.IsListIter (s2.heap.objs.size + 1) l2 0 ∧ h1.IsList l its.toArray ∧ h1.IsList l2 its2.toArray ∧ h1.objs.size = s2.heap.objs.size + 5 ∧ (∀ c o, s2.heap.get? c = some o → h1.get? c = some o)
theorem zip_keysL {ks : List Str} {ys : List V} {its its2 : List Value} (r : Vals (ks.map V.str) its) (r2 : Vals ys its2) {P : Program} {w : World} {i : Nat} {key v : Value} (h : its.toArray[i]? = some key ∧ its2.toArray[i]? = some v) :
    ∃ k z, (zipKVL ks ys)[i]? = some (k, z) ∧ (mixKind P w).is k key = true ∧ RelV z v := by
  obtain ⟨hk, hv⟩ := h
  rw [List.getElem?_toArray] at hk hv
  have hi : i < its.length := (List.getElem?_eq_some_iff.mp hk).1
  have hj : i < its2.length := (List.getElem?_eq_some_iff.mp hv).1
  have hi2 : i < ks.length := by rw [← r.length, List.length_map] at hi; exact hi
  have hj2 : i < ys.length := by rw [← r2.length] at hj; exact hj
  have e1 : (ks.map V.str)[i]? = some (V.str ks[i]) := by rw [List.getElem?_map, List.getElem?_eq_getElem hi2]; rfl
  have rk : RelV (V.str ks[i]) key := by
    obtain ⟨u', a1, a2⟩ := r.get e1
    rw [hk] at a1; cases a1; exact a2
  have rv : RelV ys[i] v := by
    obtain ⟨u', a1, a2⟩ := r2.get (List.getElem?_eq_getElem hj2)
    rw [hv] at a1; cases a1; exact a2
  obtain ⟨t, rfl⟩ := rk
  refine ⟨.inr ks[i], ys[i], ?_, ?_, rv⟩
  · unfold zipKVL
    have e3 : (ks.zip ys)[i]? = some (ks[i], ys[i]) := List.getElem?_zip_eq_some.mpr ⟨List.getElem?_eq_getElem hi2, List.getElem?_eq_getElem hj2⟩
    rw [List.getElem?_map, e3]; rfl
  · show Value.isStrOf ks[i] (.str ks[i] t) = true
    simp [Value.isStrOf]
theorem pe_dictZipL {Kf : PySem.W.Frag} {a b : Expr} {ta tb : TE} {p1 p2 pos1 pos2 : Pos} (hK : X.K = Kf) (hc : X.calm = true) (hgd : Gl X "dict") (hmd : X.mg "dict" = none) (hgz : Gl X "zip") (hmz : X.mg "zip" = none) (ha : PE X a ta) (hb : PE X b tb)
    (na : starEach [a, b] X.env = (false, eval a X.env) :: starEach [b] X.env := by rfl) (nb : starEach [b] X.env = (false, eval b X.env) :: starEach [] X.env := by rfl) (hp : (backTo pos2 (starEach [b] X.env)).any (·.1) = false := by rfl)
    (nz : starEach [.Call (.Name "zip" p2) [a, b] [] pos2] X.env = (false, eval (.Call (.Name "zip" p2) [a, b] [] pos2) X.env) :: starEach [] X.env := by rfl) :
    PE X (.Call (.Name "dict" p1) [.Call (.Name "zip" p2) [a, b] [] pos2] [] pos1) (tDictZipL Kf ta tb) := by
  subst hK
  refine ⟨fun pins s σ H Q I h => ?_⟩
  have hz : wpAny (model X.prog X.w) X.A (eval (.Call (.Name "zip" p2) [a, b] [] pos2) X.env) (fun v s1 => ∃ (l l2 : Addr) (its its2 : List Value) (ks : List Str) (ys : List V) (H2 : Hp), ZippedL X pins σ l l2 its its2 H2 v s1 ∧ Vals (ks.map V.str) its ∧ Vals ys its2 ∧ ks.length ≤ sizeLine ∧ ∀ p, H2 p = none → Q (.ref p) (upd H2 p (.dK (mergeK [] (zipKVL ks ys))))) X.xe s := by
    refine Call_ (ld_blt I hgz hmz PyProof.Rows.boot_zip (PyProof.Rows.callWith_type1 (args_cons (thn (ha.run pins s σ H _ I h) fun v s1 ⟨x, H1, I1, r1, q1⟩ => one_arg hb I1 q1 (fun u s2 z H2 I2 r2 q => ?_) nb) na) na hp))
    obtain ⟨l, l2, ks, ys, rfl, rfl, hq, hq2, q⟩ := q
    obtain rfl : v = .ref l := r1
    obtain rfl : u = .ref l2 := r2
    obtain ⟨its, rv, pl, hsz⟩ := I2.list hq
    obtain ⟨its2, rv2, pl2, hsz2⟩ := I2.list hq2
    refine call_zip_2 pl.isList pl2.isList fun h1 a1 a2 a3 a4 a5 a6 a7 => ?_
    exact ⟨l, l2, its, its2, ks, ys, H2, ⟨s2, h1, rfl, rfl, I2, pl.lt, pl2.lt, a1, a2, a3, a4, a5, pl.isList.at fun o e => a7 _ o e, pl2.isList.at fun o e => a7 _ o e, a6, a7⟩, rv, rv2, by simpa using hsz, q⟩
  refine Call_ (ld_blt I hgd hmd boot_dict (PyProof.Rows.callWith_type1 (args_cons (thn hz fun x s1 ⟨l, l2, its, its2, ks, ys, H2, ⟨s2, h1, ev, es, I2, ll, ll2, a1, a2, a3, a4, a5, al, al2, a6, a7⟩, rv, rv2, hsz, q⟩ => args_nil ?_) nz) nz))
  subst ev es
  have len : its.length = ks.length := by rw [← rv.length, List.length_map]
  have len2 : its2.length = ys.length := by rw [← rv2.length]
  have hk0 : (zipKVL ks ys).length = min its.toArray.size its2.toArray.size := by unfold zipKVL; rw [List.length_map, List.length_zip, List.size_toArray, List.size_toArray, len, len2]
  refine call_dictZ (kvs := zipKVL ks ys) (n := min its.toArray.size its2.toArray.size) (PairArg.zip (prog := X.prog) (w := X.w) (s2.heap.objs.size + 4) (s2.heap.objs.size + 2) (s2.heap.objs.size + 3) s2.heap.objs.size (s2.heap.objs.size + 1) l l2 (PySem.W.ktu_apart s2.heap.objs.size l l2 ll ll2) its.toArray its2.toArray) (I2.ok.hd hc) ⟨a1, a2, ⟨_, _, a3⟩, a4, a5, al, al2⟩ hk0 (fun i key v hr => zip_keysL rv rv2 hr) (by simp; omega) fun h' tk vs kv hd hk => ?_
  have hbig : (h1.objs.size == sysModules) = false := beq_eq_false_iff_ne.mpr (by rw [a6]; exact Nat.ne_of_gt (Nat.lt_of_lt_of_le I2.big (Nat.le_add_right _ _)))
  have keep : ∀ b o, s2.heap.get? b = some o → h'.get? b = some o := fun b o e => hk b o (fun hm => by
    have lt := Heap.lt_size e
    simp only [List.mem_cons, List.not_mem_nil, or_false] at hm
    rcases hm with rfl | rfl | rfl | rfl
    · exact Nat.not_lt_of_le (Nat.le_add_right _ _) lt
    · exact Nat.not_lt_of_le (Nat.le_add_right _ _) lt
    · exact Nat.lt_irrefl _ lt
    · exact Nat.not_lt_of_le (Nat.le_add_right _ _) lt) (a7 b o e)
  refine ⟨.ref h1.objs.size, upd H2 h1.objs.size (.dK (mergeK [] (zipKVL ks ys))), I2.laid (t' := tk) keep (by rw [a6]; omega) (show ObjOk X.prog X.w _ _ _ (.dK (mergeK [] (zipKVL ks ys))) from ⟨?_, hbig, vs, kv, hd⟩), rfl, q _ (I2.hok.fresh (by rw [a6]; omega))⟩
  refine Nat.le_trans (length_mergeK _ []) ?_
  rw [List.length_nil, Nat.zero_add, hk0, List.size_toArray, len]; omega
end
end L2
namespace VL
open PySem L2
def dzipLL : List (List Nat) → List D → List (D × D) → List (D × D)
  | k :: ks, c :: cs, acc => dzipLL ks cs (storeD acc (.str k) c)
  | _, _, acc => acc
def dzipLD (a b : D) : Option (List (D × D)) := match a, b with
  | .lst l, .lst m => match strsD l with
    | some ks => some (dzipLL ks m [])
    | none => none
  | _, _ => none
variable [EC]
theorem repK_zipL {G : Hp} : ∀ (ks : List (List Nat)) (cs : List D) (ys : List V) {acc : List (D × D)} {kvs : List (Key × V)}, Reps G cs ys → RepK G acc kvs → RepK G (dzipLL ks cs acc) (mergeK kvs (((ks.map mkS).zip ys).map fun p => (Sum.inr p.1, p.2)))
  | [], cs, ys, acc, kvs, r, h => by cases cs <;> exact h
  | k :: ks, [], ys, acc, kvs, r, h => by cases (show ys = [] from r); exact h
  | k :: ks, c :: cs, _, acc, kvs, ⟨y, ys, e, r1, r2⟩, h => by
    subst e
    have h1 : RepK G (storeD acc (.str k) c) (putK kvs (.inr (mkS k)) y) := repK_store (kk := .inr (mkS k)) (d := .str k) (c := c) (by simp [kD, mkS]) r1 h
    exact repK_zipL ks cs ys r2 h1
section
variable {R : Type} {F : Fc} {tmp : Tmp} {s : State} {m : Res R} {K : Rs R} {N : Rn R} {Rt : Rr R} {ta tb : TE} {Kf : PySem.W.Frag}
theorem rd_dzipL (h : RD F tmp s ta m (fun tm1 s1 m1 => ∀ x, RD F ((x, tm1) :: tmp) s1 tb m1 (fun tm2 s2 m2 => ∃ a b k, valS s2 tm1 = some a ∧ valS s2 tm2 = some b ∧ m2 = ob (dzipLD a b) k ∧ ∀ c, K (.own (.dc false c)) s2 (k c)))) : RD F tmp s (tDictZipL Kf ta tb) m K := fun σ H Q hh nf eo q =>
  h σ H _ hh nf eo fun tm1 s1 x H1 h2 h1 => h2 x σ H1 _ h1 nf eo fun tm2 s2 u H2 ⟨a, b, k, ea, eb, em, hk⟩ h3 => by
    obtain ⟨c, ec, em'⟩ := ob_cases (by rw [← em]; exact nf)
    obtain ⟨G, ω, h3⟩ := h3
    have ra := h3.repC h3.tm.2.1 ea
    have rb := h3.repC h3.tm.1 eb
    cases a <;> try (cases ec; done)
    cases b <;> try (cases ec; done)
    rename_i l y
    simp only [dzipLD] at ec
    cases es : strsD l with
    | none => rw [es] at ec; cases ec
    | some ks =>
      rw [es] at ec
      cases ec
      obtain ⟨p, vs, e1, rd, z, r⟩ := ra
      obtain ⟨p', vs', e1', rd', z', r'⟩ := rb
      have ev := strs_ok es r
      subst ev
      refine ⟨p, p', ks.map mkS, vs', e1, e1', .inl rd, .inl rd', fun p2 np => ?_⟩
      refine q (.own (.dc false (dzipLL ks y []))) s2 _ _ (by rw [em, em']; exact hk _) ⟨G, _, h3.pop.pop.newO np ⟨p2, _, rfl, by simp, upd_same, ?_⟩⟩
      exact repK_zipL (G := G) ks y vs' (acc := []) (kvs := []) r' rfl
end
end VL
namespace VL
open PySem L2
section
variable {X : Cx} {Kf : PySem.W.Frag}
end
end VL

namespace VL
open PySem L2
section
variable {X : Cx} {pins : List (Addr × Obj)} {σ : L2.St} {H : Hp} {s : Shared} {d : Addr} {kvs : List (Key × V)}
end
variable [EC]
section
variable {F : Fc} {G H : Hp} {ω : Addr → Option Lab} {tmp : Tmp} {s : State} {σ : L2.St} {v : V}
end
section
variable {R : Type} {F : Fc} {tmp : Tmp} {s : State} {m : Res R} {K : Rs R} {ta td : TE}
end
end VL

namespace VL
open PySem L2
variable [EC]
section
variable {R : Type} {F : Fc} {tmp : Tmp} {s : State} {m : Res R} {K : Rs R} {N : Rn R} {Rt : Rr R} {te ti tj tn : TE} {Kf : PySem.W.Frag}
end
end VL

namespace VL
open PySem L2 PySem.W PyProof.Rows
variable [EC]
/-! sorted, list, len of a dict -/
section
variable {X : Cx} {pins : List (Addr × Obj)} {σ : List (Option V)} {H : Hp} {s : Shared}
end
section
variable {R : Type} {F : Fc} {tmp : Tmp} {s : State} {m : Res R}
end
end VL

namespace VL
open PySem L2
/-! walks over own dicts; xs[::-1]; range with three arguments -/
variable [EC]
section
variable {F : Fc} {G H : Hp} {ω : Addr → Option Lab} {tmp : Tmp} {s : State} {σ : L2.St} {v : V}
end
section
variable {R : Type} {F : Fc} {tmp : Tmp} {s : State} {m : Res R} {K : Rs R} {N : Rn R} {Rt : Rr R} {ta tb tc td : TE} {Kf : PySem.W.Frag}
end
end VL

namespace VL
open PySem L2
variable [EC]
/-! list(range(..)), max of a list, isinstance of two builtin classes, displays of constants -/
section
variable {R : Type} {F : Fc} {G H : Hp} {tmp : Tmp} {s : State} {m : Res R} {K : Rs R} {ta tb te : TE} {Kf : PySem.W.Frag}
theorem reps_rg {G : Hp} (i j : Int) : Reps G ((List.range (j - i).toNat).map fun k => .int (i + (k : Nat))) (rgV i j) := by
  unfold rgV
  exact Reps.map (fun k : Nat => D.int (i + (k : Nat))) (fun k : Nat => V.int (i + (k : Nat))) _ fun _ _ => rfl
theorem rd_listRg2 (h : RD F tmp s ta m (fun tm1 s1 m1 => ∀ x, RD F ((x, tm1) :: tmp) s1 tb m1 (fun tm2 s2 m2 => ∃ a b k, valS s2 tm1 = some a ∧ valS s2 tm2 = some b ∧ m2 = ob (rngD a b) k ∧ ∀ c, K (.own (.l c)) s2 (k c)))) : RD F tmp s (tLstRg (tRg2 ta tb)) m K := fun σ H Q hh nf eo q =>
  h σ H _ hh nf eo fun tm1 s1 x H1 h2 h1 => h2 x σ H1 _ h1 nf eo fun tm2 s2 y H2 ⟨a, b, k, ea, eb, em, hk⟩ h3 => by
    obtain ⟨c, ec, em'⟩ := ob_cases (by rw [← em]; exact nf)
    obtain ⟨G, ω, h4⟩ := h3
    have ra := h4.repC h4.tm.2.1 ea
    have rb := h4.repC h4.tm.1 eb
    cases a <;> cases b <;> try (cases ec; done)
    rename_i i j
    simp only [rngD] at ec
    split at ec
    · cases ec
      rename_i hb
      have r1 : x = .int i := ra
      have r2 : y = .int j := rb
      subst r1 r2
      exact ⟨i, j, rfl, rfl, ⟨by omega, by omega, by omega, by omega, by omega⟩, fun p np => q _ s2 _ _ (by rw [em, em']; exact hk _) (h4.pop.pop.newL np (by rw [sizeLine_eq]; simp; omega) (reps_rg i j))⟩
    · cases ec
end
/-! max(xs) -/
/-! isinstance(x, (A, B)) -/
section
variable {R : Type} {F : Fc} {G H : Hp} {tmp : Tmp} {s : State} {m : Res R} {K : Rs R} {ta tb te : TE} {Kf : PySem.W.Frag}
/-! a display of constant texts -/
end
end VL

namespace VL
open PySem L2 PySem.W PyProof.Rows
variable [EC]
/-! sorted(d.items()), dict(pairs) -/
section
variable {X : Cx} {pins : List (Addr × Obj)} {σ : List (Option V)} {H : Hp} {s : Shared}
end
section
variable {R : Type} {F : Fc} {tmp : Tmp} {s : State} {m : Res R} {td ta : TE} {Kf : PySem.W.Frag}
/-! dict(pairs) -/
end
/-! a told list, many times -/
end VL

namespace VL
open PySem L2 PySem.Spec PyProof.Rows
/-! None or a list of its own; str.strip(signs) -/
variable [EC]
section
variable {R : Type} {F : Fc} {tmp : Tmp} {s : State} {m : Res R} {N : Rn R} {Rt : Rr R} {K : Rs R}
end
section
variable {R : Type} {F : Fc} {tmp : Tmp} {s : State} {m : Res R} {to te : TE} {Kf : PySem.W.Frag} {K : Rs R}
end
end VL

namespace VL
open PySem L2 PySem.W PySem.Spec PyProof.Rows
/-! dicts of flat values compared -/
def flatV : D → Bool | .int _ => true | .str _ => true | _ => false
variable [EC]
end VL

namespace VL
open PySem L2 PySem.W PySem.Spec PyProof.Rows
/-! max(d.values()) of a dict of whole numbers, told or own -/
variable [EC]
section
variable {X : Cx} {o : Expr} {to : TE} {name : Str} {apos cpos : Pos} {id : String} {r : V → List V → Hp → VK → Prop}
end
section
variable {R : Type} {F : Fc} {tmp : Tmp} {s : State} {m : Res R} {td : TE} {K : Rs R}
end
end VL

namespace VL
open PySem L2
/-! own tuples: a mask tells which parts are lists of their own -/
variable [EC]
section
variable {F : Fc} {tmp : Tmp} {s : State} {σ : St} {H : Hp} {v : V} {t : T}
end
section
variable {R : Type} {F : Fc} {tmp : Tmp} {s : State} {m : Res R} {K : Rs R} {N : Rn R} {Rt : Rr R} {ta tb te to ti : TE} {Kf : PySem.W.Frag}
end
end VL

namespace VL
open PySem L2 PySem.Spec PyProof.Rows
/-! str.upper() -/
variable [EC]
section
variable {R : Type} {F : Fc} {tmp : Tmp} {s : State} {m : Res R} {to te : TE} {Kf : PySem.W.Frag} {K : Rs R}
end
end VL

namespace VL
open PySem L2
/-! == of a text and a thing of any kind -/
variable [EC]
end VL

namespace VL
open PySem L2 RZ
/-! zip of two lists or two tuples; `in` of a dict as a value -/
variable [EC]
section
variable {R : Type} {F : Fc} {tmp : Tmp} {s : State} {m : Res R} {ta tb ty td : TE} {K : Rs R}
end
end VL

namespace VL
open PySem L2
variable [EC]
/-! a list of its own put into a list of such -/
section
variable {F : Fc} {tmp : Tmp} {s1 : State} {σ : St} {H2 : Hp} {y : V} {t : T}
end
section
variable {R : Type} {F : Fc} {tmp : Tmp} {s : State} {m : Res R} {N : Rn R} {Rt : Rr R} {te ti : TE}
end
end VL

namespace VL
open PySem L2
/-! own dicts of own lists -/
variable [EC]
section
variable {F : Fc} {tmp : Tmp} {s : State} {σ : St} {H : Hp} {v : V} {t : T}
end
section
variable {R : Type} {F : Fc} {tmp : Tmp} {s : State} {m : Res R} {K : Rs R} {N : Rn R} {Rt : Rr R} {ta tb te tk ty tv td : TE} {Kf : PySem.W.Frag}
end
end VL

namespace VL
open PySem L2
/-! a list of pairs, each with a list of its own behind -/
variable [EC]
section
variable {F : Fc} {tmp : Tmp} {s : State} {σ : St} {H : Hp} {v : V} {t : T}
end
section
variable {R : Type} {F : Fc} {tmp : Tmp} {s : State} {m : Res R} {K : Rs R} {N : Rn R} {Rt : Rr R} {te ti : TE} {u : TS} {Kf : PySem.W.Frag}
end
end VL

namespace VL
open PySem L2
/-! the parts of an own tuple, read in place -/
variable [EC]
section
variable {F : Fc} {tmp : Tmp} {s : State} {σ : St} {H : Hp} {v : V} {t : T}
end
section
variable {R : Type} {F : Fc} {tmp : Tmp} {s : State} {m : Res R} {K : Rs R} {N : Rn R} {Rt : Rr R} {ta tb te to ti : TE} {Kf : PySem.W.Frag}
end
end VL

namespace VL
open PySem PySem.Spec PyProof.Rows L2
/-! e.replace(a, b) of written texts; behind len(..) a token is out -/
def PTT (X : Cx) (e : Expr) (t : TT) : Prop :=
  ∀ (pins : List (Addr × Obj)) (s : Shared) (σ : L2.St) (H : Hp) (Q : Bool → Hp → Prop), 1 ≤ s.toks → Inv X pins σ H s → t σ H Q → wpAny (model X.prog X.w) X.A (isTrue e X.env (eval e X.env)) (TP X pins σ Q) X.xe s
def PWT (X : Cx) (e : Expr) (t : TT) : Prop :=
  ∀ (whole : Sem Value) (pins : List (Addr × Obj)) (s : Shared) (σ : L2.St) (H : Hp) (Q : Bool → Hp → Prop), 1 ≤ s.toks → Inv X pins σ H s → t σ H Q → wpAny (model X.prog X.w) X.A (isTrue e X.env whole) (TP X pins σ Q) X.xe s
section
variable {X : Cx} {a b c e : Expr} {rest : List Expr} {ta tb te : TE} {tA tB : TT} {p pos : Pos}
end
variable [EC]
section
variable {R : Type} {F : Fc} {tmp : Tmp} {s : State} {m : Res R} {K : Rs R} {to : TE}
end
end VL

namespace VL
open PySem L2
variable [EC]
/-! x[e] as one of several targets -/
section
variable {R : Type} {F : Fc} {tmp : Tmp} {s : State} {m : Res R} {ti : TE}
end
end VL

namespace VL
open PySem L2
/-! own tuples with an own list of own lists in them -/
variable [EC]
section
variable {F : Fc} {tmp : Tmp} {s : State} {σ : St} {H : Hp} {v : V} {t : T}
end
section
variable {R : Type} {F : Fc} {tmp : Tmp} {s : State} {m : Res R} {K : Rs R} {N : Rn R} {Rt : Rr R} {ta tb te ti : TE} {Kf : PySem.W.Frag}
end
end VL

namespace VL
open PySem L2
variable [EC]
section
variable {R : Type} {F : Fc} {tmp : Tmp} {s : State} {m : Res R} {K : Rs R} {N : Rn R} {Rt : Rr R} {ta tb te ti : TE} {Kf : PySem.W.Frag}
end
end VL

namespace VL
open PySem L2
/-! reading in place: what is read is told of the heap as it stands -/
variable [EC]
section
variable {R : Type} {F : Fc} {tmp : Tmp} {s : State} {m : Res R} {K : Rs R} {N : Rn R} {Rt : Rr R} {ta tb te ti : TE} {Kf : PySem.W.Frag}
end
end VL

namespace VL
open PySem L2
/-! text.split(sep) -/
variable [EC]
section
variable {R : Type} {F : Fc} {tmp : Tmp} {s : State} {m : Res R} {to te : TE} {Kf : PySem.W.Frag} {K : Rs R}
end
end VL

namespace VL
open PySem PySem.Spec PyProof.Rows L2 SeqAt
/-! behind a written number a token is out: statements that replace may stand behind it -/
section
variable {X : Cx} {a b c e : Expr} {rest : List Expr} {sts : List Stmt} {ta tb te : TE} {tA tB tc : TT} {t u : TS} {p pos : Pos}
theorem PWT.of (h : PW X e tA) : PWT X e tA := fun wh pins s σ H Q _ I q => h.run wh pins s σ H Q I q
theorem PWT.pt (h : PWT X e tA) : PTT X e tA := fun pins s σ H Q h0 I q => h _ pins s σ H Q h0 I q
end
/-! a list compared with the empty one, whatever stands in it -/
variable [EC]
end VL

namespace VL
open PySem L2 PySem.SeqAt
/-! a text in a list of things of any kind, dicts too -/
section
variable {A : Around} {s : Shared}
end
variable [EC]
section
variable {X : Cx} {pins : List (Addr × Obj)} {σ : List (Option V)} {H : Hp} {s : Shared}
end
end VL

namespace VL
open PySem PySem.Spec PyProof.Rows L2 PySem.SeqAt
/-! dicts keyed by nested tuples: the heap's side -/
variable [EC]
section
variable {X : Cx} {pins : List (Addr × Obj)} {σ : List (Option V)} {H : Hp} {s : Shared}
mutual
theorem nested_of (I : Inv X pins σ H s) : ∀ (d : D) (k : NestedKey) (x : V) (u : Value), nkD d = some k → Rep H d x → RelV x u → NestedIs s.heap k u
  | .non, k, x, u, e, h, r => by
    cases e; cases (show x = .non from h); cases r; exact .none
  | .bl b, k, x, u, e, h, r => by
    cases e; cases (show x = .bl b from h); cases r; exact .bool rfl
  | .int i, k, x, u, e, h, r => by
    cases e; cases (show x = .int i from h); obtain ⟨t, rfl⟩ := r; exact .int _ _
  | .str y, k, x, u, e, h, r => by
    cases e; cases (show x = .str (mkS y) from h); obtain ⟨t, rfl⟩ := r; exact .text _ _
  | .tup l, k, x, u, e, h, r => by
    obtain ⟨a, vs, its, ea, eu, hl, v1, q1, n1⟩ := at_tup I h r
    subst eu
    simp only [nkD, Option.map_eq_some_iff] at e
    obtain ⟨ks, ek, rfl⟩ := e
    obtain ⟨o, ho, hc, n, hd⟩ := hl
    exact .tup ho hc hd (by simpa using nesteds_of I l ks vs its ek q1 v1)
  | .lst _, _, _, _, e, _, _ => by cases e
  | .dct _ _, _, _, _, e, _, _ => by cases e
  | .opq _, _, _, _, e, _, _ => by cases e
  | .exc _ _, _, _, _, e, _, _ => by cases e
  | .fd _ _ _, _, _, _, e, _, _ => by cases e
  | .fz _, _, _, _, e, _, _ => by cases e
theorem nesteds_of (I : Inv X pins σ H s) : ∀ (l : List D) (ks : List NestedKey) (xs : List V) (us : List Value), nkDs l = some ks → Reps H l xs → Vals xs us → NestedAll s.heap ks us
  | [], ks, xs, us, e, h, r => by
    cases e; cases (show xs = [] from h); cases r; exact .nil
  | d :: l, ks, _, us, e, ⟨x, xs, ex, h, q⟩, r => by
    subst ex
    simp only [nkDs] at e
    cases e1 : nkD d with
    | none => rw [e1] at e; cases e
    | some k =>
      cases e2 : nkDs l with
      | none => rw [e1, e2] at e; cases e
      | some q2 =>
        rw [e1, e2] at e
        cases e
        cases r with
        | cons z1 v1 => exact .cons (nested_of I d k x _ e1 h z1) (nesteds_of I l q2 xs _ e2 q v1)
end
def KsOk (H : Hp) (xs : NX) : Prop := ∀ x ∈ xs, ∃ d, nkD d = some x.1 ∧ x.1.depth ≤ 8 ∧ Rep H d (.ref x.2.1)
/-- at a stands a dict with these keys and values -/
structure NDok (w : World) (H : Hp) (a : Addr) (ep : Nat) (xs : NX) : Prop where
  at_ : H a = some (exN w a ep xs)
  g : NDg a xs
  ks : KsOk H xs
def NKey (H : Hp) (k : NestedKey) (y : V) (b : Addr) : Prop := ∃ d, nkD d = some k ∧ k.depth ≤ 8 ∧ y = .ref b ∧ Rep H d y
theorem NKey.is {k : NestedKey} {y : V} {b : Addr} {u : Value} (I : Inv X pins σ H s) (h : NKey H k y b) (r : RelV y u) : u = .ref b ∧ (nestedKind X.prog X.w).is s.heap k b := by
  obtain ⟨d, e, dp, rfl, rep⟩ := h
  have : u = .ref b := by cases r; rfl
  subst this
  exact ⟨rfl, nested_of I d k _ _ e rep r, dp⟩
theorem NDok.raw (I : Inv X pins σ H s) {a : Addr} {ep : Nat} {xs : NX} (h : H a = some (exN X.w a ep xs)) : ∃ o es, s.heap.get? a = some o ∧ o.ExactDict ∧ o.data = .dict es ep ∧ es.toList = xs.map fun x => (⟨x.1.hash X.w, .ref x.2.1, x.2.2⟩ : DictEntry) := by
  have q : (∃ o es, s.heap.get? a = some o ∧ o.ExactDict ∧ o.data = .dict es ep ∧ es.toList = xs.map fun x => (⟨x.1.hash X.w, .ref x.2.1, x.2.2⟩ : DictEntry)) ∧ _ := I.hok a _ h
  exact q.1
theorem NDok.of (I : Inv X pins σ H s) {a : Addr} {ep : Nat} {xs : NX} (h : NDok X.w H a ep xs) : s.heap.DictOfH (nestedKind X.prog X.w) a xs := by
  obtain ⟨o, es, h1, h2, h3, h4⟩ := NDok.raw I h.at_
  refine ⟨o, es, ep, h1, h2, h3, h4, fun x hx => ?_, h.g.1⟩
  obtain ⟨d, e, dp, rep⟩ := h.ks x hx
  exact ⟨nested_of I d _ _ (.ref x.2.1) e rep rfl, dp⟩
/-! terms -/
end
/-! the walk over the keys -/
section
variable {P : Program} {w : World} {K : PySem.W.Frag} {tg : Expr} {a : Addr} {ep : Nat} {xs : NX}
end
end VL

namespace VL
open PySem L2
/-! dicts keyed by nested tuples: the rules -/
variable [EC]
section
variable {G H : Hp} {d c : D} {kk : NestedKey}
end
section
variable {R : Type} {F : Fc} {tmp : Tmp} {s : State} {m : Res R} {K : Rs R} {N : Rn R} {Rt : Rr R} {ta tb te to td ty tv tx : TE} {Kf : PySem.W.Frag}
end
end VL

namespace VL
open PySem L2
/-! isinstance(x, (A, B, ..)), own classes of refusals -/
variable [EC]
section
variable {R : Type} {F : Fc} {tmp : Tmp} {s : State} {m : Res R} {K : Rs R} {ta : TE} {Kf : PySem.W.Frag}
end
end VL

namespace VL
open PySem L2 PyProof.Rows
/-! x.remove(text) -/
section
variable {X : Cx}
end
variable [EC]
section
variable {R : Type} {F : Fc} {tmp : Tmp} {s : State} {m : Res R} {K : Rs R} {N : Rn R} {Rt : Rr R} {ta te : TE} {Kf : PySem.W.Frag}
end
/-! the parts of an own tuple become own -/
def relab (k n : Nat) : Lab → Option Lab
  | 1 :: j :: r => if j = k then (match r with | i :: r' => if i < n then some (1 :: (k + (n - 1 - i)) :: r') else none | [] => none) else some (1 :: j :: r)
  | l => some l
section
variable {F : Fc} {G H : Hp} {ω : Addr → Option Lab} {tmp : Tmp} {s : State} {σ : L2.St} {v : V}
theorem Hd.split {ts : List T} (h : Hd F G ω ((v, .own (.tt ts)) :: tmp) s σ H) : ∃ a xs ω', v = .ref a ∧ H a = some (.tup xs) ∧ xs.length = ts.length ∧ Hd F G ω' (xs.zip (ts.map TM.own) ++ tmp) s σ H := by
  obtain ⟨a, xs, e, ha, hw, z, r⟩ := h.tm.1
  have hp := h.pop
  let ω' : Addr → Option Lab := fun b => (ω b).bind (relab tmp.length ts.length)
  have back : ∀ b p, ω' b = some p → ∃ p', ω b = some p' := fun b p e => by
    cases e2 : ω b with
    | none => simp [ω', e2] at e
    | some p' => exact ⟨p', rfl⟩
  have low : ∀ j, j < tmp.length → ∀ b x, ω b = some ([1, j] ++ x) → H b = H b ∧ ω' b = some ([1, j] ++ x) := fun j hj b x e => by
    refine ⟨rfl, ?_⟩
    simp only [ω', e, Option.bind_some]
    show relab tmp.length ts.length (1 :: j :: x) = _
    simp only [relab]
    rw [if_neg (by omega)]; rfl
  have xl : ∀ (ts : List T) (xs : List V) (i : Nat) (p : Lab), Owns G H ω p i ts xs → xs.length = ts.length := by
    intro ts
    induction ts with
    | nil => intro xs i p h; cases (show xs = [] from h); rfl
    | cons t r ih => intro xs i p ⟨v, q, e, h1, h2⟩; subst e; simp [ih q _ _ h2]
  refine ⟨a, xs, ω', e, ha, xl _ _ _ _ r, ⟨hp.g0, hp.gH, hp.gn, hp.fr, hp.ex, fun b p e => ?_, hp.len, fun i t e => ?_, ?_, hp.pn⟩⟩
  · obtain ⟨p', e'⟩ := back b p e
    exact hp.wg b p' e'
  · obtain ⟨v', e1, e2⟩ := hp.sl i t e
    refine ⟨v', e1, Own.move (Same.refl G) _ _ t v' (fun b x e => ⟨rfl, ?_⟩) e2⟩
    simp only [ω', e, Option.bind_some]
    rfl
  · have key : ∀ (us : List T) (ys : List V) (i : Nat), i + us.length = ts.length → Owns G H ω [1, tmp.length] i us ys → Tms G H ω' σ (ys.zip (us.map TM.own) ++ tmp) := by
      intro us
      induction us with
      | nil =>
        intro ys i _ h
        cases (show ys = [] from h)
        exact Tms.move (Same.refl G) tmp (fun j b x hj e => low j hj b x e) hp.tm
      | cons t r ih =>
        intro ys i hi ⟨v, q, e, h1, h2⟩
        subst e
        simp only [List.length_cons] at hi
        refine ⟨?_, ih q (i + 1) (by omega) h2⟩
        have hq := xl _ _ _ _ h2
        have hlen : (q.zip (r.map TM.own) ++ tmp).length = tmp.length + (ts.length - 1 - i) := by simp [hq]; omega
        show Own G H ω' [1, (q.zip (r.map TM.own) ++ tmp).length] t v
        rw [hlen]
        refine Own.move (Same.refl G) ([1, tmp.length] ++ [i]) _ t v (fun b x e => ⟨rfl, ?_⟩) h1
        simp only [ω', e, Option.bind_some]
        show relab tmp.length ts.length (1 :: tmp.length :: i :: x) = _
        simp only [relab, if_true]
        rw [if_pos (by omega)]; rfl
    exact key ts xs 0 (by simp) r
end
section
variable {R : Type} {F : Fc} {tmp : Tmp} {s : State} {m : Res R} {K : Rs R} {N : Rn R} {Rt : Rr R} {ta te : TE} {Kf : PySem.W.Frag}
end
end VL

namespace SSN
open PySem PySem.Spec PyProof.Rows SS
def ddp {α : Type} [BEq α] (l : List α) : List α := l.foldl step_dedup []
theorem ddp_snoc {α : Type} [BEq α] (l : List α) (x : α) : ddp (l ++ [x]) = step_dedup (ddp l) x := by simp [ddp]
theorem step_lenS {α : Type} [BEq α] (σ : List α) (v : α) : (step_dedup σ v).length = if σ.any (· == v) then σ.length else σ.length + 1 := by
  unfold step_dedup; split <;> simp
theorem step_anyS (σ : List Str) (v k : Str) : (step_dedup σ v).any (· == k) = (σ.any (· == k) || decide (k = v)) := by
  unfold step_dedup
  by_cases h : σ.any (· == v) = true
  · rw [if_pos h]
    by_cases e : k = v
    · subst e; rw [h]; simp
    · simp [e]
  · rw [if_neg h, List.any_append]
    by_cases e : k = v
    · subst e; simp
    · have hb : (v == k) = false := by simpa [beq_iff_eq] using (fun h' : v = k => e h'.symm)
      simp [hb, e]
theorem ddp_len {α : Type} [BEq α] (l : List α) : (ddp l).length ≤ l.length := by
  have key : ∀ (l σ : List α), (l.foldl step_dedup σ).length ≤ σ.length + l.length := by
    intro l
    induction l with
    | nil => intro σ; simp
    | cons x r ih =>
      intro σ
      have h1 := ih (step_dedup σ x)
      have h2 : (step_dedup σ x).length ≤ σ.length + 1 := by rw [step_lenS]; split <;> omega
      simp only [List.foldl_cons, List.length_cons]
      omega
  simpa [ddp] using key l []
section
variable {prog : Program} {w : World} {A : Around} {R : Result → Shared → Prop} {I : Addr} {fp wr : List Addr} {G : Array GenState → Array GenState → Prop} {n : Nat} {P : Nat → Value → Prop} {St : Nat → Shared → Prop}
theorem loopStrN (W : WalksS prog w A.in1 I fp wr G n P St) (S : Addr) (hSf : S ∉ fp) (xs : List Str) (hsz : xs.length = n) (hn1 : n ≤ 4000)
    (hval : ∀ i v, P i v → ∃ t, v = .str (xs.getD i Str.empty) t) :
    ∀ (k i : Nat) (s : Shared), n - i = k → i ≤ n → St i s →
      s.heap.SetOf (PySem.strKind prog w) S (fun k' => (ddp (xs.take i)).any (· == k')) (ddp (xs.take i)).length →
      (∀ s', Moved (S :: wr) G s s' → s'.heap.SetOf (PySem.strKind prog w) S (fun k' => (ddp (xs.take n)).any (· == k')) (ddp (xs.take n)).length → R (.ok (.ret .none)) s') →
      codeAny (model prog w) A (.builtin "set.update.loop" ⟨[.ref S, .ref I], []⟩) R s := by
  have hSw : S ∉ wr := fun h => hSf (W.sub _ h)
  have hsub : ∀ b ∈ wr, b ∈ S :: wr := fun b hb => List.mem_cons_of_mem _ hb
  intro k
  induction k with
  | zero =>
    intro i s hk hi hst hS hR
    have hin : i = n := by omega
    subst hin
    refine codeAny_builtin PyProof.Rows.F.entry_set_update_loop ?_
    rw [Around.under_plainId PyProof.Rows.F.plain_set_update_loop _]
    show wpAny _ A.in1 (pyNext (.ref I) >>= _) _ _ s
    refine wpAny_bind (W.done s _ _ hst fun s' hm => ?_)
    show wpAny _ A.in1 (ret Value.none) _ _ s'
    exact wpAny_pure (hR s' (hm.mono hsub) (by
      obtain ⟨o, es, ep, t, ho, rest⟩ := hS
      exact ⟨o, es, ep, t, hm.heap S _ hSw ho, rest⟩))
  | succ k ih =>
    intro i s hk hi hst hS hR
    have hlt : i < n := by omega
    refine codeAny_builtin PyProof.Rows.F.entry_set_update_loop ?_
    rw [Around.under_plainId PyProof.Rows.F.plain_set_update_loop _]
    show wpAny _ A.in1 (pyNext (.ref I) >>= _) _ _ s
    refine wpAny_bind (W.item i s _ _ hlt hst fun v s' hP hst' hm => ?_)
    obtain ⟨t, rfl⟩ := hval i v hP
    have hS' : s'.heap.SetOf (PySem.strKind prog w) S (fun k' => (ddp (xs.take i)).any (· == k')) (ddp (xs.take i)).length := by
      obtain ⟨o, es, ep, tb, ho, rest⟩ := hS
      exact ⟨o, es, ep, tb, hm.heap S _ hSw ho, rest⟩
    show wpAny _ A.in1 (holding [Value.str (xs.getD i Str.empty) t] (setAdd S (.str (xs.getD i Str.empty) t)) >>= _) _ _ s'
    refine wpAny_bind (wpAny_holding ?_)
    unfold setAdd
    refine wpAny_holding ?_
    refine wpAny_bind ((PySem.strKind prog w).pyHash (k := xs.getD i Str.empty) (strKind_is _ _ _ _) ?_)
    have hle := ddp_len (xs.take i)
    rw [List.length_take] at hle
    refine wpAny_setAddHashed_of (knd := PySem.strKind prog w) (s := { s' with toks := s'.toks + 1 }) (strKind_is _ _ _ _) rfl hS' (by unfold scanBound; omega) fun h' hsb hS2 => ?_
    have hSi : h'.SetOf (PySem.strKind prog w) S (fun k' => (ddp (xs.take (i + 1))).any (· == k')) (ddp (xs.take (i + 1))).length := by
      have e0 : xs.getD i Str.empty = xs[i]'(by omega) := by rw [List.getD_eq_getElem?_getD, List.getElem?_eq_getElem (by omega)]; rfl
      have e1 : ddp (xs.take (i + 1)) = step_dedup (ddp (xs.take i)) (xs.getD i Str.empty) := by
        rw [List.take_add_one, List.getElem?_eq_getElem (by omega), e0]
        exact ddp_snoc _ _
      exact SetOf_congr hS2 (fun k' => by rw [e1, step_anyS]) (by rw [e1, step_lenS])
    refine wpAny_pure ⟨plainId_quiet PyProof.Rows.F.plain_set_update_loop _, ih (i + 1) _ (by omega) hlt (W.frame _ s' _ _ hst' (Nat.le_succ _) fun b hb o e => ?_) hSi fun s'' hm'' hS'' => ?_⟩
    · rw [hsb.2 b (fun h : b = S => hSf (by rw [← h]; exact hb))]; exact e
    · refine hR s'' (Moved.trans W.gtrans ((hm.mono hsub).then_heap (Nat.le_succ _) fun b o hb e => ?_) hm'') hS''
      rw [hsb.2 b (fun h : b = S => hb (by rw [h]; exact List.mem_cons_self))]; exact e
end
section
variable {prog : Program} {w : World} {A : Around} {E : Value → Shared → Prop} {s : Shared}
set_option maxHeartbeats 3200000 in
theorem call_set_listSN {l : Addr} {items : Array Value} {xs : List Str} {Q : Value → Shared → Prop}
    (hh : A.handled = none) (hl : s.heap.IsList l items) (hi : PyProof.Rows.StrsAre items.toList xs) (hn1 : xs.length ≤ 4000)
    (h : ∀ (h' : Heap) (tk : Nat), h'.SetOf (PySem.strKind prog w) s.heap.objs.size (fun k' => (ddp (xs.take items.size)).any (· == k')) (ddp (xs.take items.size)).length →
      (∀ b o, b < s.heap.objs.size → s.heap.get? b = some o → h'.get? b = some o) → Q (.ref s.heap.objs.size) { s with heap := h', toks := tk }) :
    wpAny (model prog w) A (call (.type "set") [.ref l]) Q E s := by
  obtain ⟨c, tl, hmro⟩ := PySem.F.called_set.mro
  have hmade := PySem.F.called_set.made
  have hsub := PySem.F.called_set.sub
  refine wpAny_call (codeAny_of_tree ?_)
  show wpAny _ _ (callAny (.type "set") _) _ _ _
  refine wpAny_pure ⟨Code.quiet_builtin _ (by decide +kernel), codeAny_builtin PySem.F.entry_type_call ?_⟩
  rw [Around.under_plain (weight_type_call_type "set" [.ref l] []) rfl]
  have h1 := PySem.F.called_set.notType
  have h2 := PySem.F.called_set.canCreate
  have hct := PySem.F.typeCall_set_1 (.ref l)
  repeat (any_goals (first | assumption | wp_step))

  refine codeAny_mono (code_set_new_1 (.ref l) (E := E) (Q₁ := fun obj s₁ => ∃ led : Bool, obj = .ref s.heap.objs.size ∧ s₁ = { s with heap := s.heap.push { cls := .type "set", dict := none, data := .set #[] 0 (.fresh 0 0 led) } }) fun led => ⟨led, rfl, rfl⟩) fun r s₁ hr => ?_
  cases r with
  | error e => exact hr
  | ok fl =>
    cases fl with
    | ret obj =>
      obtain ⟨led, rfl, rfl⟩ := hr
      have hS : (s.heap.push { cls := .type "set", dict := none, data := .set #[] 0 (.fresh 0 0 led) }).get? s.heap.objs.size = some { cls := .type "set", dict := none, data := .set #[] 0 (.fresh 0 0 led) } := Heap.get?_push_size _ rfl
      have hT : Shared.TypeIs { s with heap := s.heap.push { cls := .type "set", dict := none, data := .set #[] 0 (.fresh 0 0 led) } } (.ref s.heap.objs.size) "set" := ⟨_, hS, rfl⟩
      have hli := PySem.F.called_set.init.lookup
      have hbi := PySem.F.called_set.init.bind (.ref s.heap.objs.size)
      repeat (any_goals (first | assumption | wp_step))

      refine codeAny_mono (codeAny_call_builtin (R := wants (fun r s₂ => r = .none ∧ ∃ h' tk, s₂ = { s with heap := h', toks := tk } ∧
          h'.SetOf (PySem.strKind prog w) s.heap.objs.size (fun k' => (ddp (xs.take items.size)).any (· == k')) (ddp (xs.take items.size)).length ∧
          (∀ b o, b < s.heap.objs.size → s.heap.get? b = some o → h'.get? b = some o)) E) PySem.F.called_set.init.plain PySem.F.entry_set_init (check_set_init_1 hT ?_)) fun r₂ s₂ hr₂ => ?_
      · obtain ⟨ol, hol, hcl, nl, hdl⟩ := hl
        obtain ⟨ocls, odict, odata, oslots⟩ := ol
        simp only at hcl hdl
        subst hcl; subst hdl
        have hol' : (s.heap.push { cls := .type "set", dict := none, data := .set #[] 0 (.fresh 0 0 led) }).get? l = some { cls := .type "list", dict := odict, data := .seq items nl, slots := oslots } := Heap.get?_push_of_some _ hol
        have hsls := PySem.F.sub_list_set
        have hslf := PySem.F.sub_list_frozenset
        have hne : (Value.type "list" == Value.type "dict") = false := by decide
        have hl1 : (s.heap.push { cls := .type "set", dict := none, data := .set #[] 0 (.fresh 0 0 led) }).IsList l items := ⟨_, hol', rfl, nl, rfl⟩
        unfold Builtin.«set.__init__» noKeywords Builtin.Frozenset.updateFrom
        generalize hPI : pyIter = PI
        wp_walk
        subst hPI

        refine wpAny_pyIter_list hl1 ?_
        refine wpAny_bind (wpAny_runValue ?_)
        have hlS : l < s.heap.objs.size := Heap.lt_size hol
        have hh3 : A.in1.in1.in1.handled = none := by simp [hh]
        have hneI : l ≠ (s.heap.push { cls := .type "set", dict := none, data := .set #[] 0 (.fresh 0 0 led) }).objs.size := by
          rw [Heap.size_push]; exact Nat.ne_of_lt (Nat.lt_succ_of_lt hlS)
        have hSf : s.heap.objs.size ∉ [(s.heap.push { cls := .type "set", dict := none, data := .set #[] 0 (.fresh 0 0 led) }).objs.size, l] := by
          rw [Heap.size_push]; simp only [List.mem_cons, List.mem_singleton, List.not_mem_nil, or_false, not_or]
          exact ⟨Nat.ne_of_lt (Nat.lt_succ_self _), Nat.ne_of_gt hlS⟩
        have hsz : xs.length = items.size := by rw [← StrsAre.len_eq hi, Array.length_toList]
        have hval : ∀ (i : Nat) (v : Value), items[i]? = some v → ∃ t, v = .str (xs.getD i Str.empty) t := fun i v hv => strs_at hi i v (by rw [Array.getElem?_toList]; exact hv)
        refine loopStrN ((Walks.list hh3 _ l hneI items).toS) s.heap.objs.size
          hSf xs hsz (by rw [← hsz]; exact hn1) hval (items.size - 0) 0 _ (by omega) (Nat.zero_le _)
          ⟨⟨_, Heap.get?_push_size _ rfl, rfl, rfl⟩, (hl1.push _)⟩ ?hS0 ?hR
        case hS0 =>
          have hget : ((s.heap.push { cls := .type "set", dict := none, data := .set #[] 0 (.fresh 0 0 led) }).push { cls := .type "list_iterator", data := .fields #[.ref l, .int 0 0] }).get? s.heap.objs.size
              = some { cls := .type "set", dict := none, data := .set #[] 0 (.fresh 0 0 led) } := Heap.get?_push_of_some _ hS
          exact PyProof.Rows.SetOf_congr ((PyProof.Rows.setObjOf_fresh (knd := PySem.strKind prog w) led).setOf hget (by unfold scanBound; omega)) (fun _ => rfl) rfl
        case hR =>
          intro s' hm hS'
          obtain ⟨h', g', d', tk', os'⟩ := s'
          have eg : g' = s.gens := hm.gens
          have ed : d' = s.drawn := hm.drawn
          have eo : os' = s.os := hm.os
          subst eg; subst ed; subst eo
          show wpAny _ _ _ _ _ _
          refine wpAny_pure ?_
          show wpAny _ _ (ret Value.none) _ _ _
          refine wpAny_pure ⟨rfl, h', tk', rfl, hS', fun b o hb e => ?_⟩
          have hb1 : b ≠ s.heap.objs.size := Nat.ne_of_lt hb
          have hb2 : b ≠ (s.heap.push { cls := .type "set", dict := none, data := .set #[] 0 (.fresh 0 0 led) }).objs.size := by
            rw [Heap.size_push]; exact Nat.ne_of_lt (Nat.lt_succ_of_lt hb)
          exact hm.heap b o (by simp only [List.mem_cons, List.mem_singleton, List.not_mem_nil, or_false, not_or]; exact ⟨hb1, hb2⟩) (Heap.get?_push_of_some _ (Heap.get?_push_of_some _ e))

      · cases r₂ with
        | error e => exact hr₂
        | ok fl₂ =>
          cases fl₂ with
          | ret r =>
            obtain ⟨rfl, h', tk, rfl, hS', hk'⟩ := hr₂
            repeat (any_goals (first | assumption | wp_step))
            exact h _ _ hS' hk'
          | _ => exact hr₂.elim
    | _ => exact hr.elim

end
end SSN

namespace VL
open PySem L2 PySem.Spec PyProof.Rows SSN
def tLenSetN (K : PySem.W.Frag) (ta : TE) : TE := fun σ H Q => ta σ H fun x H1 => ∃ (l : Addr) (xs : List Str), x = .ref l ∧ SqL K H1 l (xs.map V.str) ∧ xs.length ≤ 4000 ∧ Q (.int ((ddp xs).length : Nat)) H1
theorem pe_lenSetN {X : Cx} {Kf : PySem.W.Frag} {a : Expr} {ta : TE} {p p2 q pos : Pos} (hK : X.K = Kf) (hc : X.calm = true) (hg : Gl X "len") (hm : X.mg "len" = none) (hg2 : Gl X "set") (hm2 : X.mg "set" = none) (ha : PE X a ta)
    (na : starEach [a] X.env = (false, eval a X.env) :: starEach [] X.env := by rfl) : PE X (.Call (.Name "len" p) [.Call (.Name "set" p2) [a] [] q] [] pos) (tLenSetN Kf ta) := by
  subst hK
  refine ⟨fun pins s σ H Q I h => ?_⟩
  refine Call_ (ld_blt I hg hm PySem.boot_len ?_)
  refine PyProof.Rows.callWith_builtin1 (PyProof.Rows.args_cons ?_ rfl) rfl rfl
  refine Call_ (ld_blt I hg2 hm2 PyProof.Rows.boot_set ?_)
  refine PyProof.Rows.callWith_type1 (PyProof.Rows.args_cons (thn (ha.run pins s σ H _ I h) fun v s1 ⟨x, H1, I1, r1, q1⟩ => PyProof.Rows.args_nil ?_) na) na rfl
  obtain ⟨l, xs, rfl, hq, h1, q1⟩ := q1
  cases r1
  obtain ⟨its, r, pl, hz⟩ := I1.list hq
  refine call_set_listSN (I1.ok.hd hc) pl.isList (by simpa using Vals.strs r) h1 fun h' tk hS hk => ?_
  refine PyProof.Rows.args_nil ?_
  have hl : its.toArray.size = xs.length := by rw [List.size_toArray, ← r.length, List.length_map]
  rw [hl, List.take_length] at hS
  have hd := ddp_len xs
  obtain ⟨o, es, ep, t, ho, hex, hdt, _, _, _, hf, hn⟩ := hS
  have I2 : Inv X pins σ H1 { s1 with heap := h', toks := tk } := I1.kept fun b o e => hk b o (Heap.lt_size e) e
  exact call_len_set ho hex hdt hf (by rw [hn] <;> omega) ⟨.int (ddp xs).length, H1, I2.tok _, ⟨_, by rw [hn]⟩, q1⟩
def lenSetD : D → Option D | .lst l => (match strsD l with | some ys => if ys.length ≤ 4000 then some (.int ((ddp ys).length : Nat)) else none | none => none) | _ => none
theorem any_map {α β : Type} [BEq α] [BEq β] (f : α → β) (hf : ∀ a b, (f a == f b) = (a == b)) : ∀ (l : List α) (x : α), (l.map f).any (· == f x) = l.any (· == x)
  | [], _ => rfl
  | a :: r, x => by simp only [List.map_cons, List.any_cons, hf, any_map f hf r x]
theorem ddp_map {α β : Type} [BEq α] [BEq β] (f : α → β) (hf : ∀ a b, (f a == f b) = (a == b)) (l : List α) : ddp (l.map f) = (ddp l).map f := by
  have key : ∀ (l σ : List α), (l.map f).foldl step_dedup (σ.map f) = (l.foldl step_dedup σ).map f := by
    intro l
    induction l with
    | nil => intro σ; rfl
    | cons x r ih =>
      intro σ
      simp only [List.map_cons, List.foldl_cons]
      rw [← ih]
      congr 1
      simp only [step_dedup, any_map f hf]
      split <;> simp
  simpa [ddp] using key l []
variable [EC]
theorem rd_lenSet {R : Type} {F : Fc} {tmp : Tmp} {s : State} {m : Res R} {K : Rs R} {ta : TE} {Kf : PySem.W.Frag}
    (h : RD F tmp s ta m (fun tm1 s1 m1 => ∃ a k, valS s1 tm1 = some a ∧ m1 = ob (lenSetD a) k ∧ ∀ c, K (.own (.f c)) s1 (k c))) : RD F tmp s (tLenSetN Kf ta) m K := fun σ H Q hh nf eo q =>
  h σ H _ hh nf eo fun tm1 s1 x H1 ⟨a, k, ea, em, hk⟩ h1 => by
    obtain ⟨c, ec, em'⟩ := ob_cases (by rw [← em]; exact nf)
    have h2 := h1
    obtain ⟨G, ω, h1⟩ := h1
    have r := h1.repC h1.tm.1 ea
    cases a <;> try (cases ec; done)
    rename_i l
    simp only [lenSetD] at ec
    cases e2 : strsD l with
    | none => rw [e2] at ec; cases ec
    | some ys =>
      rw [e2] at ec
      simp only at ec
      split at ec
      · rename_i hy
        cases ec
        obtain ⟨p, vs, e, g, z, rr⟩ := r
        subst e
        have hv := strs_ok e2 rr
        refine ⟨p, ys.map mkS, rfl, .inl (by rw [← hv]; exact g), by simpa using hy, ?_⟩
        rw [ddp_map mkS mkS_beq, List.length_map]
        exact q _ s1 _ H1 (by rw [em, em']; exact hk _) ⟨G, ω, h1.pop.pushF (d := .int _) rfl⟩
      · cases ec
end VL

namespace VL
open PySem PySem.Spec PyProof.Rows L2
/-! objects: the machine's side -/
section
variable {X : Cx}
end
/-! fields by names -/
variable [EC]
structure ObF (Kf : PySem.W.Frag) (k : Nat) (f : Str) : Prop where
  c : Cls Kf (EC.ec k)
  n : NoAttr Kf (EC.ec k) f
section
variable {F : Fc} {tmp : Tmp} {s : State} {σ : L2.St} {H : Hp} {v : V} {t : T}
end
section
variable {R : Type} {F : Fc} {tmp : Tmp} {s : State} {m : Res R} {K : Rs R} {N : Rn R} {Rt : Rr R} {ta tb te ti tv ty : TE} {Kf : PySem.W.Frag} {i k n : Nat} {ks : List Str} {ts : List T} {t : T} {f : Str}
end
end VL

namespace VL
open PySem PySem.Spec PyProof.Rows L2 PySem.SeqAt PySem.W
/-! dicts keyed by nested tuples: walked and kept, sorted, len -/
variable [EC]
section
variable {prog : Program} {w : World}
end
section
variable {X : Cx} {pins : List (Addr × Obj)} {σ : List (Option V)} {H : Hp} {s : Shared} {G : Hp}
/-! len -/
/-! sorted -/
end
/-! for k in d, d kept -/
section
variable {R : Type} {F : Fc} {tmp : Tmp} {s : State} {m : Res R}
end
end VL

set_option maxHeartbeats 1000000
/-! dict(pairs), the keys nested tuples; x or y of a list -/
namespace VL
open PySem PySem.Spec PyProof.Rows L2 PySem.SeqAt
variable [EC]
section
variable {X : Cx} {pins : List (Addr × Obj)} {σ : List (Option V)} {H : Hp} {s : Shared}
end
section
variable {R : Type} {F : Fc} {tmp : Tmp} {s : State} {m : Res R} {ta tb : TE} {Kf : PySem.W.Frag}
/-! x or y, x a list -/
/-! max of three -/
end
end VL

set_option maxHeartbeats 2000000
namespace VL
open PySem PySem.Spec PyProof.Rows L2 PySem.SeqAt
/-! own dicts with keys None, whole numbers and texts -/
theorem lf_dec {a b : D} {x y : Leaf} (h : lfD a = some x) (g : lfD b = some y) : D.eqv a b = decide (x = y) := by
  cases a <;> first | (cases h; done) | skip
  · cases h
    cases b <;> first | (cases g; done) | (cases g; rfl)
  · cases h
    cases b <;> first | (cases g; done) | skip
    · cases g; rfl
    · cases g
      rename_i i j
      show (i == j) = decide (Leaf.num i = Leaf.num j)
      rw [Bool.eq_iff_iff, beq_iff_eq, decide_eq_true_iff, Leaf.num.injEq]
    · cases g; rfl
  · cases h
    cases b <;> first | (cases g; done) | skip
    · cases g; rfl
    · cases g; rfl
    · cases g
      rename_i x y
      show (x == y) = decide (Leaf.text (mkS x) = Leaf.text (mkS y))
      rw [Bool.eq_iff_iff, beq_iff_eq, decide_eq_true_iff, Leaf.text.injEq]
      exact ⟨fun e => by rw [e], fun e => mkS_inj e⟩
def lget2D (l : List (D × D)) (d z : D) : Option D := if (lfD d).isSome = true then some ((findD l d).getD z) else none
def lputD (l : List (D × D)) (d v : D) : Option (List (D × D)) := if (lfD d).isSome = true ∧ l.length < 16777216 then some (storeD l d v) else none
variable [EC]
theorem lf_is {G : Hp} {d : D} {k : Leaf} {y : V} (e : lfD d = some k) (r : Rep G d y) : ∀ u, RelV y u → Leaf.isOf k u = true := fun u ru => by
  cases d <;> first | (cases e; done) | skip
  · cases e; cases (show y = .non from r); cases ru; rfl
  · cases e
    rename_i i
    cases (show y = .int i from r)
    obtain ⟨t, rfl⟩ := ru
    exact decide_eq_true rfl
  · cases e
    rename_i x
    cases (show y = .str (mkS x) from r)
    obtain ⟨t, rfl⟩ := ru
    show ((mkS x) == (mkS x)) = true
    simp
section
variable {G : Hp} {d c : D} {kk : Leaf}
theorem repL_len : ∀ {l : List (D × D)} {kvs : List (Leaf × V)}, RepL G l kvs → l.length = kvs.length
  | [], _, h => by cases (show _ = [] from h); rfl
  | (k, d) :: ds, _, ⟨kk, v, r, e, _, _, q⟩ => by subst e; simp [repL_len q]
theorem repL_find (hd : lfD d = some kk) : ∀ {l : List (D × D)} {kvs : List (Leaf × V)}, RepL G l kvs →
    (findD l d = none ∧ valV kvs kk = none) ∨ ∃ c x, findD l d = some c ∧ valV kvs kk = some x ∧ Rep G c x
  | [], _, h => by cases (show _ = [] from h); exact .inl ⟨rfl, rfl⟩
  | (k, c) :: r, _, ⟨k', x, q, e, ek, h, h2⟩ => by
    subst e
    have hf : findD ((k, c) :: r) d = if decide (k' = kk) = true then some c else findD r d := by
      unfold findD
      rw [List.find?_cons]
      simp only [lf_dec ek hd]
      cases decide (k' = kk) <;> rfl
    rw [hf]
    by_cases e : k' = kk
    · rw [if_pos (decide_eq_true e)]
      exact .inr ⟨c, x, rfl, valV_pos (p := (k', x)) e, h⟩
    · rw [if_neg (by rw [decide_eq_false e]; simp)]
      rcases repL_find hd h2 with ⟨a, b⟩ | ⟨c2, x2, a, b, f⟩
      · exact .inl ⟨a, (valV_neg (p := (k', x)) e).trans b⟩
      · exact .inr ⟨c2, x2, a, (valV_neg (p := (k', x)) e).trans b, f⟩
theorem repL_store {x : V} (hd : lfD d = some kk) (rc : Rep G c x) {l : List (D × D)} {kvs : List (Leaf × V)} (h : RepL G l kvs) : RepL G (storeD l d c) (putK kvs kk x) := by
  have hany : ∀ {l : List (D × D)} {kvs : List (Leaf × V)}, RepL G l kvs → (l.any fun kv => D.eqv kv.1 d) = kvs.any fun kv => decide (kv.1 = kk) := by
    intro l
    induction l with
    | nil => intro kvs h; cases (show kvs = [] from h); rfl
    | cons kv r ih =>
      obtain ⟨k, c'⟩ := kv
      intro kvs ⟨k', x', q, e, ek, h', h2⟩
      subst e
      rw [List.any_cons, List.any_cons, ih h2, lf_dec ek hd]
  have hmap : ∀ {l : List (D × D)} {kvs : List (Leaf × V)}, RepL G l kvs → RepL G (l.map fun kv => if D.eqv kv.1 d = true then (kv.1, c) else kv) (kvs.map fun kv => if kv.1 = kk then (kv.1, x) else kv) := by
    intro l
    induction l with
    | nil => intro kvs h; cases (show kvs = [] from h); exact rfl
    | cons kv r ih =>
      obtain ⟨k, c'⟩ := kv
      intro kvs ⟨k', x', q, e, ek, h', h2⟩
      subst e
      rw [List.map_cons, List.map_cons]
      simp only [lf_dec ek hd]
      by_cases e : k' = kk
      · simp only [e, decide_true, if_true]
        exact ⟨kk, x, _, rfl, e ▸ ek, rc, ih h2⟩
      · simp only [e, decide_false, Bool.false_eq_true, if_false]
        exact ⟨k', x', _, rfl, ek, h', ih h2⟩
  have happ : ∀ {l : List (D × D)} {kvs : List (Leaf × V)}, RepL G l kvs → RepL G (l ++ [(d, c)]) (kvs ++ [(kk, x)]) := by
    intro l
    induction l with
    | nil => intro kvs h; cases (show kvs = [] from h); exact ⟨kk, x, [], rfl, hd, rc, rfl⟩
    | cons kv r ih =>
      obtain ⟨k, c'⟩ := kv
      intro kvs ⟨k', x', q, e, ek, h', h2⟩
      subst e
      exact ⟨k', x', _, rfl, ek, h', ih h2⟩
  unfold storeD putK
  rw [hany h]
  split
  · exact hmap h
  · exact happ h
end
/-! the heap's side -/
theorem leaf_prog {P P' : Program} {w : World} {h : Heap} {a : Addr} {vs : List (Leaf × Value)} (d : h.DictOf (leafKind P w) a vs) : h.DictOf (leafKind P' w) a vs := by
  have pr : ∀ {es : List DictEntry} {kvs : List (Leaf × Value)}, Pairs (leafKind P w) es kvs → Pairs (leafKind P' w) es kvs := fun p => by
    induction p with
    | nil => exact .nil
    | cons a b _ ih => exact .cons a b ih
  obtain ⟨o, es, ep, e1, e2, e3, e4, e5, e6⟩ := d
  exact ⟨o, es, ep, e1, e2, e3, e4, pr e5, e6⟩
theorem lfH_ok {P : Program} {w : World} (hw : w = EC.wd) {H : Hp} {h : Heap} {a : Addr} {kvs : List (Leaf × V)} {vs : List (Leaf × Value)} (kv : KV kvs vs) (dd : h.DictOf (leafKind P w) a vs) : ObjOk P w H h a (lfH a kvs) := by
  subst hw
  have dd2 : h.DictOf (leafKind EC.pg EC.wd) a vs := leaf_prog dd
  refine ⟨⟨vs, kv, dd2⟩, ?_, fun h1 h2 ⟨vs, k1, o, es, ep, e1, e2⟩ k => ⟨vs, k1, o, es, ep, k o e1, e2⟩⟩
  obtain ⟨o, es, ep, e, _⟩ := dd
  exact ⟨o, e⟩
section
variable {X : Cx} {pins : List (Addr × Obj)} {σ : List (Option V)} {H : Hp} {s : Shared} {a : Addr} {kvs : List (Leaf × V)}
theorem lf_at (hw : X.w = EC.wd) (I : Inv X pins σ H s) (e : H a = some (lfH a kvs)) : ∃ vs, KV kvs vs ∧ s.heap.DictOf (leafKind X.prog X.w) a vs := by
  have q := I.hok a _ e
  obtain ⟨⟨vs, kv, dd⟩, _⟩ := (show (∃ vs, KV kvs vs ∧ s.heap.DictOf (leafKind EC.pg EC.wd) a vs) ∧ _ from q)
  rw [hw]
  exact ⟨vs, kv, leaf_prog dd⟩
def tLNew : TE := fun _ H Q => ∀ p, H p = none → (p == sysModules) = false → Q (.ref p) (upd H p (lfH p []))
theorem pe_lnew {pos : Pos} (hw : X.w = EC.wd) : PE X (.Dict [] [] pos) tLNew :=
  ⟨fun pins s σ H Q I h =>
  wpAny_Dict_empty ⟨.ref s.heap.objs.size, _, I.laid (a := s.heap.objs.size) (o := lfH s.heap.objs.size []) (t' := s.toks) (fun _ _ q => Heap.get?_push_of_some _ q) (Nat.le_refl _) (lfH_ok (P := X.prog) hw .nil (Heap.DictOf.new s.heap)), rfl, h _ (I.hok.fresh (Nat.le_refl _)) (beq_eq_false_iff_ne.mpr (Ne.symm (Nat.ne_of_lt I.big)))⟩⟩
def tLGet2 (td ty tx : TE) : TE := fun σ H Q => td σ H fun x H1 => ∃ a kvs1, x = .ref a ∧ H1 a = some (lfH a kvs1) ∧ ty σ H1 fun y H2 => tx σ H2 fun z H3 => ∃ kvs kk, H3 a = some (lfH a kvs) ∧ (a == sysModules) = false ∧ (∀ u, RelV y u → Leaf.isOf kk u = true) ∧ Q ((valV kvs kk).getD z) H3
theorem pe_lget2 {o e f : Expr} {td ty tx : TE} {apos cpos : Pos} (hw : X.w = EC.wd) (ho : PE X o td) (he : PE X e ty) (hf : PE X f tx) (m : M2 X o "get" apos e f cpos) : PE X (.Call (.Attribute o "get" apos) [e, f] [] cpos) (tLGet2 td ty tx) := by
  refine ⟨fun pins s σ H Q I h => ?_⟩
  refine wpAny_Call_method m.base m.few m.line PySem.F.plainAttrs_dict PySem.F.slot_dict_get PySem.F.type_dict_get (thn (ho.run pins s σ H _ I h) fun u s1 ⟨x, H1, I1, rx, a, kvs1, ex, d, q1⟩ => ?_)
  subst ex
  obtain rfl : u = Value.ref a := rx
  obtain ⟨vs1, _, dd1⟩ := lf_at hw I1 d
  obtain ⟨o1, es1, ep1, g1, g2, _⟩ := id dd1
  refine ⟨dd1.typeIs, fun b q => ?_, ?_⟩
  · cases q
    exact ⟨o1, g1, g2.2.1⟩
  rw [m.trees]
  refine Calls.callWith_builtin rfl (Calls.evalArgs_plain (Calls.spliced_cons (thn (he.run pins s1 σ H1 _ I1 q1) fun iv s2 ⟨y, H2, I2, ry, q2⟩ =>
    Calls.spliced_cons (thn (hf.run pins s2 σ H2 _ I2 q2) fun fv s3 ⟨z, H3, I3, rz, kvs, kk, e3, hs, hk, q3⟩ => Calls.spliced_nil ?_))))
  obtain ⟨vs, rel, dd⟩ := lf_at hw I3 e3
  exact call_meetsIn PySem.F.slot_dict_get dd.typeIs PySem.F.entry_dict_get (PySem.F.args_dict_get_3 _ _ _) (meets_dict_get_default (leafKind X.prog X.w) a (hk _ ry) hs fv) ⟨_, dd.mapOf, (valV kvs kk).getD z, H3, I3.tok _, (rel.val kk).getD rz, q3⟩
def sLPut (td ty tv : TE) : TS := fun D σ H => tv σ H fun v H1 => td σ H1 fun x H2 => ty σ H2 fun y H3 => ∃ a kvs kk, x = .ref a ∧ H3 a = some (lfH a kvs) ∧ kvs.length ≤ sizeLine ∧ (∀ u, RelV y u → Leaf.isOf kk u = true) ∧ D.nx σ (upd H3 a (lfH a (putK kvs kk v)))
theorem ps_lput {o i value : Expr} {td ty tv : TE} {pos pos' : Pos} (hw : X.w = EC.wd) (ho : PE X o td) (hi : PE X i ty) (hv : PE X value tv) (hs : swapsWith value (some (.Subscript o i pos')) pos.line X.env = pure false) :
    PS X (.Assign [.Subscript o i pos'] value pos) (sLPut td ty tv) := by
  refine ⟨fun pins s σ H D I h => ?_⟩
  refine wpAny_Assign_Subscript (thn (hv.run pins s σ H _ I h) fun r s1 ⟨v, H1, I1, rv, q1⟩ => thn (ho.run pins s1 σ H1 _ I1 q1) fun u s2 ⟨x, H2, I2, rx, q2⟩ => thn (hi.run pins s2 σ H2 _ I2 q2) fun iv s3 ⟨y, H3, I3, ry, a, kvs, kk, ex, e3, hz, hk, q3⟩ => ?_) hs
  subst ex
  obtain rfl : u = Value.ref a := rx
  obtain ⟨vs, rel, dd⟩ := lf_at hw I3 e3
  have hz' : vs.length ≤ sizeLine := by rw [← rel.length]; exact hz
  refine wpAny_setItem_pairs (hsz := hz') (hk _ ry) dd fun h' dd' sb => ⟨σ, _, ?_, q3⟩
  have he : ∃ q, h'.get? a = some q := let ⟨q, _, _, hq, _⟩ := dd'; ⟨q, hq⟩
  exact d_write I3 (by rw [e3]; exact True.intro) sb he (lfH_ok hw (rel.put kk rv) dd')
end
/-! the rules -/
section
variable {R : Type} {F : Fc} {tmp : Tmp} {s : State} {m : Res R} {K : Rs R} {N : Rn R} {Rt : Rr R} {td ty tv tx : TE}
theorem rd_lnew (k : K (.own (.lf [])) s m) : RD F tmp s tLNew m K := fun σ H Q hh nf eo q => fun p np hs => by
  obtain ⟨G, ω, h⟩ := hh
  exact q _ s _ _ k ⟨G, _, h.newO np ⟨p, [], rfl, by simp, upd_same, ⟨hs, Nat.zero_le _⟩, rfl⟩⟩
theorem Holds.atLf {i : Nat} {l : List (D × D)} {σ : L2.St} {H : Hp} (h : Holds F tmp s σ H) (hi : s[i]? = some (some (.lf l))) : ∃ a kvs, σ[i]? = some (some (.ref a)) ∧ H a = some (lfH a kvs) ∧ (a == sysModules) = false ∧ kvs.length ≤ sizeLine := by
  obtain ⟨G, ω, h⟩ := h
  obtain ⟨v, e1, a, kvs, e2, _, ha, g, _⟩ := h.sl i _ hi
  subst e2
  exact ⟨a, kvs, e1, ha, g⟩
theorem rd_lget2 (h : RD F tmp s td m (fun tm1 s1 m1 => ∃ i, tm1 = .ali i ∧ (∃ l0, s1[i]? = some (some (.lf l0))) ∧ ∀ x, RD F ((x, .ali i) :: tmp) s1 ty m1 (fun tm2 s2 m2 => ∀ y, RD F ((y, tm2) :: (x, .ali i) :: tmp) s2 tx m2 (fun tm3 s3 m3 => ∃ l b dz k, s3[i]? = some (some (.lf l)) ∧ valS s3 tm2 = some b ∧ tm3 = .own (.f dz) ∧ m3 = ob (lget2D l b dz) k ∧ ∀ c, K (.own (.f c)) s3 (k c))))) : RD F tmp s (tLGet2 td ty tx) m K := fun σ H Q hh nf eo q =>
  h σ H _ hh nf eo fun tm1 s1 x H1 ⟨i, et1, ⟨l0, e0⟩, h2⟩ h1 => by
    subst et1
    have hx1 : σ[i]? = some (some x) := by obtain ⟨G, ω, h3⟩ := h1; exact h3.tm.1
    obtain ⟨a0, kvs0, c1, c2, c3, _⟩ := Holds.atLf h1 e0
    rw [hx1] at c1; cases c1
    refine ⟨a0, kvs0, rfl, c2, h2 _ σ H1 _ h1 nf eo fun tm2 s2 y H2 h2'' h3' => h2'' y σ H2 _ h3' nf eo fun tm3 s3 z H3 ⟨l, b, dz, k, hi3, eb, et, em, hk⟩ h3 => ?_⟩
    obtain ⟨c, ec, em'⟩ := ob_cases (by rw [← em]; exact nf)
    subst et
    obtain ⟨a1, kvs1, d1, d2, d3, d4⟩ := Holds.atLf h3 hi3
    rw [hx1] at d1; cases d1
    obtain ⟨G, ω, h3⟩ := h3
    have rb := h3.repC h3.tm.2.1 eb
    have rz : Rep G dz z := h3.tm.1
    obtain ⟨v5, f1, a5, kvs5, f2, f3, f4, f5, f6⟩ := h3.sl i _ hi3
    subst f2
    rw [hx1] at f1; cases f1
    unfold lget2D at ec
    split at ec
    case isFalse => cases ec
    rename_i ok
    cases ec
    obtain ⟨kk, ekk⟩ := Option.isSome_iff_exists.mp ok
    refine ⟨kvs5, kk, f4, d3, fun u ru => lf_is ekk (rb.toR h3.gH) u ru, ?_⟩
    rcases repL_find ekk f6 with ⟨w1, w2⟩ | ⟨c', v, w1, w2, w3⟩
    · rw [w2]
      rw [w1] at em'
      exact q _ s3 z H3 (by rw [em, em']; exact hk _) ⟨G, ω, h3.pop.pop.pop.pushF rz⟩
    · rw [w2]
      rw [w1] at em'
      exact q _ s3 v H3 (by rw [em, em']; exact hk _) ⟨G, ω, h3.pop.pop.pop.pushF w3⟩
theorem rs_lput (h : RD F tmp s tv m (fun tm1 s1 m1 => ∃ c, tm1 = .own (.f c) ∧ ∀ v, RD F ((v, .own (.f c)) :: tmp) s1 td m1 (fun tm2 s2 m2 => ∃ i, tm2 = .ali i ∧ ∀ x, RD F ((x, .ali i) :: (v, .own (.f c)) :: tmp) s2 ty m2 (fun tm3 s3 m3 => ∃ d l k, tm3 = .own (.f d) ∧ s3[i]? = some (some (.lf l)) ∧ m3 = ob (lputD l d c) k ∧ ∀ l', N (s3.set i (some (.lf l'))) (k l'))))) :
    RS F tmp s m (sLPut td ty tv) N Rt := fun σ H De hh nf eo nx rt =>
  h σ H _ hh nf eo fun tm1 s1 v H1 ⟨c, e1, h2⟩ h1 => by
    subst e1
    refine h2 v σ H1 _ h1 nf eo fun tm2 s2 x H2 ⟨i, e2, h4⟩ h3 => ?_
    subst e2
    refine h4 x σ H2 _ h3 nf eo fun tm3 s3 y H3 ⟨d, l, k, e3, hi, em, hk⟩ h5 => ?_
    subst e3
    obtain ⟨c', ec, em'⟩ := ob_cases (by rw [← em]; exact nf)
    unfold lputD at ec
    split at ec
    case isFalse => cases ec
    rename_i ok
    cases ec
    obtain ⟨kk, ekk⟩ := Option.isSome_iff_exists.mp ok.1
    have hx : σ[i]? = some (some x) := by obtain ⟨G, ω, h5⟩ := h5; exact h5.tm.2.1
    have h6 : Holds F ((y, .own (.f d)) :: (v, .own (.f c)) :: tmp) s3 σ H3 := Holds.dropMid (ex := [(x, .ali i)]) [(y, .own (.f d))] h5
    obtain ⟨G, ω, h⟩ := h6
    have ry : Rep G d y := h.tm.1
    have rx : Rep G c v := h.tm.2.1
    obtain ⟨v', e1, a, kvs, e2, hw, ha, g, r⟩ := h.sl i _ hi
    subst e2
    rw [hx] at e1; cases e1
    refine ⟨a, kvs, kk, rfl, ha, g.2, fun u ru => lf_is ekk ry u ru, nx _ σ _ (by rw [em, em']; exact hk _) ?_⟩
    refine ⟨G, ω, (h.pop.pop).wr hw _ (by simp) (fun j u e => ?_) (Tms.wrO hw tmp (fun j hj => by simp [pre]) h.tm.2.2)⟩
    have hil : i < s3.length := (List.getElem?_eq_some_iff.mp hi).1
    by_cases hj : i = j
    · subst hj
      rw [List.getElem?_set_self hil] at e
      cases e
      refine ⟨_, hx, a, _, rfl, hw, upd_same, ⟨g.1, ?_⟩, repL_store ekk rx r⟩
      have := length_putK kvs kk v
      have := repL_len r
      have := ok.2
      rw [sizeLine_eq]; omega
    · rw [List.getElem?_set_ne hj] at e
      obtain ⟨v', b1, b2⟩ := h.sl j u e
      exact ⟨v', b1, Own.wrO hw (by simp [pre]; exact fun z => hj z.symm) b2⟩
end
end VL

set_option maxHeartbeats 0
namespace SSN
end SSN
namespace W
open PySem PySem.Spec PyProof.Rows L2 VL
def topS (i : Nat) : Stmt := PySem.Challenge.pw_anydelay_k59_whole_clashes_otherwise.main.body.getD i (.Pass ⟨0, 0, 0, 0⟩)
abbrev q_abcdefghijklmnopqrstuvwxyz : List Nat := [97, 98, 99, 100, 101, 102, 103, 104, 105, 106, 107, 108, 109, 110, 111, 112, 113, 114, 115, 116, 117, 118, 119, 120, 121, 122]
theorem e_q_abcdefghijklmnopqrstuvwxyz : (PySem.Str.ofString "abcdefghijklmnopqrstuvwxyz") = mkS q_abcdefghijklmnopqrstuvwxyz := by decide +kernel
abbrev q_abcdefg : List Nat := [97, 98, 99, 100, 101, 102, 103]
theorem e_q_abcdefg : (PySem.Str.ofString "abcdefg") = mkS q_abcdefg := by decide +kernel
abbrev q_placeof : List Nat := [112, 108, 97, 99, 101, 111, 102]
theorem e_q_placeof : (PySem.Str.ofString "placeof") = mkS q_placeof := by decide +kernel
abbrev q_zyxwvut : List Nat := [122, 121, 120, 119, 118, 117, 116]
theorem e_q_zyxwvut : (PySem.Str.ofString "zyxwvut") = mkS q_zyxwvut := by decide +kernel
abbrev q_kjqrshn : List Nat := [107, 106, 113, 114, 115, 104, 110]
theorem e_q_kjqrshn : (PySem.Str.ofString "kjqrshn") = mkS q_kjqrshn := by decide +kernel
abbrev qx_ : List Nat := []
theorem e_qx_ : (PySem.Str.ofString "") = mkS qx_ := by decide +kernel
abbrev q_10 : List Nat := [49, 48]
theorem e_q_10 : (PySem.Str.ofString "10") = mkS q_10 := by decide +kernel
abbrev q_01 : List Nat := [48, 49]
theorem e_q_01 : (PySem.Str.ofString "01") = mkS q_01 := by decide +kernel
def m__law_pool (x_script : D) (x_k : D) : Res (List D) :=
  rb (ob (lenD x_script) fun t6 => ob (ltD x_k t6) fun t5 => if t5 = true then ob (ixD x_script x_k) fun t7 => .ok t7 else .ok (.int 0) : Res D) fun z4 => (ob (powD (.int 10) (.int 18)) fun t9 => ob (geD z4 t9) fun t8 => if t8 = true then ob (powD (.int 10) (.int 18)) fun t11 => ob (subD z4 t11) fun t10 => .ok ([t10, (.int 1), (.int 0)]) else ob (mulD (.int 37) x_k) fun t12 => .ok ([z4, (.int 0), t12]))
abbrev s__law_pool : Stmt := topS 18
theorem sc__law_pool : FnScope ["script", "k", "cell"] ["script", "k"] (defScope s__law_pool) := ⟨rfl, rfl, rfl, by decide +kernel, rfl, by decide +kernel, by decide +kernel⟩
def m__law_take (x_pool : List D) (x_many : D) : Res (D × (List D)) :=
  (ob (ixD (.lst x_pool) (.int 1)) fun t2 => ob (eqD t2 (.int 1)) fun t1 => if t1 = true then ob (ixD (.lst x_pool) (.int 0)) fun t4 => ob (modD t4 x_many) fun t3 => ob (ixD (.lst x_pool) (.int 0)) fun t7 => ob (fdivD t7 x_many) fun t6 => ob (setL x_pool (.int 0) t6) fun t5 => .ok (t3, t5) else ob (ixD (.lst x_pool) (.int 2)) fun t10 => ob (addD t10 (.int 1)) fun t9 => ob (setL x_pool (.int 2) t9) fun t8 => ob (ixD (.lst t8) (.int 2)) fun t11 => ob (ixD (.lst t8) (.int 0)) fun t15 => ob (modD t15 (.int 9999999607)) fun t14 => ob (addD t14 (.int 991)) fun t13 => ob (mulD (.int 29) t11) fun t17 => ob (addD t17 (.int 59)) fun t16 => ob (mulD t13 t16) fun t12 => ob (mulD (.int 3517) t11) fun t20 => ob (mulD t20 t11) fun t19 => ob (addD t12 t19) fun t18 => ob (mulD t18 t18) fun t22 => ob (modD t22 (.int 99999999647)) fun t21 => ob (addD t21 (.int 41)) fun t27 => ob (mulD t21 t27) fun t26 => ob (modD t26 (.int 99999999923)) fun t25 => ob (fdivD t25 (.int 89)) fun t24 => ob (modD t24 x_many) fun t23 => .ok (t23, t8))
abbrev s__law_take : Stmt := topS 19
theorem sc__law_take : FnScope ["pool", "many", "step", "mark", "found"] ["pool", "many"] (defScope s__law_take) := ⟨rfl, rfl, rfl, by decide +kernel, rfl, by decide +kernel, by decide +kernel⟩
def m__law_names (x_pool : List D) (x_many : D) : Res ((List D) × (List D)) :=
  rb (m__law_take x_pool (.int 4)) fun r2 => ob (ixD (.lst [(.str q_abcdefg), (.str q_placeof), (.str q_zyxwvut), (.str q_kjqrshn)]) r2.1) fun t1 => ob (rngD (.int 0) x_many) fun ds5 => rb (forN (Z := ((List D) × (List D))) ds5 (r2.2, []) fun z4 d3 => rb (m__law_take z4.1 (.int 8)) fun r9 => ob (asI r9.1) fun t8 => ob (slS none (some t8) t1) fun t7 => rb (m__law_take r9.2 (.int 26)) fun r11 => ob (ixD (.str q_abcdefghijklmnopqrstuvwxyz) r11.1) fun t10 => ob (addD t7 t10) fun t6 => rb (m__law_take r11.2 (.int 3)) fun r12 => rb (ob (eqD r12.1 (.int 1)) fun t25 => if t25 = true then ob (asStr (.str qx_)) fun t27 => rb (m__law_take r12.2 (.int 8)) fun r33 => ob (addD (.int 1) r33.1) fun t32 => ob (rngD (.int 0) t32) fun ds31 => rb (fmS ds31 r33.2 fun z29 d28 => rb (m__law_take z29 (.int 26)) fun r35 => ob (ixD (.str q_abcdefghijklmnopqrstuvwxyz) r35.1) fun t34 => .ok (some t34, r35.2)) fun p30 => ob (joinD (.str qx_) (.lst p30.1)) fun t26 => .ok (t26, p30.2) else .ok (t6, r12.2) : Res (D × (List D))) fun z24 => rb (ob (eqD r12.1 (.int 2)) fun t58 => rb (if t58 = true then ob (neD (.lst z4.2) (.lst [])) fun t59 => .ok (t59, ()) else .ok (false, ()) : Res (Bool × Unit)) fun p57 => if p57.1 = true then ob (negD (.int 1)) fun t63 => ob (ixD (.lst z4.2) t63) fun t62 => ob (lenD t62) fun t61 => rb (m__law_take z24.2 t61) fun r60 => ob (negD (.int 1)) fun t68 => ob (ixD (.lst z4.2) t68) fun t67 => ob (asI r60.1) fun t69 => ob (slS none (some t69) t67) fun t66 => rb (m__law_take r60.2 (.int 26)) fun r71 => ob (ixD (.str q_abcdefghijklmnopqrstuvwxyz) r71.1) fun t70 => ob (addD t66 t70) fun t65 => ob (negD (.int 1)) fun t74 => ob (ixD (.lst z4.2) t74) fun t73 => ob (addD r60.1 (.int 1)) fun t76 => ob (asI t76) fun t75 => ob (slS (some t75) none t73) fun t72 => ob (addD t65 t72) fun t64 => .ok (r71.2, t64) else .ok (z24.2, z24.1) : Res ((List D) × D)) fun z56 => rb (whileN (Z := (D × D)) FU (z56.2, (.int 0)) (fun z77 => ob (inD z77.1 (.lst z4.2)) fun t78 => .ok t78) fun z77 => ob (ixD (.str q_abcdefghijklmnopqrstuvwxyz) z77.2) fun t80 => ob (mulS t80 (.int 8)) fun t79 => ob (addD z77.2 (.int 1)) fun t81 => .ok (t79, t81)) fun z77 => ob (apL z4.2 z77.1) fun t82 => .ok (z56.1, t82)) fun z4 => .ok (z4.2, z4.1)
abbrev s__law_names : Stmt := topS 20
theorem sc__law_names : FnScope ["pool", "many", "letters", "stem", "found", "k", "name", "way", "turn", "at"] ["pool", "many"] (defScope s__law_names) := ⟨rfl, rfl, rfl, by decide +kernel, rfl, by decide +kernel, by decide +kernel⟩
theorem blk__law_names_0 : BlkOk ["pool", "many", "letters", "stem", "found", "k", "name", "way", "turn", "at"] (defScope s__law_names) { kind := PySem.ScopeKind.function, names := [ (PySem.Str.ofString ".0", PySem.NameKind.local), (PySem.Str.ofString "turn", PySem.NameKind.local), (PySem.Str.ofString "_law_take", PySem.NameKind.globalImplicit), (PySem.Str.ofString "letters", PySem.NameKind.free), (PySem.Str.ofString "pool", PySem.NameKind.free)], isGenerator := false, isCoroutine := false, more := [] : PySem.Scope } [("turn", 8)] := ⟨rfl, by decide +kernel, by decide +kernel, by decide +kernel, by decide +kernel⟩
def m__law_turned (x_signs : D) (x_at : D) : Res D :=
  ob (asI x_at) fun t4 => ob (slS none (some t4) x_signs) fun t3 => ob (ixD x_signs x_at) fun t7 => ob (intD t7) fun t6 => ob (ixD (.str q_10) t6) fun t5 => ob (addD t3 t5) fun t2 => ob (addD x_at (.int 1)) fun t10 => ob (asI t10) fun t9 => ob (slS (some t9) none x_signs) fun t8 => ob (addD t2 t8) fun t1 => .ok t1
abbrev s__law_turned : Stmt := topS 22
theorem sc__law_turned : FnScope ["signs", "at"] ["signs", "at"] (defScope s__law_turned) := ⟨rfl, rfl, rfl, by decide +kernel, rfl, by decide +kernel, by decide +kernel⟩
def m__law_order (x_pool : List D) (x_things : D) : Res ((List D) × (List D)) :=
  ob (listD x_things) fun t1 => rb (whileN (Z := ((List D) × (List D) × (List D))) FU ([], t1, x_pool) (fun z2 => ob (neD (.lst z2.2.1) (.lst [])) fun t3 => .ok t3) fun z2 => ob (lenD (.lst z2.2.1)) fun t7 => rb (m__law_take z2.2.2 t7) fun r6 => ob (popAtL z2.2.1 r6.1) fun t5 => ob (apL z2.1 t5.1) fun t4 => .ok (t4, t5.2, r6.2)) fun z2 => .ok (z2.1, z2.2.2)
abbrev s__law_order : Stmt := topS 21
theorem sc__law_order : FnScope ["pool", "things", "left", "found"] ["pool", "things"] (defScope s__law_order) := ⟨rfl, rfl, rfl, by decide +kernel, rfl, by decide +kernel, by decide +kernel⟩
def m__law_sheet (x_pool : List D) (x_most : D) : Res (D × (List D)) :=
  rb (m__law_take x_pool (.int 4)) fun r4 => rb (m__law_take r4.2 (.int 7)) fun r5 => rb (m__law_take r5.2 (.int 11)) fun r6 => rb (m__law_take r6.2 (.int 3)) fun r7 => ob (ixD (.lst [r4.1, r5.1, r6.1]) r7.1) fun t3 => ob (addD (.int 1) t3) fun t2 => rb (m__law_names r7.2 t2) fun r1 => ob (lenD (.lst r1.1)) fun t10 => ob (subD t10 (.int 7)) fun t9 => ob (maxD (.int 0) t9) fun t8 => ob (lenD (.lst r1.1)) fun t17 => ob (subD t17 (.int 1)) fun t16 => ob (minD (.int 4) t16) fun t15 => ob (subD t15 t8) fun t14 => ob (addD t14 (.int 1)) fun t13 => rb (m__law_take r1.2 t13) fun r12 => ob (addD t8 r12.1) fun t11 => ob (asStr (.str qx_)) fun t19 => ob (asLst (.lst r1.1)) fun ds23 => rb (fmS ds23 r12.2 fun z21 d20 => rb (m__law_take z21 (.int 2)) fun r25 => ob (ixD (.str q_01) r25.1) fun t24 => .ok (some t24, r25.2)) fun p22 => ob (joinD (.str qx_) (.lst p22.1)) fun t18 => rb (m__law_take p22.2 (.int 4)) fun r27 => ob (addD (.int 1) r27.1) fun t26 => rb (whileN (Z := ((List D) × (List D) × (List D))) FU (r27.2, [t18], []) (fun z28 => ob (lenD (.lst z28.2.2)) fun t30 => ob (lenD (.lst z28.2.1)) fun t31 => ob (ltD t30 t31) fun t29 => .ok t29) fun z28 => ob (asLst (.lst r1.1)) fun ds34 => rb (forN (Z := ((List D) × (List D) × (List D))) (enumD 0 ds34) (z28.1, [], z28.2.1) fun z33 d32 => ob (un2 d32) fun p35 => ob (lenD (.lst z28.2.2)) fun t38 => ob (ixD (.lst z33.2.2) t38) fun t37 => rb (m__law_turned t37 p35.1) fun r36 => ob (asLst (.lst z33.2.2)) fun ds41 => rb (fmR (enumD 0 ds41) fun d39 => ob (un2 d39) fun p42 => ob (eqD p42.2 r36) fun t43 => if t43 = true then .ok (some p42.1) else .ok none) fun ys40 => ob (eqD (.lst ys40) (.lst [])) fun t46 => ob (asB (.bl t46)) fun t44 => rb (if t44 = true then .ok (.bl true, z33.1) else rb (m__law_take z33.1 (.int 3)) fun r48 => ob (eqD r48.1 (.int 0)) fun t47 => .ok ((.bl t47), r48.2) : Res (D × (List D))) fun p45 => rb (ob (lenD (.lst z33.2.2)) fun t53 => ob (geD t53 x_most) fun t52 => if t52 = true then .ok (.bl false) else .ok p45.1 : Res D) fun z51 => (rb (m__law_take p45.2 (.int 4)) fun r56 => ob (ltD r56.1 t26) fun t55 => rb (if t55 = true then ob (asB z51) fun t58 => rb (if t58 = true then .ok (true, ()) else ob (neD (.lst ys40) (.lst [])) fun t59 => .ok (t59, ()) : Res (Bool × Unit)) fun p57 => .ok (p57.1, ()) else .ok (false, ()) : Res (Bool × Unit)) fun p54 => if p54.1 = true then rb (ob (asB z51) fun t65 => if t65 = true then ob (apL z33.2.2 r36) fun t66 => ob (lenD (.lst t66)) fun t68 => ob (subD t68 (.int 1)) fun t67 => .ok (t66, (.lst [t67])) else .ok (z33.2.2, (.lst ys40)) : Res ((List D) × D)) fun z64 => ob (lenD z64.2) fun t72 => rb (m__law_take r56.2 t72) fun r71 => ob (ixD z64.2 r71.1) fun t70 => ob (apL z33.2.1 (.tup [p35.2, t70])) fun t69 => .ok (r71.2, t69, z64.1) else .ok (r56.2, z33.2.1, z33.2.2))) fun z33 => rb (m__law_order z33.1 (.lst z33.2.1)) fun r74 => ob (apL z28.2.2 (.lst r74.1)) fun t73 => .ok (r74.2, z33.2.2, t73)) fun z28 => ob (lenD (.lst z28.2.2)) fun t76 => rb (m__law_take z28.1 (.int 2)) fun r78 => ob (lenD (.lst z28.2.2)) fun t82 => ob (subD (.int 41) t82) fun t81 => ob (minD (.int 6) t81) fun t80 => rb (m__law_take r78.2 t80) fun r79 => ob (mulD r78.1 r79.1) fun t77 => ob (addD t76 t77) fun t75 => rb (whileN (Z := ((List D) × (List D))) FU (z28.2.2, r79.2) (fun z83 => ob (lenD (.lst z83.1)) fun t85 => ob (ltD t85 t75) fun t84 => .ok t84) fun z83 => ob (asLst (.lst r1.1)) fun ds90 => rb (fmS ds90 z83.2 fun z88 d87 => rb (m__law_take z88 (.int 2)) fun r92 => ob (eqD r92.1 (.int 0)) fun t91 => if t91 = true then rb (m__law_take r92.2 t75) fun r93 => .ok (some (.tup [d87, r93.1]), r93.2) else .ok (none, r92.2)) fun p89 => ob (apL z83.1 (.lst p89.1)) fun t86 => .ok (t86, p89.2)) fun z83 => ob (asI t11) fun t95 => ob (slL none (some t95) (.lst r1.1)) fun t94 => ob (asI t11) fun t97 => ob (slL (some t97) none (.lst r1.1)) fun t96 => ob (ixD (.lst z28.2.1) (.int 0)) fun t98 => .ok ((.tup [(.lst t94), (.lst t96), t98, (.lst z83.1)]), z83.2)
abbrev s__law_sheet : Stmt := topS 23
theorem sc__law_sheet : FnScope ["pool", "most", "names", "low", "at", "rows", "nodes", "often", "total", "here", "k", "name", "signs", "alike", "new", "to", "one"] ["pool", "most"] (defScope s__law_sheet) := ⟨rfl, rfl, rfl, by decide +kernel, rfl, by decide +kernel, by decide +kernel⟩
theorem blk__law_sheet_0 : BlkOk ["pool", "most", "names", "low", "at", "rows", "nodes", "often", "total", "here", "k", "name", "signs", "alike", "new", "to", "one"] (defScope s__law_sheet) { kind := PySem.ScopeKind.function, names := [ (PySem.Str.ofString ".0", PySem.NameKind.local), (PySem.Str.ofString "name", PySem.NameKind.local), (PySem.Str.ofString "_law_take", PySem.NameKind.globalImplicit), (PySem.Str.ofString "pool", PySem.NameKind.free), (PySem.Str.ofString "total", PySem.NameKind.free)], isGenerator := false, isCoroutine := false, more := [] : PySem.Scope } [("name", 11)] := ⟨rfl, by decide +kernel, by decide +kernel, by decide +kernel, by decide +kernel⟩
theorem blk__law_sheet_1 : BlkOk ["pool", "most", "names", "low", "at", "rows", "nodes", "often", "total", "here", "k", "name", "signs", "alike", "new", "to", "one"] (defScope s__law_sheet) { kind := PySem.ScopeKind.function, names := [ (PySem.Str.ofString ".0", PySem.NameKind.local), (PySem.Str.ofString "to", PySem.NameKind.local), (PySem.Str.ofString "one", PySem.NameKind.local), (PySem.Str.ofString "signs", PySem.NameKind.free)], isGenerator := false, isCoroutine := false, more := [] : PySem.Scope } [("to", 15), ("one", 16)] := ⟨rfl, by decide +kernel, by decide +kernel, by decide +kernel, by decide +kernel⟩
theorem blk__law_sheet_2 : BlkOk ["pool", "most", "names", "low", "at", "rows", "nodes", "often", "total", "here", "k", "name", "signs", "alike", "new", "to", "one"] (defScope s__law_sheet) { kind := PySem.ScopeKind.function, names := [ (PySem.Str.ofString ".0", PySem.NameKind.local), (PySem.Str.ofString "name", PySem.NameKind.local), (PySem.Str.ofString "_law_take", PySem.NameKind.globalImplicit), (PySem.Str.ofString "pool", PySem.NameKind.free)], isGenerator := false, isCoroutine := false, more := [] : PySem.Scope } [("name", 11)] := ⟨rfl, by decide +kernel, by decide +kernel, by decide +kernel, by decide +kernel⟩
def m_behind_turn (x_names : D) (x_signs : D) (x_name : D) : Res D :=
  ob (asLst x_names) fun t2 => ob (indexD x_names x_name) fun t1 => ob (asI t1) fun t6 => ob (slS none (some t6) x_signs) fun t5 => ob (ixD x_signs t1) fun t10 => ob (intD t10) fun t9 => ob (subD (.int 1) t9) fun t8 => ob (strI t8) fun t7 => ob (addD t5 t7) fun t4 => ob (addD t1 (.int 1)) fun t13 => ob (asI t13) fun t12 => ob (slS (some t12) none x_signs) fun t11 => ob (addD t4 t11) fun t3 => .ok t3
abbrev s_behind_turn : Stmt := topS 9
theorem sc_behind_turn : FnScope ["names", "signs", "name", "at"] ["names", "signs", "name"] (defScope s_behind_turn) := ⟨rfl, rfl, rfl, by decide +kernel, rfl, by decide +kernel, by decide +kernel⟩
def m_rows_of (x_names : D) (x_first : D) (x_nodes : D) : Res D :=
  (if (keyK (.int 0)).isSome = true then rb (whileF (Z := ((List D) × (List (D × D)))) (R := D) FU ([(.int 0)], [((.int 0), x_first)]) (fun z1 => ob (neD (.lst z1.1) (.lst [])) fun t2 => .ok t2) fun z1 => ob (popL z1.1) fun t3 => ob (ixD x_nodes t3.1) fun t7 => ob (asLst t7) fun ds6 => rb (forL (Z := ((List (D × D)) × (List D))) (R := D) ds6 (z1.2, t3.2) fun z5 d4 => ob (un2 d4) fun p8 => ob (dgetD (.dct false z5.1) t3.1) fun t10 => rb (m_behind_turn x_names t10 p8.1) fun r9 => (ob (dinD p8.2 (.dct false z5.1)) fun t11 => if (!t11) = true then ob (dputD false z5.1 p8.2 r9) fun t12 => ob (apL z5.2 p8.2) fun t13 => .ok (.nx (t12, t13)) else (ob (dgetD (.dct false z5.1) p8.2) fun t15 => ob (neD t15 r9) fun t14 => if t14 = true then .ok (.rt .non) else .ok (.nx (z5.1, z5.2))))) fun o => Fl.on o (fun z5 => .ok (.nx (z5.2, z5.1))) (fun r => .ok (.rt r))) fun o => Fl.on o (fun z1 => .ok (.dct false z1.2)) (fun r => .ok r) else .fail)
abbrev s_rows_of : Stmt := topS 10
theorem sc_rows_of : FnScope ["names", "first", "nodes", "found", "waiting", "here", "name", "to", "signs"] ["names", "first", "nodes"] (defScope s_rows_of) := ⟨rfl, rfl, rfl, by decide +kernel, rfl, by decide +kernel, by decide +kernel⟩
def m_signs_of (x_sheet : D) : Res (List D) :=
  ob (un4 x_sheet) fun p1 => ob (catD p1.1 p1.2.1) fun t3 => rb (m_rows_of (.lst t3) p1.2.2.1 p1.2.2.2) fun r2 => ob (lenD p1.2.2.2) fun t7 => ob (rngD (.int 0) t7) fun ds6 => rb (fmR ds6 fun d4 => ob (asDc r2) fun t9 => ob (dget1D r2 d4) fun t8 => .ok (some t8)) fun ys5 => .ok ys5
abbrev s_signs_of : Stmt := topS 12
theorem sc_signs_of : FnScope ["sheet", "found", "inputs", "outputs", "first", "nodes", "number"] ["sheet"] (defScope s_signs_of) := ⟨rfl, rfl, rfl, by decide +kernel, rfl, by decide +kernel, by decide +kernel⟩
theorem blk_signs_of_0 : BlkOk ["sheet", "found", "inputs", "outputs", "first", "nodes", "number"] (defScope s_signs_of) { kind := PySem.ScopeKind.function, names := [ (PySem.Str.ofString ".0", PySem.NameKind.local), (PySem.Str.ofString "number", PySem.NameKind.local), (PySem.Str.ofString "found", PySem.NameKind.free)], isGenerator := false, isCoroutine := false, more := [] : PySem.Scope } [("number", 6)] := ⟨rfl, by decide +kernel, by decide +kernel, by decide +kernel, by decide +kernel⟩
def m_wanted_at (x_sheet : D) (x_node : D) : Res (List D) :=
  ob (ixD x_sheet (.int 3)) fun t5 => ob (ixD t5 x_node) fun t4 => ob (asLst t4) fun ds3 => rb (fmR ds3 fun d1 => ob (un2 d1) fun p6 => .ok (some p6.1)) fun ys2 => ob (ixD x_sheet (.int 1)) fun t10 => ob (asLst t10) fun ds9 => rb (fmR ds9 fun d7 => ob (inD d7 (.lst ys2)) fun t11 => if t11 = true then .ok (some d7) else .ok none) fun ys8 => .ok ys8
abbrev s_wanted_at : Stmt := topS 14
theorem sc_wanted_at : FnScope ["sheet", "node", "here", "name", "to"] ["sheet", "node"] (defScope s_wanted_at) := ⟨rfl, rfl, rfl, by decide +kernel, rfl, by decide +kernel, by decide +kernel⟩
theorem blk_wanted_at_0 : BlkOk ["sheet", "node", "here", "name", "to"] (defScope s_wanted_at) { kind := PySem.ScopeKind.function, names := [ (PySem.Str.ofString ".0", PySem.NameKind.local), (PySem.Str.ofString "name", PySem.NameKind.local), (PySem.Str.ofString "here", PySem.NameKind.free)], isGenerator := false, isCoroutine := false, more := [] : PySem.Scope } [("name", 3)] := ⟨rfl, by decide +kernel, by decide +kernel, by decide +kernel, by decide +kernel⟩
theorem blk_wanted_at_1 : BlkOk ["sheet", "node", "here", "name", "to"] (defScope s_wanted_at) { kind := PySem.ScopeKind.function, names := [ (PySem.Str.ofString ".0", PySem.NameKind.local), (PySem.Str.ofString "name", PySem.NameKind.local), (PySem.Str.ofString "to", PySem.NameKind.local)], isGenerator := false, isCoroutine := false, more := [] : PySem.Scope } [("name", 3), ("to", 4)] := ⟨rfl, by decide +kernel, by decide +kernel, by decide +kernel, by decide +kernel⟩
def m_clash_pairs (x_sheet : D) : Res (List D) :=
  rb (m_signs_of x_sheet) fun r1 => ob (lenD (.lst r1)) fun t5 => ob (rngD (.int 0) t5) fun ds4 => rb (forN (Z := (List D)) ds4 [] fun z3 d2 => ob (addD d2 (.int 1)) fun t9 => ob (lenD (.lst r1)) fun t10 => ob (rngD t9 t10) fun ds8 => rb (forN (Z := (List D)) ds8 z3 fun z7 d6 => (ob (ixD (.lst r1) d2) fun t13 => ob (nnD t13 .non) fun t12 => rb (if t12 = true then ob (ixD (.lst r1) d2) fun t15 => ob (ixD (.lst r1) d6) fun t16 => ob (eqD t15 t16) fun t14 => .ok (t14, ()) else .ok (false, ()) : Res (Bool × Unit)) fun p11 => if p11.1 = true then (rb (m_wanted_at x_sheet d2) fun r18 => rb (m_wanted_at x_sheet d6) fun r19 => ob (neD (.lst r18) (.lst r19)) fun t17 => if t17 = true then ob (apL z7 (.tup [d2, d6])) fun t20 => .ok t20 else .ok z7) else .ok z7)) fun z7 => .ok z7) fun z3 => .ok z3
abbrev s_clash_pairs : Stmt := topS 15
theorem sc_clash_pairs : FnScope ["sheet", "signs", "found", "node", "other"] ["sheet"] (defScope s_clash_pairs) := ⟨rfl, rfl, rfl, by decide +kernel, rfl, by decide +kernel, by decide +kernel⟩
def m__law_anew (x_pool : List D) (x_sheet : D) : Res (D × (List D)) :=
  ob (ixD x_sheet (.int 3)) fun t5 => ob (lenD t5) fun t4 => ob (rngD (.int 1) t4) fun t3 => rb (m__law_order x_pool (.lst t3)) fun r2 => ob (catD (.lst [(.int 0)]) (.lst r2.1)) fun t1 => ob (ixD x_sheet (.int 3)) fun t9 => ob (asLst t9) fun ds8 => rb (fmR ds8 fun d6 => .ok (some (.lst []))) fun ys7 => ob (asLst (.lst t1)) fun ds12 => rb (forN (Z := (List D)) (enumD 0 ds12) ys7 fun z11 d10 => ob (un2 d10) fun p13 => ob (ixD x_sheet (.int 3)) fun t19 => ob (ixD t19 p13.1) fun t18 => ob (asLst t18) fun ds17 => rb (fmR ds17 fun d15 => ob (un2 d15) fun p20 => ob (ixD (.lst t1) p20.2) fun t21 => .ok (some (.tup [p20.1, t21]))) fun ys16 => ob (setL z11 p13.2 (.lst ys16)) fun t14 => .ok t14) fun z11 => ob (ixD x_sheet (.int 0)) fun t22 => ob (ixD x_sheet (.int 1)) fun t23 => ob (ixD x_sheet (.int 2)) fun t24 => .ok ((.tup [(.tup [t22, t23, t24, (.lst z11)]), (.lst t1)]), r2.2)
abbrev s__law_anew : Stmt := topS 25
theorem sc__law_anew : FnScope ["pool", "sheet", "numbers", "nodes", "old", "new", "node", "name", "to"] ["pool", "sheet"] (defScope s__law_anew) := ⟨rfl, rfl, rfl, by decide +kernel, rfl, by decide +kernel, by decide +kernel⟩
theorem blk__law_anew_0 : BlkOk ["pool", "sheet", "numbers", "nodes", "old", "new", "node", "name", "to"] (defScope s__law_anew) { kind := PySem.ScopeKind.function, names := [ (PySem.Str.ofString ".0", PySem.NameKind.local), (PySem.Str.ofString "name", PySem.NameKind.local), (PySem.Str.ofString "to", PySem.NameKind.local), (PySem.Str.ofString "numbers", PySem.NameKind.free)], isGenerator := false, isCoroutine := false, more := [] : PySem.Scope } [("name", 7), ("to", 8)] := ⟨rfl, by decide +kernel, by decide +kernel, by decide +kernel, by decide +kernel⟩
theorem blk__law_anew_1 : BlkOk ["pool", "sheet", "numbers", "nodes", "old", "new", "node", "name", "to"] (defScope s__law_anew) { kind := PySem.ScopeKind.function, names := [(PySem.Str.ofString ".0", PySem.NameKind.local), (PySem.Str.ofString "node", PySem.NameKind.local)], isGenerator := false, isCoroutine := false, more := [] : PySem.Scope } [("node", 6)] := ⟨rfl, by decide +kernel, by decide +kernel, by decide +kernel, by decide +kernel⟩
def m__law_named (x_sheet : D) (x_names : D) : Res D :=
  ob (ixD x_sheet (.int 0)) fun t2 => ob (ixD x_sheet (.int 1)) fun t3 => ob (catD t2 t3) fun t1 => ob (dzipLD (.lst t1) x_names) fun t4 => ob (ixD x_sheet (.int 3)) fun t8 => ob (asLst t8) fun ds7 => rb (fmR ds7 fun d5 => ob (asLst d5) fun ds11 => rb (fmR ds11 fun d9 => ob (un2 d9) fun p12 => ob (dgetD (.dct false t4) p12.1) fun t13 => .ok (some (.tup [t13, p12.2]))) fun ys10 => .ok (some (.lst ys10))) fun ys6 => ob (ixD x_sheet (.int 0)) fun t17 => ob (lenD t17) fun t16 => ob (asI t16) fun t15 => ob (slL none (some t15) x_names) fun t14 => ob (ixD x_sheet (.int 0)) fun t21 => ob (lenD t21) fun t20 => ob (asI t20) fun t19 => ob (slL (some t19) none x_names) fun t18 => ob (ixD x_sheet (.int 2)) fun t22 => .ok (.tup [(.lst t14), (.lst t18), t22, (.lst ys6)])
abbrev s__law_named : Stmt := topS 27
theorem sc__law_named : FnScope ["sheet", "names", "wires", "lead", "nodes", "node", "name", "to"] ["sheet", "names"] (defScope s__law_named) := ⟨rfl, rfl, rfl, by decide +kernel, rfl, by decide +kernel, by decide +kernel⟩
theorem blk__law_named_0 : BlkOk ["sheet", "names", "wires", "lead", "nodes", "node", "name", "to"] (defScope s__law_named) { kind := PySem.ScopeKind.function, names := [ (PySem.Str.ofString ".0", PySem.NameKind.local), (PySem.Str.ofString "node", PySem.NameKind.local), (PySem.Str.ofString "lead", PySem.NameKind.free)], isGenerator := false, isCoroutine := false, more := [] : PySem.Scope } [("node", 5)] := ⟨rfl, by decide +kernel, by decide +kernel, by decide +kernel, by decide +kernel⟩
theorem blk__law_named_1 : BlkOk ["sheet", "names", "wires", "lead", "nodes", "node", "name", "to"] ({ kind := PySem.ScopeKind.function, names := [ (PySem.Str.ofString ".0", PySem.NameKind.local), (PySem.Str.ofString "node", PySem.NameKind.local), (PySem.Str.ofString "lead", PySem.NameKind.cell)], isGenerator := false, isCoroutine := false, more := [] : PySem.Scope } : Scope) { kind := PySem.ScopeKind.function, names := [ (PySem.Str.ofString ".0", PySem.NameKind.local), (PySem.Str.ofString "name", PySem.NameKind.local), (PySem.Str.ofString "to", PySem.NameKind.local), (PySem.Str.ofString "lead", PySem.NameKind.free)], isGenerator := false, isCoroutine := false, more := [] : PySem.Scope } [("name", 6), ("to", 7)] := ⟨rfl, by decide +kernel, by decide +kernel, by decide +kernel, by decide +kernel⟩
def m__law_size (x_pool : List D) : Res (D × (List D)) :=
  rb (m__law_take x_pool (.int 6)) fun r3 => ob (addD (.int 1) r3.1) fun t2 => rb (m__law_take r3.2 (.int 16)) fun r5 => ob (addD (.int 1) r5.1) fun t4 => rb (m__law_take r5.2 (.int 40)) fun r7 => ob (addD (.int 1) r7.1) fun t6 => rb (m__law_take r7.2 (.int 3)) fun r8 => ob (ixD (.lst [t2, t4, t6]) r8.1) fun t1 => .ok (t1, r8.2)
abbrev s__law_size : Stmt := topS 24
theorem sc__law_size : FnScope ["pool"] ["pool"] (defScope s__law_size) := ⟨rfl, rfl, rfl, by decide +kernel, rfl, by decide +kernel, by decide +kernel⟩
def m__law_pairs (x_pairs : D) (x_numbers : D) : Res (List D) :=
  ob (asLst x_pairs) fun ds4 => rb (fmR ds4 fun d2 => ob (un2 d2) fun p5 => ob (ixD x_numbers p5.1) fun t8 => ob (ixD x_numbers p5.2) fun t9 => ob (sortD (.lst [t8, t9])) fun t7 => ob (tupleD (.lst t7)) fun t6 => .ok (some t6)) fun ys3 => ob (sortD (.lst ys3)) fun t1 => .ok t1
abbrev s__law_pairs : Stmt := topS 26
theorem sc__law_pairs : FnScope ["pairs", "numbers", "one", "other"] ["pairs", "numbers"] (defScope s__law_pairs) := ⟨rfl, rfl, rfl, by decide +kernel, rfl, by decide +kernel, by decide +kernel⟩
theorem blk__law_pairs_0 : BlkOk ["pairs", "numbers", "one", "other"] (defScope s__law_pairs) { kind := PySem.ScopeKind.function, names := [ (PySem.Str.ofString ".0", PySem.NameKind.local), (PySem.Str.ofString "one", PySem.NameKind.local), (PySem.Str.ofString "other", PySem.NameKind.local), (PySem.Str.ofString "tuple", PySem.NameKind.globalImplicit), (PySem.Str.ofString "sorted", PySem.NameKind.globalImplicit), (PySem.Str.ofString "numbers", PySem.NameKind.free)], isGenerator := false, isCoroutine := false, more := [] : PySem.Scope } [("one", 2), ("other", 3)] := ⟨rfl, by decide +kernel, by decide +kernel, by decide +kernel, by decide +kernel⟩
def m__law_twin (x_sheet : D) : Res D :=
  ob (ixD x_sheet (.int 0)) fun t3 => ob (ixD x_sheet (.int 1)) fun t4 => ob (catD t3 t4) fun t2 => ob (ixD (.lst t2) (.int 0)) fun t1 => ob (ixD x_sheet (.int 3)) fun t6 => ob (lenD t6) fun t5 => ob (ixD x_sheet (.int 3)) fun t12 => ob (ixD t12 (.int 0)) fun t11 => ob (asLst t11) fun ds10 => rb (fmR ds10 fun d8 => ob (ixD d8 (.int 0)) fun t14 => ob (neD t14 t1) fun t13 => if t13 = true then .ok (some d8) else .ok none) fun ys9 => ob (catD (.lst ys9) (.lst [(.tup [t1, t5])])) fun t7 => ob (ixD x_sheet (.int 3)) fun t19 => ob (ixD t19 (.int 0)) fun t18 => ob (asLst t18) fun ds17 => rb (fmR ds17 fun d15 => ob (ixD d15 (.int 0)) fun t21 => ob (ixD x_sheet (.int 0)) fun t22 => ob (inD t21 t22) fun t20 => if t20 = true then .ok (some d15) else .ok none) fun ys16 => ob (ixD x_sheet (.int 0)) fun t23 => ob (ixD x_sheet (.int 1)) fun t24 => ob (ixD x_sheet (.int 2)) fun t25 => ob (ixD x_sheet (.int 3)) fun t29 => ob (asI (.int 1)) fun t30 => ob (slL (some t30) none t29) fun t28 => ob (catD (.lst [(.lst t7)]) (.lst t28)) fun t27 => ob (addD t5 (.int 1)) fun t31 => ob (catD (.lst t27) (.lst [(.lst [(.tup [t1, t31])]), (.lst ys16)])) fun t26 => .ok (.tup [t23, t24, t25, (.lst t26)])
abbrev s__law_twin : Stmt := topS 29
theorem sc__law_twin : FnScope ["sheet", "name", "many", "first", "twin", "turn"] ["sheet"] (defScope s__law_twin) := ⟨rfl, rfl, rfl, by decide +kernel, rfl, by decide +kernel, by decide +kernel⟩
theorem blk__law_twin_0 : BlkOk ["sheet", "name", "many", "first", "twin", "turn"] (defScope s__law_twin) { kind := PySem.ScopeKind.function, names := [ (PySem.Str.ofString ".0", PySem.NameKind.local), (PySem.Str.ofString "turn", PySem.NameKind.local), (PySem.Str.ofString "sheet", PySem.NameKind.free)], isGenerator := false, isCoroutine := false, more := [] : PySem.Scope } [("turn", 5)] := ⟨rfl, by decide +kernel, by decide +kernel, by decide +kernel, by decide +kernel⟩
theorem blk__law_twin_1 : BlkOk ["sheet", "name", "many", "first", "twin", "turn"] (defScope s__law_twin) { kind := PySem.ScopeKind.function, names := [ (PySem.Str.ofString ".0", PySem.NameKind.local), (PySem.Str.ofString "turn", PySem.NameKind.local), (PySem.Str.ofString "name", PySem.NameKind.free)], isGenerator := false, isCoroutine := false, more := [] : PySem.Scope } [("turn", 5)] := ⟨rfl, by decide +kernel, by decide +kernel, by decide +kernel, by decide +kernel⟩
def m_is_name (x_thing : D) : Res D :=
  (ob (isK x_thing .str) fun t3 => ob (asB (.bl t3)) fun t2 => rb (if (!t2) = true then .ok (true, ()) else ob (lenD x_thing) fun t7 => ob (ltD (.int 0) t7) fun t4 => rb (if t4 = true then ob (ltD t7 (.int 9)) fun e => .ok e else .ok false : Res Bool) fun c5 => .ok ((!c5), ()) : Res (Bool × Unit)) fun p1 => if p1.1 = true then .ok (.bl false) else ob (strLD x_thing) fun ds11 => rb (fmR ds11 fun d9 => ob (notInD d9 (.str q_abcdefghijklmnopqrstuvwxyz)) fun t12 => if t12 = true then .ok (some d9) else .ok none) fun ys10 => ob (eqD (.lst ys10) (.lst [])) fun t8 => .ok (.bl t8))
abbrev s_is_name : Stmt := topS 4
theorem sc_is_name : FnScope ["thing", "sign"] ["thing"] (defScope s_is_name) := ⟨rfl, rfl, rfl, by decide +kernel, rfl, by decide +kernel, by decide +kernel⟩
theorem blk_is_name_0 : BlkOk ["thing", "sign"] (defScope s_is_name) { kind := PySem.ScopeKind.function, names := [ (PySem.Str.ofString ".0", PySem.NameKind.local), (PySem.Str.ofString "sign", PySem.NameKind.local), (PySem.Str.ofString "LETTERS", PySem.NameKind.globalImplicit)], isGenerator := false, isCoroutine := false, more := [] : PySem.Scope } [("sign", 1)] := ⟨rfl, by decide +kernel, by decide +kernel, by decide +kernel, by decide +kernel⟩
def m_are_names (x_thing : D) : Res D :=
  ob (isK x_thing .list) fun t3 => ob (asB (.bl t3)) fun t1 => rb (if t1 = true then ob (asLst x_thing) fun ds7 => rb (fmR ds7 fun d5 => rb (m_is_name d5) fun r9 => ob (asB r9) fun t8 => if (!t8) = true then .ok (some d5) else .ok none) fun ys6 => ob (eqD (.lst ys6) (.lst [])) fun t4 => .ok ((.bl t4), ()) else .ok (.bl false, ()) : Res (D × Unit)) fun p2 => .ok p2.1
abbrev s_are_names : Stmt := topS 5
theorem sc_are_names : FnScope ["thing", "one"] ["thing"] (defScope s_are_names) := ⟨rfl, rfl, rfl, by decide +kernel, rfl, by decide +kernel, by decide +kernel⟩
theorem blk_are_names_0 : BlkOk ["thing", "one"] (defScope s_are_names) { kind := PySem.ScopeKind.function, names := [ (PySem.Str.ofString ".0", PySem.NameKind.local), (PySem.Str.ofString "one", PySem.NameKind.local), (PySem.Str.ofString "is_name", PySem.NameKind.globalImplicit)], isGenerator := false, isCoroutine := false, more := [] : PySem.Scope } [("one", 1)] := ⟨rfl, by decide +kernel, by decide +kernel, by decide +kernel, by decide +kernel⟩
def m_are_signs (x_thing : D) (x_many : D) : Res D :=
  (ob (isK x_thing .str) fun t3 => ob (asB (.bl t3)) fun t2 => rb (if (!t2) = true then .ok (true, ()) else ob (lenD x_thing) fun t5 => ob (neD t5 x_many) fun t4 => .ok (t4, ()) : Res (Bool × Unit)) fun p1 => if p1.1 = true then .ok (.bl false) else ob (strLD x_thing) fun ds9 => rb (fmR ds9 fun d7 => ob (notInD d7 (.str q_01)) fun t10 => if t10 = true then .ok (some d7) else .ok none) fun ys8 => ob (eqD (.lst ys8) (.lst [])) fun t6 => .ok (.bl t6))
abbrev s_are_signs : Stmt := topS 6
theorem sc_are_signs : FnScope ["thing", "many", "sign"] ["thing", "many"] (defScope s_are_signs) := ⟨rfl, rfl, rfl, by decide +kernel, rfl, by decide +kernel, by decide +kernel⟩
theorem blk_are_signs_0 : BlkOk ["thing", "many", "sign"] (defScope s_are_signs) { kind := PySem.ScopeKind.function, names := [(PySem.Str.ofString ".0", PySem.NameKind.local), (PySem.Str.ofString "sign", PySem.NameKind.local)], isGenerator := false, isCoroutine := false, more := [] : PySem.Scope } [("sign", 2)] := ⟨rfl, by decide +kernel, by decide +kernel, by decide +kernel, by decide +kernel⟩
def m_is_whole (x_thing : D) : Res D :=
  ob (isK x_thing .int) fun t3 => ob (asB (.bl t3)) fun t1 => rb (if t1 = true then ob (isK x_thing .bool) fun t5 => ob (asB (.bl t5)) fun t4 => .ok ((.bl (!t4)), ()) else .ok (.bl false, ()) : Res (D × Unit)) fun p2 => .ok p2.1
abbrev s_is_whole : Stmt := topS 3
theorem sc_is_whole : FnScope ["thing"] ["thing"] (defScope s_is_whole) := ⟨rfl, rfl, rfl, by decide +kernel, rfl, by decide +kernel, by decide +kernel⟩
def m_is_turn (x_thing : D) (x_names : D) (x_many : D) : Res D :=
  (ob (isK x_thing .tuple) fun t3 => ob (asB (.bl t3)) fun t2 => rb (if (!t2) = true then .ok (true, ()) else ob (lenD x_thing) fun t6 => ob (neD t6 (.int 2)) fun t5 => rb (if t5 = true then .ok (true, ()) else ob (ixD x_thing (.int 0)) fun t9 => ob (isK t9 .str) fun t8 => ob (asB (.bl t8)) fun t7 => .ok ((!t7), ()) : Res (Bool × Unit)) fun p4 => .ok (p4.1, ()) : Res (Bool × Unit)) fun p1 => if p1.1 = true then .ok (.bl false) else ob (ixD x_thing (.int 0)) fun t13 => ob (inD t13 x_names) fun t12 => ob (asB (.bl t12)) fun t10 => rb (if t10 = true then ob (ixD x_thing (.int 1)) fun t17 => rb (m_is_whole t17) fun r16 => ob (asB r16) fun t14 => rb (if t14 = true then ob (ixD x_thing (.int 1)) fun t21 => ob (leD (.int 0) t21) fun t18 => rb (if t18 = true then ob (ltD t21 x_many) fun e => .ok e else .ok false : Res Bool) fun c19 => .ok ((.bl c19), ()) else .ok (.bl false, ()) : Res (D × Unit)) fun p15 => .ok (p15.1, ()) else .ok (.bl false, ()) : Res (D × Unit)) fun p11 => .ok p11.1)
abbrev s_is_turn : Stmt := topS 7
theorem sc_is_turn : FnScope ["thing", "names", "many"] ["thing", "names", "many"] (defScope s_is_turn) := ⟨rfl, rfl, rfl, by decide +kernel, rfl, by decide +kernel, by decide +kernel⟩
def m_is_node (x_thing : D) (x_names : D) (x_many : D) : Res D :=
  (ob (isK x_thing .list) fun t2 => ob (asB (.bl t2)) fun t1 => if (!t1) = true then .ok (.bl false) else ob (asLst x_thing) fun ds5 => rb (forL (Z := (List (D × D))) (R := D) ds5 [] fun z4 d3 => (rb (m_is_turn d3 x_names x_many) fun r8 => ob (asB r8) fun t7 => rb (if (!t7) = true then .ok (true, ()) else ob (ixD d3 (.int 0)) fun t10 => ob (dinD t10 (.dct false z4)) fun t9 => .ok (t9, ()) : Res (Bool × Unit)) fun p6 => if p6.1 = true then .ok (.rt (.bl false)) else ob (ixD d3 (.int 0)) fun t12 => ob (dputD false z4 t12 (.bl true)) fun t11 => .ok (.nx t11))) fun o => Fl.on o (fun z4 => .ok (.bl true)) (fun r => .ok r))
abbrev s_is_node : Stmt := topS 8
theorem sc_is_node : FnScope ["thing", "names", "many", "met", "turn"] ["thing", "names", "many"] (defScope s_is_node) := ⟨rfl, rfl, rfl, by decide +kernel, rfl, by decide +kernel, by decide +kernel⟩
def m_is_sheet (x_thing : D) : Res D :=
  (ob (isK x_thing .tuple) fun t3 => ob (asB (.bl t3)) fun t2 => rb (if (!t2) = true then .ok (true, ()) else ob (lenD x_thing) fun t5 => ob (neD t5 (.int 4)) fun t4 => .ok (t4, ()) : Res (Bool × Unit)) fun p1 => if p1.1 = true then .ok (.bl false) else ob (un4 x_thing) fun p6 => (rb (m_are_names p6.1) fun r9 => ob (asB r9) fun t8 => rb (if (!t8) = true then .ok (true, ()) else rb (m_are_names p6.2.1) fun r12 => ob (asB r12) fun t11 => rb (if (!t11) = true then .ok (true, ()) else ob (lenD p6.1) fun t15 => ob (gtD t15 (.int 4)) fun t14 => rb (if t14 = true then .ok (true, ()) else ob (lenD p6.2.1) fun t19 => ob (ltD (.int 0) t19) fun t16 => rb (if t16 = true then ob (ltD t19 (.int 8)) fun e => .ok e else .ok false : Res Bool) fun c17 => .ok ((!c17), ()) : Res (Bool × Unit)) fun p13 => .ok (p13.1, ()) : Res (Bool × Unit)) fun p10 => .ok (p10.1, ()) : Res (Bool × Unit)) fun p7 => if p7.1 = true then .ok (.bl false) else ob (catD p6.1 p6.2.1) fun t20 => (ob (lenSetD (.lst t20)) fun t23 => ob (lenD (.lst t20)) fun t24 => ob (neD t23 t24) fun t22 => rb (if t22 = true then .ok (true, ()) else ob (lenD (.lst t20)) fun t27 => rb (m_are_signs p6.2.2.1 t27) fun r26 => ob (asB r26) fun t25 => .ok ((!t25), ()) : Res (Bool × Unit)) fun p21 => if p21.1 = true then .ok (.bl false) else (ob (isK p6.2.2.2 .list) fun t30 => ob (asB (.bl t30)) fun t29 => rb (if (!t29) = true then .ok (true, ()) else ob (lenD p6.2.2.2) fun t34 => ob (ltD (.int 0) t34) fun t31 => rb (if t31 = true then ob (leD t34 (.int 40)) fun e => .ok e else .ok false : Res Bool) fun c32 => .ok ((!c32), ()) : Res (Bool × Unit)) fun p28 => if p28.1 = true then .ok (.bl false) else (ob (asLst p6.2.2.2) fun ds38 => rb (fmR ds38 fun d36 => ob (lenD p6.2.2.2) fun t41 => rb (m_is_node d36 (.lst t20) t41) fun r40 => ob (asB r40) fun t39 => if (!t39) = true then .ok (some d36) else .ok none) fun ys37 => ob (neD (.lst ys37) (.lst [])) fun t35 => if t35 = true then .ok (.bl false) else rb (m_rows_of (.lst t20) p6.2.2.1 p6.2.2.2) fun r43 => ob (nnD r43 .non) fun t42 => .ok (.bl t42))))))
abbrev s_is_sheet : Stmt := topS 11
theorem sc_is_sheet : FnScope ["thing", "names", "inputs", "outputs", "first", "nodes", "node"] ["thing"] (defScope s_is_sheet) := ⟨rfl, rfl, rfl, by decide +kernel, rfl, by decide +kernel, by decide +kernel⟩
theorem blk_is_sheet_0 : BlkOk ["thing", "names", "inputs", "outputs", "first", "nodes", "node"] (defScope s_is_sheet) { kind := PySem.ScopeKind.function, names := [ (PySem.Str.ofString ".0", PySem.NameKind.local), (PySem.Str.ofString "node", PySem.NameKind.local), (PySem.Str.ofString "is_node", PySem.NameKind.globalImplicit), (PySem.Str.ofString "len", PySem.NameKind.globalImplicit), (PySem.Str.ofString "names", PySem.NameKind.free), (PySem.Str.ofString "nodes", PySem.NameKind.free)], isGenerator := false, isCoroutine := false, more := [] : PySem.Scope } [("node", 6)] := ⟨rfl, by decide +kernel, by decide +kernel, by decide +kernel, by decide +kernel⟩
def m__law_twin_right (x_sheet : D) : Res D :=
  (ob (ixD x_sheet (.int 3)) fun t3 => ob (lenD t3) fun t2 => ob (gtD t2 (.int 38)) fun t1 => if t1 = true then .ok (.bl true) else rb (m__law_twin x_sheet) fun r4 => (rb (m_is_sheet r4) fun r6 => ob (asB r6) fun t5 => if (!t5) = true then .ok (.bl false) else ob (ixD x_sheet (.int 3)) fun t8 => ob (lenD t8) fun t7 => ob (ixD r4 (.int 3)) fun t13 => ob (ixD t13 (.int 0)) fun t12 => ob (asLst t12) fun ds11 => rb (fmR ds11 fun d9 => ob (un2 d9) fun p14 => ob (ixD x_sheet (.int 1)) fun t16 => ob (inD p14.1 t16) fun t15 => if t15 = true then .ok (some p14.1) else .ok none) fun ys10 => ob (addD t7 (.int 1)) fun t19 => rb (m_clash_pairs r4) fun r20 => ob (inE (.tup [(.int 0), t19]) (.lst r20)) fun t18 => ob (neD (.lst ys10) (.lst [])) fun t21 => ob (eqD (.bl t18) (.bl t21)) fun t17 => .ok (.bl t17)))
abbrev s__law_twin_right : Stmt := topS 30
theorem sc__law_twin_right : FnScope ["sheet", "other", "many", "wanted", "name", "to"] ["sheet"] (defScope s__law_twin_right) := ⟨rfl, rfl, rfl, by decide +kernel, rfl, by decide +kernel, by decide +kernel⟩
theorem blk__law_twin_right_0 : BlkOk ["sheet", "other", "many", "wanted", "name", "to"] (defScope s__law_twin_right) { kind := PySem.ScopeKind.function, names := [ (PySem.Str.ofString ".0", PySem.NameKind.local), (PySem.Str.ofString "name", PySem.NameKind.local), (PySem.Str.ofString "to", PySem.NameKind.local), (PySem.Str.ofString "sheet", PySem.NameKind.free)], isGenerator := false, isCoroutine := false, more := [] : PySem.Scope } [("name", 4), ("to", 5)] := ⟨rfl, by decide +kernel, by decide +kernel, by decide +kernel, by decide +kernel⟩
def m_first_unsteady (x_sheet : D) : Res D :=
  rb (m_signs_of x_sheet) fun r1 => ob (lenD (.lst r1)) fun t5 => ob (rngD (.int 0) t5) fun ds4 => rb (forL (Z := Unit) (R := D) ds4 () fun z3 d2 => (ob (ixD (.lst r1) d2) fun t7 => ob (nnD t7 .non) fun t6 => if t6 = true then rb (m_wanted_at x_sheet d2) fun r11 => ob (asLst (.lst r11)) fun ds10 => rb (forL (Z := Unit) (R := D) ds10 () fun z9 d8 => ob (ixD x_sheet (.int 3)) fun t17 => ob (ixD t17 d2) fun t16 => ob (sortD t16) fun t15 => ob (asLst (.lst t15)) fun ds14 => rb (forL (Z := Unit) (R := D) ds14 () fun z13 d12 => ob (un2 d12) fun p18 => (ob (neD p18.1 d8) fun t20 => rb (if t20 = true then rb (m_wanted_at x_sheet p18.2) fun r22 => ob (notInD d8 (.lst r22)) fun t21 => .ok (t21, ()) else .ok (false, ()) : Res (Bool × Unit)) fun p19 => if p19.1 = true then .ok (.rt (.tup [d2, d8, p18.1])) else .ok (.nx ()))) fun o => Fl.on o (fun z13 => .ok (.nx ())) (fun r => .ok (.rt r))) fun o => Fl.on o (fun z9 => .ok (.nx ())) (fun r => .ok (.rt r)) else .ok (.nx ()))) fun o => Fl.on o (fun z3 => .ok .non) (fun r => .ok r)
abbrev s_first_unsteady : Stmt := topS 16
theorem sc_first_unsteady : FnScope ["sheet", "signs", "node", "output", "name", "to"] ["sheet"] (defScope s_first_unsteady) := ⟨rfl, rfl, rfl, by decide +kernel, rfl, by decide +kernel, by decide +kernel⟩
def m__law_by_signs (x_sheet : D) : Res D :=
  rb (m_signs_of x_sheet) fun r5 => ob (ixD x_sheet (.int 3)) fun t6 => ob (asLst (.lst r5)) fun ds3 => ob (asLst t6) fun ds4 => rb (forL (Z := (List (D × D))) (R := D) (zipD ds3 ds4) [] fun z2 d1 => ob (un2 d1) fun p7 => ob (asLst p7.2) fun ds11 => rb (fmR ds11 fun d9 => ob (un2 d9) fun p12 => ob (ixD x_sheet (.int 1)) fun t14 => ob (inD p12.1 t14) fun t13 => if t13 = true then .ok (some p12.1) else .ok none) fun ys10 => ob (sortD (.lst ys10)) fun t8 => (ob (nnD p7.1 .non) fun t16 => rb (if t16 = true then ob (lget2D z2 p7.1 (.lst t8)) fun t18 => ob (neD t18 (.lst t8)) fun t17 => .ok (t17, ()) else .ok (false, ()) : Res (Bool × Unit)) fun p15 => if p15.1 = true then .ok (.rt (.bl false)) else ob (lputD z2 p7.1 (.lst t8)) fun t19 => .ok (.nx t19))) fun o => Fl.on o (fun z2 => .ok (.bl true)) (fun r => .ok r)
abbrev s__law_by_signs : Stmt := topS 28
theorem sc__law_by_signs : FnScope ["sheet", "wants", "signs", "node", "here", "name", "to"] ["sheet"] (defScope s__law_by_signs) := ⟨rfl, rfl, rfl, by decide +kernel, rfl, by decide +kernel, by decide +kernel⟩
theorem blk__law_by_signs_0 : BlkOk ["sheet", "wants", "signs", "node", "here", "name", "to"] (defScope s__law_by_signs) { kind := PySem.ScopeKind.function, names := [ (PySem.Str.ofString ".0", PySem.NameKind.local), (PySem.Str.ofString "name", PySem.NameKind.local), (PySem.Str.ofString "to", PySem.NameKind.local), (PySem.Str.ofString "sheet", PySem.NameKind.free)], isGenerator := false, isCoroutine := false, more := [] : PySem.Scope } [("name", 5), ("to", 6)] := ⟨rfl, by decide +kernel, by decide +kernel, by decide +kernel, by decide +kernel⟩
def m_law (x_script : D) : Res D :=
  ob (lenD x_script) fun t6 => ob (minD (.int 5) t6) fun t5 => ob (maxD (.int 1) t5) fun t4 => ob (rngD (.int 0) t4) fun ds3 => rb (forL (Z := Unit) (R := D) ds3 () fun z2 d1 => rb (m__law_pool x_script d1) fun r7 => rb (m__law_size r7) fun r9 => rb (m__law_sheet r9.2 r9.1) fun r8 => rb (m_clash_pairs r8.1) fun r10 => rb (m__law_anew r8.2 r8.1) fun r11 => ob (un2 r11.1) fun p12 => (rb (m_clash_pairs p12.1) fun r14 => rb (m__law_pairs (.lst r10) p12.2) fun r15 => ob (neD (.lst r14) (.lst r15)) fun t13 => if t13 = true then .ok (.rt (.bl false)) else (rb (m_first_unsteady p12.1) fun r18 => ob (isnD r18 .non) fun t17 => rb (m_first_unsteady r8.1) fun r20 => ob (isnD r20 .non) fun t19 => ob (neD (.bl t17) (.bl t19)) fun t16 => if t16 = true then .ok (.rt (.bl false)) else ob (ixD r8.1 (.int 0)) fun t25 => ob (lenD t25) fun t24 => ob (ixD r8.1 (.int 1)) fun t27 => ob (lenD t27) fun t26 => ob (addD t24 t26) fun t23 => rb (m__law_names r11.2 t23) fun r22 => rb (m__law_named r8.1 (.lst r22.1)) fun r21 => (rb (m_clash_pairs r21) fun r30 => ob (neD (.lst r30) (.lst r10)) fun t29 => rb (if t29 = true then .ok (true, ()) else rb (m__law_by_signs r8.1) fun r32 => ob (eqD (.lst r10) (.lst [])) fun t33 => ob (neD r32 (.bl t33)) fun t31 => .ok (t31, ()) : Res (Bool × Unit)) fun p28 => if p28.1 = true then .ok (.rt (.bl false)) else ob (ixD r8.1 (.int 0)) fun t35 => ob (ixD r8.1 (.int 1)) fun t36 => ob (catD t35 t36) fun t34 => ob (ixD r8.1 (.int 2)) fun t37 => ob (ixD r8.1 (.int 3)) fun t38 => (ob (ixD (.tup [(.lst []), (.lst t34), t37, t38]) (.int 1)) fun t42 => ob (lenD t42) fun t41 => ob (ltD t41 (.int 8)) fun t40 => rb (if t40 = true then ob (asLst (.lst r10)) fun ds46 => rb (fmR ds46 fun d44 => rb (m_clash_pairs (.tup [(.lst []), (.lst t34), t37, t38])) fun r48 => ob (notInE d44 (.lst r48)) fun t47 => if t47 = true then .ok (some d44) else .ok none) fun ys45 => ob (neD (.lst ys45) (.lst [])) fun t43 => .ok (t43, ()) else .ok (false, ()) : Res (Bool × Unit)) fun p39 => if p39.1 = true then .ok (.rt (.bl false)) else rb (ob (ixD r8.1 (.int 1)) fun t76 => ob (lenD t76) fun t75 => ob (gtD t75 (.int 1)) fun t74 => rb (if t74 = true then ob (ixD r8.1 (.int 0)) fun t79 => ob (lenD t79) fun t78 => ob (ltD t78 (.int 4)) fun t77 => .ok (t77, ()) else .ok (false, ()) : Res (Bool × Unit)) fun p73 => if p73.1 = true then ob (ixD r8.1 (.int 0)) fun t81 => ob (ixD r8.1 (.int 1)) fun t83 => ob (asI (.int 1)) fun t84 => ob (slL none (some t84) t83) fun t82 => ob (catD t81 (.lst t82)) fun t80 => ob (ixD r8.1 (.int 1)) fun t86 => ob (asI (.int 1)) fun t87 => ob (slL (some t87) none t86) fun t85 => ob (ixD r8.1 (.int 2)) fun t88 => ob (ixD r8.1 (.int 3)) fun t89 => (rb (m_clash_pairs (.tup [(.lst t80), (.lst t85), t88, t89])) fun r94 => ob (asLst (.lst r94)) fun ds93 => rb (fmR ds93 fun d91 => ob (notInE d91 (.lst r10)) fun t95 => if t95 = true then .ok (some d91) else .ok none) fun ys92 => ob (neD (.lst ys92) (.lst [])) fun t90 => if t90 = true then .ok (.rt (.bl false)) else .ok (.nx ())) else .ok (.nx ()) : Res (Fl Unit D)) fun o => Fl.on o (fun z72 => (rb (m__law_twin_right r8.1) fun r97 => ob (asB r97) fun t96 => if (!t96) = true then .ok (.rt (.bl false)) else .ok (.nx ()))) (fun r => .ok (.rt r))))))) fun o => Fl.on o (fun z2 => .ok (.bl true)) (fun r => .ok r)
abbrev s_law : Stmt := topS 31
theorem sc_law : FnScope ["script", "k", "pool", "sheet", "pairs", "named", "plain", "anew", "numbers", "less", "pair"] ["script"] (defScope s_law) := ⟨rfl, rfl, rfl, by decide +kernel, rfl, by decide +kernel, by decide +kernel⟩
theorem blk_law_0 : BlkOk ["script", "k", "pool", "sheet", "pairs", "named", "plain", "anew", "numbers", "less", "pair"] (defScope s_law) { kind := PySem.ScopeKind.function, names := [ (PySem.Str.ofString ".0", PySem.NameKind.local), (PySem.Str.ofString "pair", PySem.NameKind.local), (PySem.Str.ofString "pairs", PySem.NameKind.free)], isGenerator := false, isCoroutine := false, more := [] : PySem.Scope } [("pair", 10)] := ⟨rfl, by decide +kernel, by decide +kernel, by decide +kernel, by decide +kernel⟩
theorem blk_law_1 : BlkOk ["script", "k", "pool", "sheet", "pairs", "named", "plain", "anew", "numbers", "less", "pair"] (defScope s_law) { kind := PySem.ScopeKind.function, names := [ (PySem.Str.ofString ".0", PySem.NameKind.local), (PySem.Str.ofString "pair", PySem.NameKind.local), (PySem.Str.ofString "clash_pairs", PySem.NameKind.globalImplicit), (PySem.Str.ofString "plain", PySem.NameKind.free)], isGenerator := false, isCoroutine := false, more := [] : PySem.Scope } [("pair", 10)] := ⟨rfl, by decide +kernel, by decide +kernel, by decide +kernel, by decide +kernel⟩
set_option genInjectivity false in
set_option genSizeOf false in
structure Tx [EC] (w : World) (K : PySem.W.Frag) (mg : Str → Option Value) where
  a__law_pool : Addr
  d__law_pool : FuncData
  F__law_pool : Fun K "_law_pool" "_law_pool" s__law_pool a__law_pool d__law_pool
  b__law_pool : Binds K d__law_pool ["script", "k"] []
  g__law_pool : mg "_law_pool" = some (.ref a__law_pool)
  a__law_take : Addr
  d__law_take : FuncData
  F__law_take : Fun K "_law_take" "_law_take" s__law_take a__law_take d__law_take
  b__law_take : Binds K d__law_take ["pool", "many"] []
  g__law_take : mg "_law_take" = some (.ref a__law_take)
  a__law_names : Addr
  d__law_names : FuncData
  F__law_names : Fun K "_law_names" "_law_names" s__law_names a__law_names d__law_names
  b__law_names : Binds K d__law_names ["pool", "many"] []
  g__law_names : mg "_law_names" = some (.ref a__law_names)
  a__law_turned : Addr
  d__law_turned : FuncData
  F__law_turned : Fun K "_law_turned" "_law_turned" s__law_turned a__law_turned d__law_turned
  b__law_turned : Binds K d__law_turned ["signs", "at"] []
  g__law_turned : mg "_law_turned" = some (.ref a__law_turned)
  a__law_order : Addr
  d__law_order : FuncData
  F__law_order : Fun K "_law_order" "_law_order" s__law_order a__law_order d__law_order
  b__law_order : Binds K d__law_order ["pool", "things"] []
  g__law_order : mg "_law_order" = some (.ref a__law_order)
  a__law_sheet : Addr
  d__law_sheet : FuncData
  F__law_sheet : Fun K "_law_sheet" "_law_sheet" s__law_sheet a__law_sheet d__law_sheet
  b__law_sheet : Binds K d__law_sheet ["pool", "most"] []
  g__law_sheet : mg "_law_sheet" = some (.ref a__law_sheet)
  a_behind_turn : Addr
  d_behind_turn : FuncData
  F_behind_turn : Fun K "behind_turn" "behind_turn" s_behind_turn a_behind_turn d_behind_turn
  b_behind_turn : Binds K d_behind_turn ["names", "signs", "name"] []
  g_behind_turn : mg "behind_turn" = some (.ref a_behind_turn)
  a_rows_of : Addr
  d_rows_of : FuncData
  F_rows_of : Fun K "rows_of" "rows_of" s_rows_of a_rows_of d_rows_of
  b_rows_of : Binds K d_rows_of ["names", "first", "nodes"] []
  g_rows_of : mg "rows_of" = some (.ref a_rows_of)
  a_signs_of : Addr
  d_signs_of : FuncData
  F_signs_of : Fun K "signs_of" "signs_of" s_signs_of a_signs_of d_signs_of
  b_signs_of : Binds K d_signs_of ["sheet"] []
  g_signs_of : mg "signs_of" = some (.ref a_signs_of)
  a_wanted_at : Addr
  d_wanted_at : FuncData
  F_wanted_at : Fun K "wanted_at" "wanted_at" s_wanted_at a_wanted_at d_wanted_at
  b_wanted_at : Binds K d_wanted_at ["sheet", "node"] []
  g_wanted_at : mg "wanted_at" = some (.ref a_wanted_at)
  a_clash_pairs : Addr
  d_clash_pairs : FuncData
  F_clash_pairs : Fun K "clash_pairs" "clash_pairs" s_clash_pairs a_clash_pairs d_clash_pairs
  b_clash_pairs : Binds K d_clash_pairs ["sheet"] []
  g_clash_pairs : mg "clash_pairs" = some (.ref a_clash_pairs)
  a__law_anew : Addr
  d__law_anew : FuncData
  F__law_anew : Fun K "_law_anew" "_law_anew" s__law_anew a__law_anew d__law_anew
  b__law_anew : Binds K d__law_anew ["pool", "sheet"] []
  g__law_anew : mg "_law_anew" = some (.ref a__law_anew)
  a__law_named : Addr
  d__law_named : FuncData
  F__law_named : Fun K "_law_named" "_law_named" s__law_named a__law_named d__law_named
  b__law_named : Binds K d__law_named ["sheet", "names"] []
  g__law_named : mg "_law_named" = some (.ref a__law_named)
  a__law_size : Addr
  d__law_size : FuncData
  F__law_size : Fun K "_law_size" "_law_size" s__law_size a__law_size d__law_size
  b__law_size : Binds K d__law_size ["pool"] []
  g__law_size : mg "_law_size" = some (.ref a__law_size)
  a__law_pairs : Addr
  d__law_pairs : FuncData
  F__law_pairs : Fun K "_law_pairs" "_law_pairs" s__law_pairs a__law_pairs d__law_pairs
  b__law_pairs : Binds K d__law_pairs ["pairs", "numbers"] []
  g__law_pairs : mg "_law_pairs" = some (.ref a__law_pairs)
  a__law_twin : Addr
  d__law_twin : FuncData
  F__law_twin : Fun K "_law_twin" "_law_twin" s__law_twin a__law_twin d__law_twin
  b__law_twin : Binds K d__law_twin ["sheet"] []
  g__law_twin : mg "_law_twin" = some (.ref a__law_twin)
  a_is_name : Addr
  d_is_name : FuncData
  F_is_name : Fun K "is_name" "is_name" s_is_name a_is_name d_is_name
  b_is_name : Binds K d_is_name ["thing"] []
  g_is_name : mg "is_name" = some (.ref a_is_name)
  a_are_names : Addr
  d_are_names : FuncData
  F_are_names : Fun K "are_names" "are_names" s_are_names a_are_names d_are_names
  b_are_names : Binds K d_are_names ["thing"] []
  g_are_names : mg "are_names" = some (.ref a_are_names)
  a_are_signs : Addr
  d_are_signs : FuncData
  F_are_signs : Fun K "are_signs" "are_signs" s_are_signs a_are_signs d_are_signs
  b_are_signs : Binds K d_are_signs ["thing", "many"] []
  g_are_signs : mg "are_signs" = some (.ref a_are_signs)
  a_is_whole : Addr
  d_is_whole : FuncData
  F_is_whole : Fun K "is_whole" "is_whole" s_is_whole a_is_whole d_is_whole
  b_is_whole : Binds K d_is_whole ["thing"] []
  g_is_whole : mg "is_whole" = some (.ref a_is_whole)
  a_is_turn : Addr
  d_is_turn : FuncData
  F_is_turn : Fun K "is_turn" "is_turn" s_is_turn a_is_turn d_is_turn
  b_is_turn : Binds K d_is_turn ["thing", "names", "many"] []
  g_is_turn : mg "is_turn" = some (.ref a_is_turn)
  a_is_node : Addr
  d_is_node : FuncData
  F_is_node : Fun K "is_node" "is_node" s_is_node a_is_node d_is_node
  b_is_node : Binds K d_is_node ["thing", "names", "many"] []
  g_is_node : mg "is_node" = some (.ref a_is_node)
  a_is_sheet : Addr
  d_is_sheet : FuncData
  F_is_sheet : Fun K "is_sheet" "is_sheet" s_is_sheet a_is_sheet d_is_sheet
  b_is_sheet : Binds K d_is_sheet ["thing"] []
  g_is_sheet : mg "is_sheet" = some (.ref a_is_sheet)
  a__law_twin_right : Addr
  d__law_twin_right : FuncData
  F__law_twin_right : Fun K "_law_twin_right" "_law_twin_right" s__law_twin_right a__law_twin_right d__law_twin_right
  b__law_twin_right : Binds K d__law_twin_right ["sheet"] []
  g__law_twin_right : mg "_law_twin_right" = some (.ref a__law_twin_right)
  a_first_unsteady : Addr
  d_first_unsteady : FuncData
  F_first_unsteady : Fun K "first_unsteady" "first_unsteady" s_first_unsteady a_first_unsteady d_first_unsteady
  b_first_unsteady : Binds K d_first_unsteady ["sheet"] []
  g_first_unsteady : mg "first_unsteady" = some (.ref a_first_unsteady)
  a__law_by_signs : Addr
  d__law_by_signs : FuncData
  F__law_by_signs : Fun K "_law_by_signs" "_law_by_signs" s__law_by_signs a__law_by_signs d__law_by_signs
  b__law_by_signs : Binds K d__law_by_signs ["sheet"] []
  g__law_by_signs : mg "_law_by_signs" = some (.ref a__law_by_signs)
  a_law : Addr
  d_law : FuncData
  F_law : Fun K "law" "law" s_law a_law d_law
  n_bool : mg "bool" = none
  n_dict : mg "dict" = none
  n_enumerate : mg "enumerate" = none
  n_int : mg "int" = none
  n_isinstance : mg "isinstance" = none
  n_len : mg "len" = none
  n_list : mg "list" = none
  n_max : mg "max" = none
  n_min : mg "min" = none
  n_range : mg "range" = none
  n_set : mg "set" = none
  n_sorted : mg "sorted" = none
  n_str : mg "str" = none
  n_tuple : mg "tuple" = none
  n_zip : mg "zip" = none
  hw : w = EC.wd
  ct_LETTERS : Tok
  cg_LETTERS : mg "LETTERS" = some (.str (PySem.Str.ofString "abcdefghijklmnopqrstuvwxyz") ct_LETTERS)
  ct_MOST_NODES : Tok
  cg_MOST_NODES : mg "MOST_NODES" = some (.int 40 ct_MOST_NODES)
section
variable [EC] {P : Program} {w : World} {K : PySem.W.Frag} {mg : Str → Option Value} {base : Heap}
theorem ok__law_pool (T : Tx w K mg) : FnOk P w K mg base CX0 1 T.a__law_pool T.d__law_pool ["script", "k"] (spOf (A := D × D) (R := List D) EC.ec (fun a => [.f a.1, .f a.2]) (fun a => m__law_pool a.1 a.2) (fun r => .l r) (fun r => [none, none])) := by
  refine T.F__law_pool.ok sc__law_pool (fun vs H Q E h => ?_) (fun cdv A outer s H vs Q E hr h => ?_)
  · obtain ⟨a, G, w, _, _, hl, _⟩ := h; exact hl
  · refine ⟨_, (pss_cons (ps_set (i := 2) sc__law_pool.nd rfl (by first | exact .inl rfl | exact .inr rfl) pe_int) (pss_cons (ps_if (pt_cmpR op_ltA (pv 1) (pe_callB (call_lenK (Kf := K) (by rfl)) (by rfl) T.n_len PySem.boot_len (pa_cons (pv 0) pa_nil)) (nomark _)) (pss_one (ps_set (i := 2) sc__law_pool.nd rfl (by first | exact .inl rfl | exact .inr rfl) (pe_ix (ix_anyK (Kf := K) (by rfl)) (pv 0) (pv 1) (fun _ _ => rfl)))) pss_nil) (pss_cons (ps_if (pt_cmpR op_ge (pv 2) (pe_op op_pow pe_int pe_int) (nomark _)) (pss_one (ps_ret (pe_lst (pa_cons (pe_op op_sub (pv 2) (pe_op op_pow pe_int pe_int)) (pa_cons pe_int (pa_cons pe_int pa_nil)))))) pss_nil) (pss_one (ps_ret (pe_lst (pa_cons (pv 2) (pa_cons pe_int (pa_cons (pe_op op_mul pe_int (pv 1)) pa_nil))))))))), ?_⟩
    refine fn_body (K := K) [] (fun _ => by show (2 : Nat) ≤ 3; decide) (fun _ => by show ∀ k ∈ ([] : List Nat), k < 2; decide) h (fun F a hec hE hK hpv => ?_)
    obtain ⟨x_script, x_k⟩ := a
    show RS F [] [some (.f x_script), some (.f x_k), none] (m__law_pool x_script x_k) _ _ _
    unfold m__law_pool
    refine rs_seq ?_
    refine rs_set ?_ rfl (hpv _ (by decide))
    refine rd_int ?_
    refine ⟨_, rfl, (by show (2 : Nat) < 3; decide), ?_⟩
    refine rs_at [some (.f x_script), some (.f x_k), some (.f (.int 0))] rfl ?_
    refine rs_seq ?_
    refine rs_join (Z := D) (fun z4 => [some (.f x_script), some (.f x_k), some (.f z4)]) _ _ rfl ?_ (fun z4 => ?_)
    · refine rs_if ?_
      refine rt_op2B o_lt ?_
      refine rd_var rfl ?_
      intro _
      refine rd_cb1 o_len ?_
      refine rd_var rfl ?_
      refine ⟨_, _, rfl, rfl, fun t6 => ?_⟩
      refine ⟨_, _, _, rfl, rfl, rfl, fun t5 => ?_⟩
      refine ⟨_, _, rfl, fun _ => ?_, fun _ => ?_⟩
      · refine rs_set ?_ rfl (hpv _ (by decide))
        refine rd_op2 o_ix ?_
        refine rd_var rfl ?_
        intro _
        refine rd_var rfl ?_
        refine ⟨_, _, _, rfl, rfl, rfl, fun t7 => ?_⟩
        refine ⟨_, rfl, (by show (2 : Nat) < 3; decide), ?_⟩
        exact ⟨_, rfl, ⟨.inr rfl, ⟨.inr rfl, ⟨.inr rfl, trivial⟩⟩⟩⟩
      · refine rs_next ?_
        exact ⟨_, rfl, ⟨.inr rfl, ⟨.inr rfl, ⟨.inr rfl, trivial⟩⟩⟩⟩
    · refine rs_at [some (.f x_script), some (.f x_k), some (.f z4)] rfl ?_
      refine rs_seq ?_
      refine rs_if ?_
      refine rt_op2B o_ge ?_
      refine rd_var rfl ?_
      intro _
      refine rd_op2 o_pow ?_
      refine rd_int ?_
      intro _
      refine rd_int ?_
      refine ⟨_, _, _, rfl, rfl, rfl, fun t9 => ?_⟩
      refine ⟨_, _, _, rfl, rfl, rfl, fun t8 => ?_⟩
      refine ⟨_, _, rfl, fun _ => ?_, fun _ => ?_⟩
      · refine rs_ret ?_
        refine rd_lst ?_
        refine ra_cons ?_
        refine rd_op2 o_sub ?_
        refine rd_var rfl ?_
        intro _
        refine rd_op2 o_pow ?_
        refine rd_int ?_
        intro _
        refine rd_int ?_
        refine ⟨_, _, _, rfl, rfl, rfl, fun t11 => ?_⟩
        refine ⟨_, _, _, rfl, rfl, rfl, fun t10 => ?_⟩
        intro _
        refine ra_cons ?_
        refine rd_int ?_
        intro _
        refine ra_cons ?_
        refine rd_int ?_
        intro _
        refine ra_nil ?_
        refine ⟨[t10, (.int 1), (.int 0)], rfl, (by show (3 : Nat) ≤ 1000; decide), ?_⟩
        refine ⟨_, rfl, ?_⟩
        exact ⟨_, rfl, rfl, trivial⟩
      · refine rs_next ?_
        refine rs_at [some (.f x_script), some (.f x_k), some (.f z4)] rfl ?_
        refine rs_ret ?_
        refine rd_lst ?_
        refine ra_cons ?_
        refine rd_var rfl ?_
        intro _
        refine ra_cons ?_
        refine rd_int ?_
        intro _
        refine ra_cons ?_
        refine rd_op2 o_mul ?_
        refine rd_int ?_
        intro _
        refine rd_var rfl ?_
        refine ⟨_, _, _, rfl, rfl, rfl, fun t12 => ?_⟩
        intro _
        refine ra_nil ?_
        refine ⟨[z4, (.int 0), t12], rfl, (by show (3 : Nat) ≤ 1000; decide), ?_⟩
        refine ⟨_, rfl, ?_⟩
        exact ⟨_, rfl, rfl, trivial⟩
theorem ok__law_take (T : Tx w K mg) : FnOk P w K mg base CX0 1 T.a__law_take T.d__law_take ["pool", "many"] (spOf (A := (List D) × D) (R := D × (List D)) EC.ec (fun a => [.l a.1, .f a.2]) (fun a => m__law_take a.1 a.2) (fun r => .f r.1) (fun r => [some (.l r.2), none])) := by
  refine T.F__law_take.ok sc__law_take (fun vs H Q E h => ?_) (fun cdv A outer s H vs Q E hr h => ?_)
  · obtain ⟨a, G, w, _, _, hl, _⟩ := h; exact hl
  · refine ⟨_, (pss_cons (ps_if (pt_cmpR (op_eqM (hu_64 hr)) (pe_ix (ix_anyK (Kf := K) (by rfl)) (pv 0) pe_int (fun _ _ => rfl)) pe_int (nomark _)) (pss_cons (ps_set (i := 4) sc__law_take.nd rfl (by first | exact .inl rfl | exact .inr rfl) (pe_op op_mod (pe_ix (ix_anyK (Kf := K) (by rfl)) (pv 0) pe_int (fun _ _ => rfl)) (pv 1))) (pss_cons (ps_asg (pe_op op_fdiv (pe_ix (ix_anyK (Kf := K) (by rfl)) (pv 0) pe_int (fun _ _ => rfl)) (pv 1)) (pg_sub (pv 0) pe_int set_list)) (pss_one (ps_ret (pv 4))))) pss_nil) (pss_cons (ps_asg (pe_op op_addA (pe_ix (ix_anyK (Kf := K) (by rfl)) (pv 0) pe_int (fun _ _ => rfl)) pe_int) (pg_sub (pv 0) pe_int set_list)) (pss_cons (ps_set (i := 2) sc__law_take.nd rfl (by first | exact .inl rfl | exact .inr rfl) (pe_ix (ix_anyK (Kf := K) (by rfl)) (pv 0) pe_int (fun _ _ => rfl))) (pss_cons (ps_set (i := 3) sc__law_take.nd rfl (by first | exact .inl rfl | exact .inr rfl) (pe_op op_mul (pe_op op_addA (pe_op op_mod (pe_ix (ix_anyK (Kf := K) (by rfl)) (pv 0) pe_int (fun _ _ => rfl)) pe_int) pe_int) (pe_op op_addA (pe_op op_mul pe_int (pv 2)) pe_int))) (pss_cons (ps_set (i := 3) sc__law_take.nd rfl (by first | exact .inl rfl | exact .inr rfl) (pe_op op_addA (pv 3) (pe_op op_mul (pe_op op_mul pe_int (pv 2)) (pv 2)))) (pss_cons (ps_set (i := 3) sc__law_take.nd rfl (by first | exact .inl rfl | exact .inr rfl) (pe_op op_mod (pe_op op_mul (pv 3) (pv 3)) pe_int)) (pss_one (ps_ret (pe_op op_mod (pe_op op_fdiv (pe_op op_mod (pe_op op_mul (pv 3) (pe_op op_addA (pv 3) pe_int)) pe_int) pe_int) (pv 1)))))))))), ?_⟩
    refine fn_body (K := K) [0] (fun _ => by show (2 : Nat) ≤ 5; decide) (fun _ => by show ∀ k ∈ ([0] : List Nat), k < 2; decide) h (fun F a hec hE hK hpv => ?_)
    obtain ⟨x_pool, x_many⟩ := a
    show RS F [] [some (.l x_pool), some (.f x_many), none, none, none] (m__law_take x_pool x_many) _ _ _
    unfold m__law_take
    refine rs_seq ?_
    refine rs_if ?_
    refine rt_op2B o_eq ?_
    refine rd_op2 o_ix ?_
    refine rd_ali rfl ?_
    intro _
    refine rd_int ?_
    refine ⟨_, _, _, rfl, rfl, rfl, fun t2 => ?_⟩
    intro _
    refine rd_int ?_
    refine ⟨_, _, _, rfl, rfl, rfl, fun t1 => ?_⟩
    refine ⟨_, _, rfl, fun _ => ?_, fun _ => ?_⟩
    · refine rs_seq ?_
      refine rs_set ?_ rfl (hpv _ (by decide))
      refine rd_op2 o_mod ?_
      refine rd_op2 o_ix ?_
      refine rd_ali rfl ?_
      intro _
      refine rd_int ?_
      refine ⟨_, _, _, rfl, rfl, rfl, fun t4 => ?_⟩
      intro _
      refine rd_var rfl ?_
      refine ⟨_, _, _, rfl, rfl, rfl, fun t3 => ?_⟩
      refine ⟨_, rfl, (by show (4 : Nat) < 5; decide), ?_⟩
      refine rs_at [some (.l x_pool), some (.f x_many), none, none, some (.f t3)] rfl ?_
      refine rs_seq ?_
      refine rs_setL ?_
      refine rd_op2 o_fdiv ?_
      refine rd_op2 o_ix ?_
      refine rd_ali rfl ?_
      intro _
      refine rd_int ?_
      refine ⟨_, _, _, rfl, rfl, rfl, fun t7 => ?_⟩
      intro _
      refine rd_var rfl ?_
      refine ⟨_, _, _, rfl, rfl, rfl, fun t6 => ?_⟩
      refine ⟨_, rfl, fun _ => ?_⟩
      refine rd_ali rfl ?_
      refine ⟨0, rfl, fun _ => ?_⟩
      refine rd_int ?_
      refine ⟨_, _, _, rfl, rfl, rfl, fun t5 => ?_⟩
      refine rs_at [some (.l t5), some (.f x_many), none, none, some (.f t3)] rfl ?_
      refine rs_ret ?_
      refine rd_var rfl ?_
      refine ⟨_, rfl, ?_⟩
      exact ⟨_, rfl, rfl, ⟨rfl, by decide, trivial⟩⟩
    · refine rs_next ?_
      refine rs_at [some (.l x_pool), some (.f x_many), none, none, none] rfl ?_
      refine rs_seq ?_
      refine rs_setL ?_
      refine rd_op2 o_add ?_
      refine rd_op2 o_ix ?_
      refine rd_ali rfl ?_
      intro _
      refine rd_int ?_
      refine ⟨_, _, _, rfl, rfl, rfl, fun t10 => ?_⟩
      intro _
      refine rd_int ?_
      refine ⟨_, _, _, rfl, rfl, rfl, fun t9 => ?_⟩
      refine ⟨_, rfl, fun _ => ?_⟩
      refine rd_ali rfl ?_
      refine ⟨0, rfl, fun _ => ?_⟩
      refine rd_int ?_
      refine ⟨_, _, _, rfl, rfl, rfl, fun t8 => ?_⟩
      refine rs_at [some (.l t8), some (.f x_many), none, none, none] rfl ?_
      refine rs_seq ?_
      refine rs_set ?_ rfl (hpv _ (by decide))
      refine rd_op2 o_ix ?_
      refine rd_ali rfl ?_
      intro _
      refine rd_int ?_
      refine ⟨_, _, _, rfl, rfl, rfl, fun t11 => ?_⟩
      refine ⟨_, rfl, (by show (2 : Nat) < 5; decide), ?_⟩
      refine rs_at [some (.l t8), some (.f x_many), some (.f t11), none, none] rfl ?_
      refine rs_seq ?_
      refine rs_set ?_ rfl (hpv _ (by decide))
      refine rd_op2 o_mul ?_
      refine rd_op2 o_add ?_
      refine rd_op2 o_mod ?_
      refine rd_op2 o_ix ?_
      refine rd_ali rfl ?_
      intro _
      refine rd_int ?_
      refine ⟨_, _, _, rfl, rfl, rfl, fun t15 => ?_⟩
      intro _
      refine rd_int ?_
      refine ⟨_, _, _, rfl, rfl, rfl, fun t14 => ?_⟩
      intro _
      refine rd_int ?_
      refine ⟨_, _, _, rfl, rfl, rfl, fun t13 => ?_⟩
      intro _
      refine rd_op2 o_add ?_
      refine rd_op2 o_mul ?_
      refine rd_int ?_
      intro _
      refine rd_var rfl ?_
      refine ⟨_, _, _, rfl, rfl, rfl, fun t17 => ?_⟩
      intro _
      refine rd_int ?_
      refine ⟨_, _, _, rfl, rfl, rfl, fun t16 => ?_⟩
      refine ⟨_, _, _, rfl, rfl, rfl, fun t12 => ?_⟩
      refine ⟨_, rfl, (by show (3 : Nat) < 5; decide), ?_⟩
      refine rs_at [some (.l t8), some (.f x_many), some (.f t11), some (.f t12), none] rfl ?_
      refine rs_seq ?_
      refine rs_set ?_ rfl (hpv _ (by decide))
      refine rd_op2 o_add ?_
      refine rd_var rfl ?_
      intro _
      refine rd_op2 o_mul ?_
      refine rd_op2 o_mul ?_
      refine rd_int ?_
      intro _
      refine rd_var rfl ?_
      refine ⟨_, _, _, rfl, rfl, rfl, fun t20 => ?_⟩
      intro _
      refine rd_var rfl ?_
      refine ⟨_, _, _, rfl, rfl, rfl, fun t19 => ?_⟩
      refine ⟨_, _, _, rfl, rfl, rfl, fun t18 => ?_⟩
      refine ⟨_, rfl, (by show (3 : Nat) < 5; decide), ?_⟩
      refine rs_at [some (.l t8), some (.f x_many), some (.f t11), some (.f t18), none] rfl ?_
      refine rs_seq ?_
      refine rs_set ?_ rfl (hpv _ (by decide))
      refine rd_op2 o_mod ?_
      refine rd_op2 o_mul ?_
      refine rd_var rfl ?_
      intro _
      refine rd_var rfl ?_
      refine ⟨_, _, _, rfl, rfl, rfl, fun t22 => ?_⟩
      intro _
      refine rd_int ?_
      refine ⟨_, _, _, rfl, rfl, rfl, fun t21 => ?_⟩
      refine ⟨_, rfl, (by show (3 : Nat) < 5; decide), ?_⟩
      refine rs_at [some (.l t8), some (.f x_many), some (.f t11), some (.f t21), none] rfl ?_
      refine rs_ret ?_
      refine rd_op2 o_mod ?_
      refine rd_op2 o_fdiv ?_
      refine rd_op2 o_mod ?_
      refine rd_op2 o_mul ?_
      refine rd_var rfl ?_
      intro _
      refine rd_op2 o_add ?_
      refine rd_var rfl ?_
      intro _
      refine rd_int ?_
      refine ⟨_, _, _, rfl, rfl, rfl, fun t27 => ?_⟩
      refine ⟨_, _, _, rfl, rfl, rfl, fun t26 => ?_⟩
      intro _
      refine rd_int ?_
      refine ⟨_, _, _, rfl, rfl, rfl, fun t25 => ?_⟩
      intro _
      refine rd_int ?_
      refine ⟨_, _, _, rfl, rfl, rfl, fun t24 => ?_⟩
      intro _
      refine rd_var rfl ?_
      refine ⟨_, _, _, rfl, rfl, rfl, fun t23 => ?_⟩
      refine ⟨_, rfl, ?_⟩
      exact ⟨_, rfl, rfl, ⟨rfl, by decide, trivial⟩⟩
theorem ok__law_names (T : Tx w K mg) : FnOk P w K mg base CX0 2 T.a__law_names T.d__law_names ["pool", "many"] (spOf (A := (List D) × D) (R := (List D) × (List D)) EC.ec (fun a => [.l a.1, .f a.2]) (fun a => m__law_names a.1 a.2) (fun r => .l r.1) (fun r => [some (.l r.2), none])) := by
  refine T.F__law_names.ok sc__law_names (fun vs H Q E h => ?_) (fun cdv A outer s H vs Q E hr h => ?_)
  · obtain ⟨a, G, w, _, _, hl, _⟩ := h; exact hl
  · refine ⟨_, (pss_cons (ps_set (i := 2) sc__law_names.nd rfl (by first | exact .inl rfl | exact .inr rfl) pe_str) (pss_cons (ps_set (i := 3) sc__law_names.nd rfl (by first | exact .inl rfl | exact .inr rfl) (pe_ix (ix_anyK (Kf := K) (by rfl)) (pe_lst (pa_cons pe_str (pa_cons pe_str (pa_cons pe_str (pa_cons pe_str pa_nil))))) (pe_call (ok__law_take T) (hr.mono (by decide)) (by rfl) T.g__law_take T.F__law_take.kp T.b__law_take .nil (show Passes CX0 _ E from pass0) (pa_cons (pv 0) (pa_cons pe_int pa_nil))) (fun _ _ => rfl))) (pss_cons (ps_set (i := 4) sc__law_names.nd rfl (by first | exact .inl rfl | exact .inr rfl) (pe_lst pa_nil)) (pss_cons (ps_for PassesOwn.never rfl (pi_range1 (by rfl) T.n_range (pa_cons (pv 1) pa_nil)) (pg_name (i := 5) sc__law_names.nd rfl (by first | exact .inl rfl | exact .inr rfl)) (pss_cons (ps_set (i := 6) sc__law_names.nd rfl (by first | exact .inl rfl | exact .inr rfl) (pe_op op_addA (pe_slice sl_str (pv 3) po_none (po_some (pe_call (ok__law_take T) (hr.mono (by decide)) (by rfl) T.g__law_take T.F__law_take.kp T.b__law_take .nil (show Passes CX0 _ E from pass0) (pa_cons (pv 0) (pa_cons pe_int pa_nil))))) (pe_ix (ix_anyK (Kf := K) (by rfl)) (pv 2) (pe_call (ok__law_take T) (hr.mono (by decide)) (by rfl) T.g__law_take T.F__law_take.kp T.b__law_take .nil (show Passes CX0 _ E from pass0) (pa_cons (pv 0) (pa_cons pe_int pa_nil))) (fun _ _ => rfl)))) (pss_cons (ps_set (i := 7) sc__law_names.nd rfl (by first | exact .inl rfl | exact .inr rfl) (pe_call (ok__law_take T) (hr.mono (by decide)) (by rfl) T.g__law_take T.F__law_take.kp T.b__law_take .nil (show Passes CX0 _ E from pass0) (pa_cons (pv 0) (pa_cons pe_int pa_nil)))) (pss_cons (ps_if (pt_cmpR (op_eqM (hu_64 hr)) (pv 7) pe_int (nomark _)) (pss_one (ps_set (i := 6) sc__law_names.nd rfl (by first | exact .inl rfl | exact .inr rfl) (pe_joinK (Kf := K) (by rfl) pe_str (pe_lc (own := [("turn", 8)]) rfl (by exact sc__law_names.nd) (pi_range1 (by rfl) T.n_range (pa_cons (pe_op op_addA pe_int (pe_call (ok__law_take T) (hr.mono (by decide)) (by rfl) T.g__law_take T.F__law_take.kp T.b__law_take .nil (show Passes CX0 _ E from pass0) (pa_cons (pv 0) (pa_cons pe_int pa_nil)))) pa_nil)) blk__law_names_0 (fun _ _ _ _ _ => (pg_name (i := 8) sc__law_names.nd rfl (by first | exact .inl rfl | exact .inr rfl))) (fun _ _ _ _ _ => pts_nil) (fun _ _ _ _ _ => (pe_ix (ix_anyK (Kf := K) (by rfl)) (pv 2) (pe_call (ok__law_take T) (hr.mono (by decide)) (by rfl) T.g__law_take T.F__law_take.kp T.b__law_take .nil (show Passes CX0 _ E from pass0) (pa_cons (pv 0) (pa_cons pe_int pa_nil))) (fun _ _ => rfl))))))) pss_nil) (pss_cons (ps_if (pw_and (pt_cmpR (op_eqM (hu_64 hr)) (pv 7) pe_int (nomark _)) (pw_and1 (pt_cmpR (op_neM (hu_64 hr)) (pv 4) (pe_lst pa_nil) (nomark _)))).pt (pss_cons (ps_set (i := 9) sc__law_names.nd rfl (by first | exact .inl rfl | exact .inr rfl) (pe_call (ok__law_take T) (hr.mono (by decide)) (by rfl) T.g__law_take T.F__law_take.kp T.b__law_take .nil (show Passes CX0 _ E from pass0) (pa_cons (pv 0) (pa_cons (pe_callB (call_lenK (Kf := K) (by rfl)) (by rfl) T.n_len PySem.boot_len (pa_cons (pe_ix (ix_anyK (Kf := K) (by rfl)) (pv 4) (pe_un un_neg pe_int) (fun _ _ => rfl)) pa_nil)) pa_nil)))) (pss_one (ps_set (i := 6) sc__law_names.nd rfl (by first | exact .inl rfl | exact .inr rfl) (pe_op op_addA (pe_op op_addA (pe_slice sl_str (pe_ix (ix_anyK (Kf := K) (by rfl)) (pv 4) (pe_un un_neg pe_int) (fun _ _ => rfl)) po_none (po_some (pv 9))) (pe_ix (ix_anyK (Kf := K) (by rfl)) (pv 2) (pe_call (ok__law_take T) (hr.mono (by decide)) (by rfl) T.g__law_take T.F__law_take.kp T.b__law_take .nil (show Passes CX0 _ E from pass0) (pa_cons (pv 0) (pa_cons pe_int pa_nil))) (fun _ _ => rfl))) (pe_slice sl_str (pe_ix (ix_anyK (Kf := K) (by rfl)) (pv 4) (pe_un un_neg pe_int) (fun _ _ => rfl)) (po_some (pe_op op_addA (pv 9) pe_int)) po_none))))) pss_nil) (pss_cons (ps_set (i := 8) sc__law_names.nd rfl (by first | exact .inl rfl | exact .inr rfl) pe_int) (pss_cons (ps_while PassesOwn.never (pt_cmpR (op_inK (Kf := K) (by rfl)) (pv 6) (pv 4) rfl) (pss_cons (ps_set (i := 6) sc__law_names.nd rfl (by first | exact .inl rfl | exact .inr rfl) (pe_op op_mulS (pe_ix (ix_anyK (Kf := K) (by rfl)) (pv 2) (pv 8) (fun _ _ => rfl)) pe_int)) (pss_one (ps_set (i := 8) sc__law_names.nd rfl (by first | exact .inl rfl | exact .inr rfl) (pe_op op_addA (pv 8) pe_int))))) (pss_one (ps_expr (pe_bmK (Kf := K) (by rfl) PySem.F.plainAttrs_list PySem.F.slot_list_append PySem.F.type_list_append mt_append (pv 4) (pa_cons (pv 6) pa_nil))))))))))) (pss_one (ps_ret (pv 4))))))), ?_⟩
    refine fn_body (K := K) [0] (fun _ => by show (2 : Nat) ≤ 10; decide) (fun _ => by show ∀ k ∈ ([0] : List Nat), k < 2; decide) h (fun F a hec hE hK hpv => ?_)
    obtain ⟨x_pool, x_many⟩ := a
    show RS F [] [some (.l x_pool), some (.f x_many), none, none, none, none, none, none, none, none] (m__law_names x_pool x_many) _ _ _
    unfold m__law_names
    refine rs_seq ?_
    refine rs_set ?_ rfl (hpv _ (by decide))
    refine rd_str e_q_abcdefghijklmnopqrstuvwxyz ?_
    refine ⟨_, rfl, (by show (2 : Nat) < 10; decide), ?_⟩
    refine rs_at [some (.l x_pool), some (.f x_many), some (.f (.str q_abcdefghijklmnopqrstuvwxyz)), none, none, none, none, none, none, none] rfl ?_
    refine rs_seq ?_
    refine rs_set ?_ rfl (hpv _ (by decide))
    refine rd_op2 o_ix ?_
    refine rd_lst ?_
    refine ra_cons ?_
    refine rd_str e_q_abcdefg ?_
    intro _
    refine ra_cons ?_
    refine rd_str e_q_placeof ?_
    intro _
    refine ra_cons ?_
    refine rd_str e_q_zyxwvut ?_
    intro _
    refine ra_cons ?_
    refine rd_str e_q_kjqrshn ?_
    intro _
    refine ra_nil ?_
    refine ⟨[(.str q_abcdefg), (.str q_placeof), (.str q_zyxwvut), (.str q_kjqrshn)], rfl, (by show (4 : Nat) ≤ 1000; decide), ?_⟩
    intro _
    refine rd_call hec hE ?_
    refine ra_cons ?_
    refine rd_ali rfl ?_
    intro _
    refine ra_cons ?_
    refine rd_int ?_
    intro _
    refine ra_nil ?_
    refine ⟨(x_pool, (.int 4)), _, rfl, rfl, rfl, fun r2 => ?_⟩
    refine ⟨_, _, _, rfl, rfl, rfl, fun t1 => ?_⟩
    refine ⟨_, rfl, (by show (3 : Nat) < 10; decide), ?_⟩
    refine rs_at [some (.l r2.2), some (.f x_many), some (.f (.str q_abcdefghijklmnopqrstuvwxyz)), some (.f t1), none, none, none, none, none, none] rfl ?_
    refine rs_seq ?_
    refine rs_set ?_ rfl (hpv _ (by decide))
    refine rd_lst ?_
    refine ra_nil ?_
    refine ⟨[], rfl, (by show (0 : Nat) ≤ 1000; decide), ?_⟩
    refine ⟨_, rfl, (by show (4 : Nat) < 10; decide), ?_⟩
    refine rs_at [some (.l r2.2), some (.f x_many), some (.f (.str q_abcdefghijklmnopqrstuvwxyz)), some (.f t1), some (.l []), none, none, none, none, none] rfl ?_
    refine rs_seq ?_
    refine rs_forN (Z := ((List D) × (List D))) [5] ?_
    refine ri_range1 ?_
    refine rd_var rfl ?_
    refine ⟨_, _, rfl, rfl, fun ds5 => ?_⟩
    refine ⟨fun z4 => [some (.l z4.1), some (.f x_many), some (.f (.str q_abcdefghijklmnopqrstuvwxyz)), some (.f t1), some (.l z4.2), none, none, none, none, none], _, _, _, rfl, ⟨.inr rfl, ⟨.inr rfl, ⟨.inr rfl, ⟨.inr rfl, ⟨.inr rfl, ⟨.inl rfl, ⟨.inl rfl, ⟨.inl rfl, ⟨.inl rfl, ⟨.inl rfl, trivial⟩⟩⟩⟩⟩⟩⟩⟩⟩⟩, fun _ => (by first | exact trivial | rfl | exact ⟨rfl, rfl⟩), fun z4 d3 => ?_, fun z4 => ?_⟩
    · refine rg_name (by show (5 : Nat) < 10; decide) rfl (hpv _ (by decide)) ?_
      refine rs_at [some (.l z4.1), some (.f x_many), some (.f (.str q_abcdefghijklmnopqrstuvwxyz)), some (.f t1), some (.l z4.2), some (.f d3), none, none, none, none] rfl ?_
      refine rs_seq ?_
      refine rs_set ?_ rfl (hpv _ (by decide))
      refine rd_op2 o_add ?_
      refine rd_slS ?_
      refine rd_var rfl ?_
      intro _
      refine ro_none ?_
      refine ro_some ?_
      refine rd_call hec hE ?_
      refine ra_cons ?_
      refine rd_ali rfl ?_
      intro _
      refine ra_cons ?_
      refine rd_int ?_
      intro _
      refine ra_nil ?_
      refine ⟨(z4.1, (.int 8)), _, rfl, rfl, rfl, fun r9 => ?_⟩
      refine ⟨_, _, rfl, rfl, fun t8 => ?_⟩
      refine ⟨_, _, rfl, rfl, fun t7 => ?_⟩
      intro _
      refine rd_op2 o_ix ?_
      refine rd_var rfl ?_
      intro _
      refine rd_call hec hE ?_
      refine ra_cons ?_
      refine rd_ali rfl ?_
      intro _
      refine ra_cons ?_
      refine rd_int ?_
      intro _
      refine ra_nil ?_
      refine ⟨(r9.2, (.int 26)), _, rfl, rfl, rfl, fun r11 => ?_⟩
      refine ⟨_, _, _, rfl, rfl, rfl, fun t10 => ?_⟩
      refine ⟨_, _, _, rfl, rfl, rfl, fun t6 => ?_⟩
      refine ⟨_, rfl, (by show (6 : Nat) < 10; decide), ?_⟩
      refine rs_at [some (.l r11.2), some (.f x_many), some (.f (.str q_abcdefghijklmnopqrstuvwxyz)), some (.f t1), some (.l z4.2), some (.f d3), some (.f t6), none, none, none] rfl ?_
      refine rs_seq ?_
      refine rs_set ?_ rfl (hpv _ (by decide))
      refine rd_call hec hE ?_
      refine ra_cons ?_
      refine rd_ali rfl ?_
      intro _
      refine ra_cons ?_
      refine rd_int ?_
      intro _
      refine ra_nil ?_
      refine ⟨(r11.2, (.int 3)), _, rfl, rfl, rfl, fun r12 => ?_⟩
      refine ⟨_, rfl, (by show (7 : Nat) < 10; decide), ?_⟩
      refine rs_at [some (.l r12.2), some (.f x_many), some (.f (.str q_abcdefghijklmnopqrstuvwxyz)), some (.f t1), some (.l z4.2), some (.f d3), some (.f t6), some (.f r12.1), none, none] rfl ?_
      refine rs_seq ?_
      refine rs_join (Z := (D × (List D))) (fun z24 => [some (.l z24.2), some (.f x_many), some (.f (.str q_abcdefghijklmnopqrstuvwxyz)), some (.f t1), some (.l z4.2), some (.f d3), some (.f z24.1), some (.f r12.1), none, none]) _ _ rfl ?_ (fun z24 => ?_)
      · refine rs_if ?_
        refine rt_op2B o_eq ?_
        refine rd_var rfl ?_
        intro _
        refine rd_int ?_
        refine ⟨_, _, _, rfl, rfl, rfl, fun t25 => ?_⟩
        refine ⟨_, _, rfl, fun _ => ?_, fun _ => ?_⟩
        · refine rs_set ?_ rfl (hpv _ (by decide))
          refine rd_jn ?_
          refine rd_str e_qx_ ?_
          refine ⟨_, _, rfl, rfl, fun t27 _ => ?_⟩
          refine rd_lc (Z := (List D)) [8] (fun i hi => hi) (all1 (hpv _ (by decide))) ?_
          refine ri_range1 ?_
          refine rd_op2 o_add ?_
          refine rd_int ?_
          intro _
          refine rd_call hec hE ?_
          refine ra_cons ?_
          refine rd_ali rfl ?_
          intro _
          refine ra_cons ?_
          refine rd_int ?_
          intro _
          refine ra_nil ?_
          refine ⟨(r12.2, (.int 8)), _, rfl, rfl, rfl, fun r33 => ?_⟩
          refine ⟨_, _, _, rfl, rfl, rfl, fun t32 => ?_⟩
          refine ⟨_, _, rfl, rfl, fun ds31 => ?_⟩
          refine ⟨fun z29 => [some (.l z29), some (.f x_many), some (.f (.str q_abcdefghijklmnopqrstuvwxyz)), some (.f t1), some (.l z4.2), some (.f d3), some (.f t6), some (.f r12.1), none, none], r33.2, _, _, rfl, ⟨.inr rfl, ⟨.inr rfl, ⟨.inr rfl, ⟨.inr rfl, ⟨.inr rfl, ⟨.inr rfl, ⟨.inr rfl, ⟨.inr rfl, ⟨.inl rfl, ⟨.inl rfl, trivial⟩⟩⟩⟩⟩⟩⟩⟩⟩⟩, fun _ => (by first | exact trivial | rfl | exact ⟨rfl, rfl⟩), fun _ => (all1 rfl), rfl, fun z29 d28 _ _ => ?_, fun p30 => ?_⟩
          · refine rg_name (by show (8 : Nat) < 10; decide) rfl (hpv _ (by decide)) ?_
            refine rt_true rfl ?_
            refine ⟨_, .ok (none, z29), (if_pos rfl).symm, fun _ => ?_, fun h => by cases h⟩
            refine rd_op2 o_ix ?_
            refine rd_var rfl ?_
            intro _
            refine rd_call hec hE ?_
            refine ra_cons ?_
            refine rd_ali rfl ?_
            intro _
            refine ra_cons ?_
            refine rd_int ?_
            intro _
            refine ra_nil ?_
            refine ⟨(z29, (.int 26)), _, rfl, rfl, rfl, fun r35 => ?_⟩
            refine ⟨_, _, _, rfl, rfl, rfl, fun t34 => ?_⟩
            exact ⟨_, _, rfl, rfl, ⟨.inr rfl, ⟨.inr rfl, ⟨.inr rfl, ⟨.inr rfl, ⟨.inr rfl, ⟨.inr rfl, ⟨.inr rfl, ⟨.inr rfl, ⟨.inl rfl, ⟨.inl rfl, trivial⟩⟩⟩⟩⟩⟩⟩⟩⟩⟩⟩
          · refine ⟨_, _, _, rfl, rfl, rfl, fun t26 => ?_⟩
            refine ⟨_, rfl, (by show (6 : Nat) < 10; decide), ?_⟩
            exact ⟨_, rfl, ⟨.inr rfl, ⟨.inr rfl, ⟨.inr rfl, ⟨.inr rfl, ⟨.inr rfl, ⟨.inr rfl, ⟨.inr rfl, ⟨.inr rfl, ⟨.inl rfl, ⟨.inl rfl, trivial⟩⟩⟩⟩⟩⟩⟩⟩⟩⟩⟩
        · refine rs_next ?_
          exact ⟨_, rfl, ⟨.inr rfl, ⟨.inr rfl, ⟨.inr rfl, ⟨.inr rfl, ⟨.inr rfl, ⟨.inr rfl, ⟨.inr rfl, ⟨.inr rfl, ⟨.inl rfl, ⟨.inl rfl, trivial⟩⟩⟩⟩⟩⟩⟩⟩⟩⟩⟩
      · refine rs_at [some (.l z24.2), some (.f x_many), some (.f (.str q_abcdefghijklmnopqrstuvwxyz)), some (.f t1), some (.l z4.2), some (.f d3), some (.f z24.1), some (.f r12.1), none, none] rfl ?_
        refine rs_seq ?_
        refine rs_join (Z := ((List D) × D)) (fun z56 => [some (.l z56.1), some (.f x_many), some (.f (.str q_abcdefghijklmnopqrstuvwxyz)), some (.f t1), some (.l z4.2), some (.f d3), some (.f z56.2), some (.f r12.1), none, none]) _ _ rfl ?_ (fun z56 => ?_)
        · refine rs_if ?_
          refine rt_and (Z := Unit) ?_
          refine rt_op2B o_eq ?_
          refine rd_var rfl ?_
          intro _
          refine rd_int ?_
          refine ⟨_, _, _, rfl, rfl, rfl, fun t58 => ?_⟩
          refine ⟨fun z => [some (.l z24.2), some (.f x_many), some (.f (.str q_abcdefghijklmnopqrstuvwxyz)), some (.f t1), some (.l z4.2), some (.f d3), some (.f z24.1), some (.f r12.1), none, none], (), _, _, rfl, ⟨.inr rfl, ⟨.inr rfl, ⟨.inr rfl, ⟨.inr rfl, ⟨.inr rfl, ⟨.inr rfl, ⟨.inr rfl, ⟨.inr rfl, ⟨.inl rfl, ⟨.inl rfl, trivial⟩⟩⟩⟩⟩⟩⟩⟩⟩⟩, fun _ => ?_, fun p57 => ?_⟩
          · refine rt_op2B o_ne ?_
            refine rd_ali rfl ?_
            intro _
            refine rd_lst ?_
            refine ra_nil ?_
            refine ⟨[], rfl, (by show (0 : Nat) ≤ 1000; decide), ?_⟩
            refine ⟨_, _, _, rfl, rfl, rfl, fun t59 => ?_⟩
            exact ⟨_, rfl, ⟨.inr rfl, ⟨.inr rfl, ⟨.inr rfl, ⟨.inr rfl, ⟨.inr rfl, ⟨.inr rfl, ⟨.inr rfl, ⟨.inr rfl, ⟨.inl rfl, ⟨.inl rfl, trivial⟩⟩⟩⟩⟩⟩⟩⟩⟩⟩⟩
          · refine ⟨_, _, rfl, fun _ => ?_, fun _ => ?_⟩
            · refine rs_seq ?_
              refine rs_set ?_ rfl (hpv _ (by decide))
              refine rd_call hec hE ?_
              refine ra_cons ?_
              refine rd_ali rfl ?_
              intro _
              refine ra_cons ?_
              refine rd_cb1 o_len ?_
              refine rd_op2 o_ix ?_
              refine rd_ali rfl ?_
              intro _
              refine rd_un o_neg ?_
              refine rd_int ?_
              refine ⟨_, _, rfl, rfl, fun t63 => ?_⟩
              refine ⟨_, _, _, rfl, rfl, rfl, fun t62 => ?_⟩
              refine ⟨_, _, rfl, rfl, fun t61 => ?_⟩
              intro _
              refine ra_nil ?_
              refine ⟨(z24.2, t61), _, rfl, rfl, rfl, fun r60 => ?_⟩
              refine ⟨_, rfl, (by show (9 : Nat) < 10; decide), ?_⟩
              refine rs_at [some (.l r60.2), some (.f x_many), some (.f (.str q_abcdefghijklmnopqrstuvwxyz)), some (.f t1), some (.l z4.2), some (.f d3), some (.f z24.1), some (.f r12.1), none, some (.f r60.1)] rfl ?_
              refine rs_set ?_ rfl (hpv _ (by decide))
              refine rd_op2 o_add ?_
              refine rd_op2 o_add ?_
              refine rd_slS ?_
              refine rd_op2 o_ix ?_
              refine rd_ali rfl ?_
              intro _
              refine rd_un o_neg ?_
              refine rd_int ?_
              refine ⟨_, _, rfl, rfl, fun t68 => ?_⟩
              refine ⟨_, _, _, rfl, rfl, rfl, fun t67 => ?_⟩
              intro _
              refine ro_none ?_
              refine ro_some ?_
              refine rd_var rfl ?_
              refine ⟨_, _, rfl, rfl, fun t69 => ?_⟩
              refine ⟨_, _, rfl, rfl, fun t66 => ?_⟩
              intro _
              refine rd_op2 o_ix ?_
              refine rd_var rfl ?_
              intro _
              refine rd_call hec hE ?_
              refine ra_cons ?_
              refine rd_ali rfl ?_
              intro _
              refine ra_cons ?_
              refine rd_int ?_
              intro _
              refine ra_nil ?_
              refine ⟨(r60.2, (.int 26)), _, rfl, rfl, rfl, fun r71 => ?_⟩
              refine ⟨_, _, _, rfl, rfl, rfl, fun t70 => ?_⟩
              refine ⟨_, _, _, rfl, rfl, rfl, fun t65 => ?_⟩
              intro _
              refine rd_slS ?_
              refine rd_op2 o_ix ?_
              refine rd_ali rfl ?_
              intro _
              refine rd_un o_neg ?_
              refine rd_int ?_
              refine ⟨_, _, rfl, rfl, fun t74 => ?_⟩
              refine ⟨_, _, _, rfl, rfl, rfl, fun t73 => ?_⟩
              intro _
              refine ro_some ?_
              refine rd_op2 o_add ?_
              refine rd_var rfl ?_
              intro _
              refine rd_int ?_
              refine ⟨_, _, _, rfl, rfl, rfl, fun t76 => ?_⟩
              refine ⟨_, _, rfl, rfl, fun t75 => ?_⟩
              refine ro_none ?_
              refine ⟨_, _, rfl, rfl, fun t72 => ?_⟩
              refine ⟨_, _, _, rfl, rfl, rfl, fun t64 => ?_⟩
              refine ⟨_, rfl, (by show (6 : Nat) < 10; decide), ?_⟩
              exact ⟨_, rfl, ⟨.inr rfl, ⟨.inr rfl, ⟨.inr rfl, ⟨.inr rfl, ⟨.inr rfl, ⟨.inr rfl, ⟨.inr rfl, ⟨.inr rfl, ⟨.inl rfl, ⟨.inl rfl, trivial⟩⟩⟩⟩⟩⟩⟩⟩⟩⟩⟩
            · refine rs_next ?_
              exact ⟨_, rfl, ⟨.inr rfl, ⟨.inr rfl, ⟨.inr rfl, ⟨.inr rfl, ⟨.inr rfl, ⟨.inr rfl, ⟨.inr rfl, ⟨.inr rfl, ⟨.inl rfl, ⟨.inl rfl, trivial⟩⟩⟩⟩⟩⟩⟩⟩⟩⟩⟩
        · refine rs_at [some (.l z56.1), some (.f x_many), some (.f (.str q_abcdefghijklmnopqrstuvwxyz)), some (.f t1), some (.l z4.2), some (.f d3), some (.f z56.2), some (.f r12.1), none, none] rfl ?_
          refine rs_seq ?_
          refine rs_set ?_ rfl (hpv _ (by decide))
          refine rd_int ?_
          refine ⟨_, rfl, (by show (8 : Nat) < 10; decide), ?_⟩
          refine rs_at [some (.l z56.1), some (.f x_many), some (.f (.str q_abcdefghijklmnopqrstuvwxyz)), some (.f t1), some (.l z4.2), some (.f d3), some (.f z56.2), some (.f r12.1), some (.f (.int 0)), none] rfl ?_
          refine rs_seq ?_
          refine rs_whileN FU (fun z77 => [some (.l z56.1), some (.f x_many), some (.f (.str q_abcdefghijklmnopqrstuvwxyz)), some (.f t1), some (.l z4.2), some (.f d3), some (.f z77.1), some (.f r12.1), some (.f z77.2), none]) _ _ _ _ rfl ⟨.inr rfl, ⟨.inr rfl, ⟨.inr rfl, ⟨.inr rfl, ⟨.inr rfl, ⟨.inr rfl, ⟨.inr rfl, ⟨.inr rfl, ⟨.inr rfl, ⟨.inl rfl, trivial⟩⟩⟩⟩⟩⟩⟩⟩⟩⟩ (fun z77 => ?_) (fun z77 => ?_) (fun z77 => ?_)
          · refine rt_op2B o_in ?_
            refine rd_var rfl ?_
            intro _
            refine rd_ali rfl ?_
            refine ⟨_, _, _, rfl, rfl, rfl, fun t78 => ?_⟩
            exact ⟨rfl, ⟨.inr rfl, ⟨.inr rfl, ⟨.inr rfl, ⟨.inr rfl, ⟨.inr rfl, ⟨.inr rfl, ⟨.inr rfl, ⟨.inr rfl, ⟨.inr rfl, ⟨.inl rfl, trivial⟩⟩⟩⟩⟩⟩⟩⟩⟩⟩⟩
          · refine rs_seq ?_
            refine rs_set ?_ rfl (hpv _ (by decide))
            refine rd_op2 o_mulS ?_
            refine rd_op2 o_ix ?_
            refine rd_var rfl ?_
            intro _
            refine rd_var rfl ?_
            refine ⟨_, _, _, rfl, rfl, rfl, fun t80 => ?_⟩
            intro _
            refine rd_int ?_
            refine ⟨_, _, _, rfl, rfl, rfl, fun t79 => ?_⟩
            refine ⟨_, rfl, (by show (6 : Nat) < 10; decide), ?_⟩
            refine rs_at [some (.l z56.1), some (.f x_many), some (.f (.str q_abcdefghijklmnopqrstuvwxyz)), some (.f t1), some (.l z4.2), some (.f d3), some (.f t79), some (.f r12.1), some (.f z77.2), none] rfl ?_
            refine rs_set ?_ rfl (hpv _ (by decide))
            refine rd_op2 o_add ?_
            refine rd_var rfl ?_
            intro _
            refine rd_int ?_
            refine ⟨_, _, _, rfl, rfl, rfl, fun t81 => ?_⟩
            refine ⟨_, rfl, (by show (8 : Nat) < 10; decide), ?_⟩
            exact ⟨_, rfl, ⟨.inr rfl, ⟨.inr rfl, ⟨.inr rfl, ⟨.inr rfl, ⟨.inr rfl, ⟨.inr rfl, ⟨.inr rfl, ⟨.inr rfl, ⟨.inr rfl, ⟨.inl rfl, trivial⟩⟩⟩⟩⟩⟩⟩⟩⟩⟩⟩
          · refine rs_at [some (.l z56.1), some (.f x_many), some (.f (.str q_abcdefghijklmnopqrstuvwxyz)), some (.f t1), some (.l z4.2), some (.f d3), some (.f z77.1), some (.f r12.1), some (.f z77.2), none] rfl ?_
            refine rs_drop ?_
            refine rd_append ?_
            refine rd_ali rfl ?_
            refine ⟨4, _, rfl, rfl, fun _ => ?_⟩
            refine rd_var rfl ?_
            refine ⟨_, _, _, rfl, rfl, rfl, fun t82 => ?_⟩
            exact ⟨_, rfl, ⟨.inr rfl, ⟨.inr rfl, ⟨.inr rfl, ⟨.inr rfl, ⟨.inr rfl, ⟨.inl rfl, ⟨.inl rfl, ⟨.inl rfl, ⟨.inl rfl, ⟨.inl rfl, trivial⟩⟩⟩⟩⟩⟩⟩⟩⟩⟩⟩
    · refine rs_at [some (.l z4.1), some (.f x_many), some (.f (.str q_abcdefghijklmnopqrstuvwxyz)), some (.f t1), some (.l z4.2), none, none, none, none, none] rfl ?_
      refine rs_ret ?_
      refine rd_mv rfl ?_
      refine ⟨_, rfl, ?_⟩
      exact ⟨_, rfl, rfl, ⟨rfl, by decide, trivial⟩⟩
theorem ok__law_turned (T : Tx w K mg) : FnOk P w K mg base CX0 1 T.a__law_turned T.d__law_turned ["signs", "at"] (spOf (A := D × D) (R := D) EC.ec (fun a => [.f a.1, .f a.2]) (fun a => m__law_turned a.1 a.2) (fun r => .f r) (fun r => [none, none])) := by
  refine T.F__law_turned.ok sc__law_turned (fun vs H Q E h => ?_) (fun cdv A outer s H vs Q E hr h => ?_)
  · obtain ⟨a, G, w, _, _, hl, _⟩ := h; exact hl
  · refine ⟨_, (pss_one (ps_ret (pe_op op_addA (pe_op op_addA (pe_slice sl_str (pv 0) po_none (po_some (pv 1))) (pe_ix (ix_anyK (Kf := K) (by rfl)) pe_str (pe_callTy call_intA (by rfl) T.n_int PyProof.Rows.boot_int (pa_cons (pe_ix (ix_anyK (Kf := K) (by rfl)) (pv 0) (pv 1) (fun _ _ => rfl)) pa_nil)) (fun _ _ => rfl))) (pe_slice sl_str (pv 0) (po_some (pe_op op_addA (pv 1) pe_int)) po_none)))), ?_⟩
    refine fn_body (K := K) [] (fun _ => by show (2 : Nat) ≤ 2; decide) (fun _ => by show ∀ k ∈ ([] : List Nat), k < 2; decide) h (fun F a hec hE hK hpv => ?_)
    obtain ⟨x_signs, x_at⟩ := a
    show RS F [] [some (.f x_signs), some (.f x_at)] (m__law_turned x_signs x_at) _ _ _
    unfold m__law_turned
    refine rs_ret ?_
    refine rd_op2 o_add ?_
    refine rd_op2 o_add ?_
    refine rd_slS ?_
    refine rd_var rfl ?_
    intro _
    refine ro_none ?_
    refine ro_some ?_
    refine rd_var rfl ?_
    refine ⟨_, _, rfl, rfl, fun t4 => ?_⟩
    refine ⟨_, _, rfl, rfl, fun t3 => ?_⟩
    intro _
    refine rd_op2 o_ix ?_
    refine rd_str e_q_10 ?_
    intro _
    refine rd_cb1 o_int ?_
    refine rd_op2 o_ix ?_
    refine rd_var rfl ?_
    intro _
    refine rd_var rfl ?_
    refine ⟨_, _, _, rfl, rfl, rfl, fun t7 => ?_⟩
    refine ⟨_, _, rfl, rfl, fun t6 => ?_⟩
    refine ⟨_, _, _, rfl, rfl, rfl, fun t5 => ?_⟩
    refine ⟨_, _, _, rfl, rfl, rfl, fun t2 => ?_⟩
    intro _
    refine rd_slS ?_
    refine rd_var rfl ?_
    intro _
    refine ro_some ?_
    refine rd_op2 o_add ?_
    refine rd_var rfl ?_
    intro _
    refine rd_int ?_
    refine ⟨_, _, _, rfl, rfl, rfl, fun t10 => ?_⟩
    refine ⟨_, _, rfl, rfl, fun t9 => ?_⟩
    refine ro_none ?_
    refine ⟨_, _, rfl, rfl, fun t8 => ?_⟩
    refine ⟨_, _, _, rfl, rfl, rfl, fun t1 => ?_⟩
    refine ⟨_, rfl, ?_⟩
    exact ⟨_, rfl, rfl, trivial⟩
theorem ok__law_order (T : Tx w K mg) : FnOk P w K mg base CX0 2 T.a__law_order T.d__law_order ["pool", "things"] (spOf (A := (List D) × D) (R := (List D) × (List D)) EC.ec (fun a => [.l a.1, .f a.2]) (fun a => m__law_order a.1 a.2) (fun r => .l r.1) (fun r => [some (.l r.2), none])) := by
  refine T.F__law_order.ok sc__law_order (fun vs H Q E h => ?_) (fun cdv A outer s H vs Q E hr h => ?_)
  · obtain ⟨a, G, w, _, _, hl, _⟩ := h; exact hl
  · refine ⟨_, (pss_cons (ps_set (i := 2) sc__law_order.nd rfl (by first | exact .inl rfl | exact .inr rfl) (pe_callTy (call_listK (Kf := K) (by rfl)) (by rfl) T.n_list PyProof.Rows.boot_list (pa_cons (pv 1) pa_nil))) (pss_cons (ps_set (i := 3) sc__law_order.nd rfl (by first | exact .inl rfl | exact .inr rfl) (pe_lst pa_nil)) (pss_cons (ps_while PassesOwn.never (pt_cmpR (op_neM (hu_64 hr)) (pv 2) (pe_lst pa_nil) (nomark _)) (pss_one (ps_expr (pe_bmK (Kf := K) (by rfl) PySem.F.plainAttrs_list PySem.F.slot_list_append PySem.F.type_list_append mt_append (pv 3) (pa_cons (pe_bmK (Kf := K) (by rfl) PySem.F.plainAttrs_list PySem.F.slot_list_pop PySem.F.type_list_pop mt_popAt (pv 2) (pa_cons (pe_call (ok__law_take T) (hr.mono (by decide)) (by rfl) T.g__law_take T.F__law_take.kp T.b__law_take .nil (show Passes CX0 _ E from pass0) (pa_cons (pv 0) (pa_cons (pe_callB (call_lenK (Kf := K) (by rfl)) (by rfl) T.n_len PySem.boot_len (pa_cons (pv 2) pa_nil)) pa_nil))) pa_nil)) pa_nil))))) (pss_one (ps_ret (pv 3)))))), ?_⟩
    refine fn_body (K := K) [0] (fun _ => by show (2 : Nat) ≤ 4; decide) (fun _ => by show ∀ k ∈ ([0] : List Nat), k < 2; decide) h (fun F a hec hE hK hpv => ?_)
    obtain ⟨x_pool, x_things⟩ := a
    show RS F [] [some (.l x_pool), some (.f x_things), none, none] (m__law_order x_pool x_things) _ _ _
    unfold m__law_order
    refine rs_seq ?_
    refine rs_set ?_ rfl (hpv _ (by decide))
    refine rd_cb1L o_list ?_
    refine rd_var rfl ?_
    refine ⟨_, _, rfl, rfl, fun t1 => ?_⟩
    refine ⟨_, rfl, (by show (2 : Nat) < 4; decide), ?_⟩
    refine rs_at [some (.l x_pool), some (.f x_things), some (.l t1), none] rfl ?_
    refine rs_seq ?_
    refine rs_set ?_ rfl (hpv _ (by decide))
    refine rd_lst ?_
    refine ra_nil ?_
    refine ⟨[], rfl, (by show (0 : Nat) ≤ 1000; decide), ?_⟩
    refine ⟨_, rfl, (by show (3 : Nat) < 4; decide), ?_⟩
    refine rs_at [some (.l x_pool), some (.f x_things), some (.l t1), some (.l [])] rfl ?_
    refine rs_seq ?_
    refine rs_whileN FU (fun z2 => [some (.l z2.2.2), some (.f x_things), some (.l z2.2.1), some (.l z2.1)]) _ _ _ _ rfl ⟨.inr rfl, ⟨.inr rfl, ⟨.inr rfl, ⟨.inr rfl, trivial⟩⟩⟩⟩ (fun z2 => ?_) (fun z2 => ?_) (fun z2 => ?_)
    · refine rt_op2B o_ne ?_
      refine rd_ali rfl ?_
      intro _
      refine rd_lst ?_
      refine ra_nil ?_
      refine ⟨[], rfl, (by show (0 : Nat) ≤ 1000; decide), ?_⟩
      refine ⟨_, _, _, rfl, rfl, rfl, fun t3 => ?_⟩
      exact ⟨rfl, ⟨.inr rfl, ⟨.inr rfl, ⟨.inr rfl, ⟨.inr rfl, trivial⟩⟩⟩⟩⟩
    · refine rs_drop ?_
      refine rd_append ?_
      refine rd_ali rfl ?_
      refine ⟨3, _, rfl, rfl, fun _ => ?_⟩
      refine rd_popAt ?_
      refine rd_ali rfl ?_
      refine ⟨2, _, rfl, rfl, fun _ => ?_⟩
      refine rd_call hec hE ?_
      refine ra_cons ?_
      refine rd_ali rfl ?_
      intro _
      refine ra_cons ?_
      refine rd_cb1 o_len ?_
      refine rd_ali rfl ?_
      refine ⟨_, _, rfl, rfl, fun t7 => ?_⟩
      intro _
      refine ra_nil ?_
      refine ⟨(z2.2.2, t7), _, rfl, rfl, rfl, fun r6 => ?_⟩
      refine ⟨_, _, _, rfl, rfl, rfl, fun t5 => ?_⟩
      refine ⟨_, _, _, rfl, rfl, rfl, fun t4 => ?_⟩
      exact ⟨_, rfl, ⟨.inr rfl, ⟨.inr rfl, ⟨.inr rfl, ⟨.inr rfl, trivial⟩⟩⟩⟩⟩
    · refine rs_at [some (.l z2.2.2), some (.f x_things), some (.l z2.2.1), some (.l z2.1)] rfl ?_
      refine rs_ret ?_
      refine rd_mv rfl ?_
      refine ⟨_, rfl, ?_⟩
      exact ⟨_, rfl, rfl, ⟨rfl, by decide, trivial⟩⟩
theorem ok__law_sheet (T : Tx w K mg) : FnOk P w K mg base CX0 3 T.a__law_sheet T.d__law_sheet ["pool", "most"] (spOf (A := (List D) × D) (R := D × (List D)) EC.ec (fun a => [.l a.1, .f a.2]) (fun a => m__law_sheet a.1 a.2) (fun r => .f r.1) (fun r => [some (.l r.2), none])) := by
  refine T.F__law_sheet.ok sc__law_sheet (fun vs H Q E h => ?_) (fun cdv A outer s H vs Q E hr h => ?_)
  · obtain ⟨a, G, w, _, _, hl, _⟩ := h; exact hl
  · refine ⟨_, (pss_cons (ps_set (i := 2) sc__law_sheet.nd rfl (by first | exact .inl rfl | exact .inr rfl) (pe_call (ok__law_names T) (hr.mono (by decide)) (by rfl) T.g__law_names T.F__law_names.kp T.b__law_names .nil (show Passes CX0 _ E from pass0) (pa_cons (pv 0) (pa_cons (pe_op op_addA pe_int (pe_ix (ix_anyK (Kf := K) (by rfl)) (pe_lst (pa_cons (pe_call (ok__law_take T) (hr.mono (by decide)) (by rfl) T.g__law_take T.F__law_take.kp T.b__law_take .nil (show Passes CX0 _ E from pass0) (pa_cons (pv 0) (pa_cons pe_int pa_nil))) (pa_cons (pe_call (ok__law_take T) (hr.mono (by decide)) (by rfl) T.g__law_take T.F__law_take.kp T.b__law_take .nil (show Passes CX0 _ E from pass0) (pa_cons (pv 0) (pa_cons pe_int pa_nil))) (pa_cons (pe_call (ok__law_take T) (hr.mono (by decide)) (by rfl) T.g__law_take T.F__law_take.kp T.b__law_take .nil (show Passes CX0 _ E from pass0) (pa_cons (pv 0) (pa_cons pe_int pa_nil))) pa_nil)))) (pe_call (ok__law_take T) (hr.mono (by decide)) (by rfl) T.g__law_take T.F__law_take.kp T.b__law_take .nil (show Passes CX0 _ E from pass0) (pa_cons (pv 0) (pa_cons pe_int pa_nil))) (fun _ _ => rfl))) pa_nil)))) (pss_cons (ps_set (i := 3) sc__law_sheet.nd rfl (by first | exact .inl rfl | exact .inr rfl) (pe_callB (call_max2 rfl) (by rfl) T.n_max PyProof.Rows.boot_max (pa_cons pe_int (pa_cons (pe_op op_sub (pe_callB (call_lenK (Kf := K) (by rfl)) (by rfl) T.n_len PySem.boot_len (pa_cons (pv 2) pa_nil)) pe_int) pa_nil)))) (pss_cons (ps_set (i := 4) sc__law_sheet.nd rfl (by first | exact .inl rfl | exact .inr rfl) (pe_op op_addA (pv 3) (pe_call (ok__law_take T) (hr.mono (by decide)) (by rfl) T.g__law_take T.F__law_take.kp T.b__law_take .nil (show Passes CX0 _ E from pass0) (pa_cons (pv 0) (pa_cons (pe_op op_addA (pe_op op_sub (pe_callB (call_min2 rfl) (by rfl) T.n_min PyProof.Rows.boot_min (pa_cons pe_int (pa_cons (pe_op op_sub (pe_callB (call_lenK (Kf := K) (by rfl)) (by rfl) T.n_len PySem.boot_len (pa_cons (pv 2) pa_nil)) pe_int) pa_nil))) (pv 3)) pe_int) pa_nil))))) (pss_cons (ps_set (i := 5) sc__law_sheet.nd rfl (by first | exact .inl rfl | exact .inr rfl) (pe_lst (pa_cons (pe_joinK (Kf := K) (by rfl) pe_str (pe_lc (own := [("name", 11)]) rfl (by exact sc__law_sheet.nd) (pi_listK (Kf := K) (by rfl) (pv 2)) blk__law_sheet_2 (fun _ _ _ _ _ => (pg_name (i := 11) sc__law_sheet.nd rfl (by first | exact .inl rfl | exact .inr rfl))) (fun _ _ _ _ _ => pts_nil) (fun _ _ _ _ _ => (pe_ix (ix_anyK (Kf := K) (by rfl)) pe_str (pe_call (ok__law_take T) (hr.mono (by decide)) (by rfl) T.g__law_take T.F__law_take.kp T.b__law_take .nil (show Passes CX0 _ E from pass0) (pa_cons (pv 0) (pa_cons pe_int pa_nil))) (fun _ _ => rfl))))) pa_nil))) (pss_cons (ps_set (i := 6) sc__law_sheet.nd rfl (by first | exact .inl rfl | exact .inr rfl) (pe_lst pa_nil)) (pss_cons (ps_set (i := 7) sc__law_sheet.nd rfl (by first | exact .inl rfl | exact .inr rfl) (pe_op op_addA pe_int (pe_call (ok__law_take T) (hr.mono (by decide)) (by rfl) T.g__law_take T.F__law_take.kp T.b__law_take .nil (show Passes CX0 _ E from pass0) (pa_cons (pv 0) (pa_cons pe_int pa_nil))))) (pss_cons (ps_while PassesOwn.never (pt_cmpR op_ltA (pe_callB (call_lenK (Kf := K) (by rfl)) (by rfl) T.n_len PySem.boot_len (pa_cons (pv 6) pa_nil)) (pe_callB (call_lenK (Kf := K) (by rfl)) (by rfl) T.n_len PySem.boot_len (pa_cons (pv 5) pa_nil)) (nomark _)) (pss_cons (ps_set (i := 9) sc__law_sheet.nd rfl (by first | exact .inl rfl | exact .inr rfl) (pe_lst pa_nil)) (pss_cons (ps_for PassesOwn.never rfl (pi_enumK (Kf := K) (by rfl) (by rfl) T.n_enumerate (pa_cons (pv 2) pa_nil)) (pg_tupK (Kf := K) (n := 2) (by rfl) rfl (pgs_cons (pg_name (i := 10) sc__law_sheet.nd rfl (by first | exact .inl rfl | exact .inr rfl)) (pgs_cons (pg_name (i := 11) sc__law_sheet.nd rfl (by first | exact .inl rfl | exact .inr rfl)) pgs_nil))) (pss_cons (ps_set (i := 12) sc__law_sheet.nd rfl (by first | exact .inl rfl | exact .inr rfl) (pe_call (ok__law_turned T) (hr.mono (by decide)) (by rfl) T.g__law_turned T.F__law_turned.kp T.b__law_turned .nil (show Passes CX0 _ E from pass0) (pa_cons (pe_ix (ix_anyK (Kf := K) (by rfl)) (pv 5) (pe_callB (call_lenK (Kf := K) (by rfl)) (by rfl) T.n_len PySem.boot_len (pa_cons (pv 6) pa_nil)) (fun _ _ => rfl)) (pa_cons (pv 10) pa_nil)))) (pss_cons (ps_setLc (i := 13) (own := [("to", 15), ("one", 16)]) rfl sc__law_sheet.nd rfl (by rfl) (by rfl) (pi_enumK (Kf := K) (by rfl) (by rfl) T.n_enumerate (pa_cons (pv 5) pa_nil)) blk__law_sheet_1 (fun _ _ _ _ _ => (pg_tupK (Kf := K) (n := 2) (by rfl) rfl (pgs_cons (pg_name (i := 15) sc__law_sheet.nd rfl (by first | exact .inl rfl | exact .inr rfl)) (pgs_cons (pg_name (i := 16) sc__law_sheet.nd rfl (by first | exact .inl rfl | exact .inr rfl)) pgs_nil)))) (fun _ _ _ _ _ => (pts_one (pt_cmpR (op_eqM (hu_64 hr)) (pv 16) (pv 12) (nomark _)))) (fun _ _ _ _ _ => (pv 15))) (pss_cons (ps_set (i := 14) sc__law_sheet.nd rfl (by first | exact .inl rfl | exact .inr rfl) (pe_or (pe_cmpR (op_eqM (hu_64 hr)) (pv 13) (pe_lst pa_nil) (nomark _)) (pe_one (pe_cmpR (op_eqM (hu_64 hr)) (pe_call (ok__law_take T) (hr.mono (by decide)) (by rfl) T.g__law_take T.F__law_take.kp T.b__law_take .nil (show Passes CX0 _ E from pass0) (pa_cons (pv 0) (pa_cons pe_int pa_nil))) pe_int (nomark _))))) (pss_cons (ps_if (pt_cmpR op_ge (pe_callB (call_lenK (Kf := K) (by rfl)) (by rfl) T.n_len PySem.boot_len (pa_cons (pv 5) pa_nil)) (pv 1) (nomark _)) (pss_one (ps_set (i := 14) sc__law_sheet.nd rfl (by first | exact .inl rfl | exact .inr rfl) pe_bl)) pss_nil) (pss_one (ps_if (pw_and (pt_cmpR op_ltA (pe_call (ok__law_take T) (hr.mono (by decide)) (by rfl) T.g__law_take T.F__law_take.kp T.b__law_take .nil (show Passes CX0 _ E from pass0) (pa_cons (pv 0) (pa_cons pe_int pa_nil))) (pv 7) (nomark _)) (pw_and1 (pw_or (pt_val (pv 14)) (pw_or1 (pt_cmpR (op_neM (hu_64 hr)) (pv 13) (pe_lst pa_nil) (nomark _)))).pt)).pt (pss_cons (ps_if (pt_val (pv 14)) (pss_cons (ps_expr (pe_bmK (Kf := K) (by rfl) PySem.F.plainAttrs_list PySem.F.slot_list_append PySem.F.type_list_append mt_append (pv 5) (pa_cons (pv 12) pa_nil))) (pss_one (ps_set (i := 13) sc__law_sheet.nd rfl (by first | exact .inl rfl | exact .inr rfl) (pe_lst (pa_cons (pe_op op_sub (pe_callB (call_lenK (Kf := K) (by rfl)) (by rfl) T.n_len PySem.boot_len (pa_cons (pv 5) pa_nil)) pe_int) pa_nil))))) pss_nil) (pss_one (ps_expr (pe_bmK (Kf := K) (by rfl) PySem.F.plainAttrs_list PySem.F.slot_list_append PySem.F.type_list_append mt_append (pv 9) (pa_cons (pe_tup (pa_cons (pv 11) (pa_cons (pe_ix (ix_anyK (Kf := K) (by rfl)) (pv 13) (pe_call (ok__law_take T) (hr.mono (by decide)) (by rfl) T.g__law_take T.F__law_take.kp T.b__law_take .nil (show Passes CX0 _ E from pass0) (pa_cons (pv 0) (pa_cons (pe_callB (call_lenK (Kf := K) (by rfl)) (by rfl) T.n_len PySem.boot_len (pa_cons (pv 13) pa_nil)) pa_nil))) (fun _ _ => rfl)) pa_nil))) pa_nil))))) pss_nil))))))) (pss_one (ps_expr (pe_bmK (Kf := K) (by rfl) PySem.F.plainAttrs_list PySem.F.slot_list_append PySem.F.type_list_append mt_append (pv 6) (pa_cons (pe_call (ok__law_order T) (hr.mono (by decide)) (by rfl) T.g__law_order T.F__law_order.kp T.b__law_order .nil (show Passes CX0 _ E from pass0) (pa_cons (pv 0) (pa_cons (pv 9) pa_nil))) pa_nil))))))) (pss_cons (ps_set (i := 8) sc__law_sheet.nd rfl (by first | exact .inl rfl | exact .inr rfl) (pe_op op_addA (pe_callB (call_lenK (Kf := K) (by rfl)) (by rfl) T.n_len PySem.boot_len (pa_cons (pv 6) pa_nil)) (pe_op op_mul (pe_call (ok__law_take T) (hr.mono (by decide)) (by rfl) T.g__law_take T.F__law_take.kp T.b__law_take .nil (show Passes CX0 _ E from pass0) (pa_cons (pv 0) (pa_cons pe_int pa_nil))) (pe_call (ok__law_take T) (hr.mono (by decide)) (by rfl) T.g__law_take T.F__law_take.kp T.b__law_take .nil (show Passes CX0 _ E from pass0) (pa_cons (pv 0) (pa_cons (pe_callB (call_min2 rfl) (by rfl) T.n_min PyProof.Rows.boot_min (pa_cons pe_int (pa_cons (pe_op op_sub pe_int (pe_callB (call_lenK (Kf := K) (by rfl)) (by rfl) T.n_len PySem.boot_len (pa_cons (pv 6) pa_nil))) pa_nil))) pa_nil)))))) (pss_cons (ps_while PassesOwn.never (pt_cmpR op_ltA (pe_callB (call_lenK (Kf := K) (by rfl)) (by rfl) T.n_len PySem.boot_len (pa_cons (pv 6) pa_nil)) (pv 8) (nomark _)) (pss_one (ps_expr (pe_bmK (Kf := K) (by rfl) PySem.F.plainAttrs_list PySem.F.slot_list_append PySem.F.type_list_append mt_append (pv 6) (pa_cons (pe_lc (own := [("name", 11)]) rfl (by exact sc__law_sheet.nd) (pi_listK (Kf := K) (by rfl) (pv 2)) blk__law_sheet_0 (fun _ _ _ _ _ => (pg_name (i := 11) sc__law_sheet.nd rfl (by first | exact .inl rfl | exact .inr rfl))) (fun _ _ _ _ _ => (pts_one (pt_cmpR (op_eqM (hu_64 hr)) (pe_call (ok__law_take T) (hr.mono (by decide)) (by rfl) T.g__law_take T.F__law_take.kp T.b__law_take .nil (show Passes CX0 _ E from pass0) (pa_cons (pv 0) (pa_cons pe_int pa_nil))) pe_int (nomark _)))) (fun _ _ _ _ _ => (pe_tup (pa_cons (pv 11) (pa_cons (pe_call (ok__law_take T) (hr.mono (by decide)) (by rfl) T.g__law_take T.F__law_take.kp T.b__law_take .nil (show Passes CX0 _ E from pass0) (pa_cons (pv 0) (pa_cons (pv 8) pa_nil))) pa_nil))))) pa_nil))))) (pss_one (ps_ret (pe_tup (pa_cons (pe_slice (sl_listK (Kf := K) (by rfl)) (pv 2) po_none (po_some (pv 4))) (pa_cons (pe_slice (sl_listK (Kf := K) (by rfl)) (pv 2) (po_some (pv 4)) po_none) (pa_cons (pe_ix (ix_anyK (Kf := K) (by rfl)) (pv 5) pe_int (fun _ _ => rfl)) (pa_cons (pv 6) pa_nil)))))))))))))))), ?_⟩
    refine fn_body (K := K) [0] (fun _ => by show (2 : Nat) ≤ 17; decide) (fun _ => by show ∀ k ∈ ([0] : List Nat), k < 2; decide) h (fun F a hec hE hK hpv => ?_)
    obtain ⟨x_pool, x_most⟩ := a
    show RS F [] [some (.l x_pool), some (.f x_most), none, none, none, none, none, none, none, none, none, none, none, none, none, none, none] (m__law_sheet x_pool x_most) _ _ _
    unfold m__law_sheet
    refine rs_seq ?_
    refine rs_set ?_ rfl (hpv _ (by decide))
    refine rd_fz ?_
    refine rd_call hec hE ?_
    refine ra_cons ?_
    refine rd_ali rfl ?_
    intro _
    refine ra_cons ?_
    refine rd_op2 o_add ?_
    refine rd_int ?_
    intro _
    refine rd_op2 o_ix ?_
    refine rd_lst ?_
    refine ra_cons ?_
    refine rd_call hec hE ?_
    refine ra_cons ?_
    refine rd_ali rfl ?_
    intro _
    refine ra_cons ?_
    refine rd_int ?_
    intro _
    refine ra_nil ?_
    refine ⟨(x_pool, (.int 4)), _, rfl, rfl, rfl, fun r4 => ?_⟩
    intro _
    refine ra_cons ?_
    refine rd_call hec hE ?_
    refine ra_cons ?_
    refine rd_ali rfl ?_
    intro _
    refine ra_cons ?_
    refine rd_int ?_
    intro _
    refine ra_nil ?_
    refine ⟨(r4.2, (.int 7)), _, rfl, rfl, rfl, fun r5 => ?_⟩
    intro _
    refine ra_cons ?_
    refine rd_call hec hE ?_
    refine ra_cons ?_
    refine rd_ali rfl ?_
    intro _
    refine ra_cons ?_
    refine rd_int ?_
    intro _
    refine ra_nil ?_
    refine ⟨(r5.2, (.int 11)), _, rfl, rfl, rfl, fun r6 => ?_⟩
    intro _
    refine ra_nil ?_
    refine ⟨[r4.1, r5.1, r6.1], rfl, (by show (3 : Nat) ≤ 1000; decide), ?_⟩
    intro _
    refine rd_call hec hE ?_
    refine ra_cons ?_
    refine rd_ali rfl ?_
    intro _
    refine ra_cons ?_
    refine rd_int ?_
    intro _
    refine ra_nil ?_
    refine ⟨(r6.2, (.int 3)), _, rfl, rfl, rfl, fun r7 => ?_⟩
    refine ⟨_, _, _, rfl, rfl, rfl, fun t3 => ?_⟩
    refine ⟨_, _, _, rfl, rfl, rfl, fun t2 => ?_⟩
    intro _
    refine ra_nil ?_
    refine ⟨(r7.2, t2), _, rfl, rfl, rfl, fun r1 => ?_⟩
    refine ⟨_, rfl, ?_⟩
    refine ⟨_, rfl, (by show (2 : Nat) < 17; decide), ?_⟩
    refine rs_at [some (.l r1.2), some (.f x_most), some (.f (.lst r1.1)), none, none, none, none, none, none, none, none, none, none, none, none, none, none] rfl ?_
    refine rs_seq ?_
    refine rs_set ?_ rfl (hpv _ (by decide))
    refine rd_cb2 o_max ?_
    refine rd_int ?_
    intro _
    refine rd_op2 o_sub ?_
    refine rd_cb1 o_len ?_
    refine rd_var rfl ?_
    refine ⟨_, _, rfl, rfl, fun t10 => ?_⟩
    intro _
    refine rd_int ?_
    refine ⟨_, _, _, rfl, rfl, rfl, fun t9 => ?_⟩
    refine ⟨_, _, _, rfl, rfl, rfl, fun t8 => ?_⟩
    refine ⟨_, rfl, (by show (3 : Nat) < 17; decide), ?_⟩
    refine rs_at [some (.l r1.2), some (.f x_most), some (.f (.lst r1.1)), some (.f t8), none, none, none, none, none, none, none, none, none, none, none, none, none] rfl ?_
    refine rs_seq ?_
    refine rs_set ?_ rfl (hpv _ (by decide))
    refine rd_op2 o_add ?_
    refine rd_var rfl ?_
    intro _
    refine rd_call hec hE ?_
    refine ra_cons ?_
    refine rd_ali rfl ?_
    intro _
    refine ra_cons ?_
    refine rd_op2 o_add ?_
    refine rd_op2 o_sub ?_
    refine rd_cb2 o_min ?_
    refine rd_int ?_
    intro _
    refine rd_op2 o_sub ?_
    refine rd_cb1 o_len ?_
    refine rd_var rfl ?_
    refine ⟨_, _, rfl, rfl, fun t17 => ?_⟩
    intro _
    refine rd_int ?_
    refine ⟨_, _, _, rfl, rfl, rfl, fun t16 => ?_⟩
    refine ⟨_, _, _, rfl, rfl, rfl, fun t15 => ?_⟩
    intro _
    refine rd_var rfl ?_
    refine ⟨_, _, _, rfl, rfl, rfl, fun t14 => ?_⟩
    intro _
    refine rd_int ?_
    refine ⟨_, _, _, rfl, rfl, rfl, fun t13 => ?_⟩
    intro _
    refine ra_nil ?_
    refine ⟨(r1.2, t13), _, rfl, rfl, rfl, fun r12 => ?_⟩
    refine ⟨_, _, _, rfl, rfl, rfl, fun t11 => ?_⟩
    refine ⟨_, rfl, (by show (4 : Nat) < 17; decide), ?_⟩
    refine rs_at [some (.l r12.2), some (.f x_most), some (.f (.lst r1.1)), some (.f t8), some (.f t11), none, none, none, none, none, none, none, none, none, none, none, none] rfl ?_
    refine rs_seq ?_
    refine rs_set ?_ rfl (hpv _ (by decide))
    refine rd_lst ?_
    refine ra_cons ?_
    refine rd_jn ?_
    refine rd_str e_qx_ ?_
    refine ⟨_, _, rfl, rfl, fun t19 _ => ?_⟩
    refine rd_lc (Z := (List D)) [11] (fun i hi => hi) (all1 (hpv _ (by decide))) ?_
    refine ri_lst ?_
    refine rd_var rfl ?_
    refine ⟨_, _, rfl, rfl, fun ds23 _ => ?_⟩
    refine ⟨fun z21 => [some (.l z21), some (.f x_most), some (.f (.lst r1.1)), some (.f t8), some (.f t11), none, none, none, none, none, none, none, none, none, none, none, none], r12.2, _, _, rfl, ⟨.inr rfl, ⟨.inr rfl, ⟨.inr rfl, ⟨.inr rfl, ⟨.inr rfl, ⟨.inl rfl, ⟨.inl rfl, ⟨.inl rfl, ⟨.inl rfl, ⟨.inl rfl, ⟨.inl rfl, ⟨.inl rfl, ⟨.inl rfl, ⟨.inl rfl, ⟨.inl rfl, ⟨.inl rfl, ⟨.inl rfl, trivial⟩⟩⟩⟩⟩⟩⟩⟩⟩⟩⟩⟩⟩⟩⟩⟩⟩, fun _ => (by first | exact trivial | rfl | exact ⟨rfl, rfl⟩), fun _ => (all1 rfl), rfl, fun z21 d20 _ _ => ?_, fun p22 => ?_⟩
    · refine rg_name (by show (11 : Nat) < 17; decide) rfl (hpv _ (by decide)) ?_
      refine rt_true rfl ?_
      refine ⟨_, .ok (none, z21), (if_pos rfl).symm, fun _ => ?_, fun h => by cases h⟩
      refine rd_op2 o_ix ?_
      refine rd_str e_q_01 ?_
      intro _
      refine rd_call hec hE ?_
      refine ra_cons ?_
      refine rd_ali rfl ?_
      intro _
      refine ra_cons ?_
      refine rd_int ?_
      intro _
      refine ra_nil ?_
      refine ⟨(z21, (.int 2)), _, rfl, rfl, rfl, fun r25 => ?_⟩
      refine ⟨_, _, _, rfl, rfl, rfl, fun t24 => ?_⟩
      exact ⟨_, _, rfl, rfl, ⟨.inr rfl, ⟨.inr rfl, ⟨.inr rfl, ⟨.inr rfl, ⟨.inr rfl, ⟨.inl rfl, ⟨.inl rfl, ⟨.inl rfl, ⟨.inl rfl, ⟨.inl rfl, ⟨.inl rfl, ⟨.inl rfl, ⟨.inl rfl, ⟨.inl rfl, ⟨.inl rfl, ⟨.inl rfl, ⟨.inl rfl, trivial⟩⟩⟩⟩⟩⟩⟩⟩⟩⟩⟩⟩⟩⟩⟩⟩⟩⟩
    · refine ⟨_, _, _, rfl, rfl, rfl, fun t18 => ?_⟩
      intro _
      refine ra_nil ?_
      refine ⟨[t18], rfl, (by show (1 : Nat) ≤ 1000; decide), ?_⟩
      refine ⟨_, rfl, (by show (5 : Nat) < 17; decide), ?_⟩
      refine rs_at [some (.l p22.2), some (.f x_most), some (.f (.lst r1.1)), some (.f t8), some (.f t11), some (.l [t18]), none, none, none, none, none, none, none, none, none, none, none] rfl ?_
      refine rs_seq ?_
      refine rs_set ?_ rfl (hpv _ (by decide))
      refine rd_lst ?_
      refine ra_nil ?_
      refine ⟨[], rfl, (by show (0 : Nat) ≤ 1000; decide), ?_⟩
      refine ⟨_, rfl, (by show (6 : Nat) < 17; decide), ?_⟩
      refine rs_at [some (.l p22.2), some (.f x_most), some (.f (.lst r1.1)), some (.f t8), some (.f t11), some (.l [t18]), some (.l []), none, none, none, none, none, none, none, none, none, none] rfl ?_
      refine rs_seq ?_
      refine rs_set ?_ rfl (hpv _ (by decide))
      refine rd_op2 o_add ?_
      refine rd_int ?_
      intro _
      refine rd_call hec hE ?_
      refine ra_cons ?_
      refine rd_ali rfl ?_
      intro _
      refine ra_cons ?_
      refine rd_int ?_
      intro _
      refine ra_nil ?_
      refine ⟨(p22.2, (.int 4)), _, rfl, rfl, rfl, fun r27 => ?_⟩
      refine ⟨_, _, _, rfl, rfl, rfl, fun t26 => ?_⟩
      refine ⟨_, rfl, (by show (7 : Nat) < 17; decide), ?_⟩
      refine rs_at [some (.l r27.2), some (.f x_most), some (.f (.lst r1.1)), some (.f t8), some (.f t11), some (.l [t18]), some (.l []), some (.f t26), none, none, none, none, none, none, none, none, none] rfl ?_
      refine rs_seq ?_
      refine rs_whileN FU (fun z28 => [some (.l z28.1), some (.f x_most), some (.f (.lst r1.1)), some (.f t8), some (.f t11), some (.l z28.2.1), some (.l z28.2.2), some (.f t26), none, none, none, none, none, none, none, none, none]) _ _ _ _ rfl ⟨.inr rfl, ⟨.inr rfl, ⟨.inr rfl, ⟨.inr rfl, ⟨.inr rfl, ⟨.inr rfl, ⟨.inr rfl, ⟨.inr rfl, ⟨.inl rfl, ⟨.inl rfl, ⟨.inl rfl, ⟨.inl rfl, ⟨.inl rfl, ⟨.inl rfl, ⟨.inl rfl, ⟨.inl rfl, ⟨.inl rfl, trivial⟩⟩⟩⟩⟩⟩⟩⟩⟩⟩⟩⟩⟩⟩⟩⟩⟩ (fun z28 => ?_) (fun z28 => ?_) (fun z28 => ?_)
      · refine rt_op2B o_lt ?_
        refine rd_cb1 o_len ?_
        refine rd_ali rfl ?_
        refine ⟨_, _, rfl, rfl, fun t30 => ?_⟩
        intro _
        refine rd_cb1 o_len ?_
        refine rd_ali rfl ?_
        refine ⟨_, _, rfl, rfl, fun t31 => ?_⟩
        refine ⟨_, _, _, rfl, rfl, rfl, fun t29 => ?_⟩
        exact ⟨rfl, ⟨.inr rfl, ⟨.inr rfl, ⟨.inr rfl, ⟨.inr rfl, ⟨.inr rfl, ⟨.inr rfl, ⟨.inr rfl, ⟨.inr rfl, ⟨.inl rfl, ⟨.inl rfl, ⟨.inl rfl, ⟨.inl rfl, ⟨.inl rfl, ⟨.inl rfl, ⟨.inl rfl, ⟨.inl rfl, ⟨.inl rfl, trivial⟩⟩⟩⟩⟩⟩⟩⟩⟩⟩⟩⟩⟩⟩⟩⟩⟩⟩
      · refine rs_seq ?_
        refine rs_set ?_ rfl (hpv _ (by decide))
        refine rd_lst ?_
        refine ra_nil ?_
        refine ⟨[], rfl, (by show (0 : Nat) ≤ 1000; decide), ?_⟩
        refine ⟨_, rfl, (by show (9 : Nat) < 17; decide), ?_⟩
        refine rs_at [some (.l z28.1), some (.f x_most), some (.f (.lst r1.1)), some (.f t8), some (.f t11), some (.l z28.2.1), some (.l z28.2.2), some (.f t26), none, some (.l []), none, none, none, none, none, none, none] rfl ?_
        refine rs_seq ?_
        refine rs_forN (Z := ((List D) × (List D) × (List D))) [10, 11] ?_
        refine ri_enumL ?_
        refine rd_var rfl ?_
        refine ⟨_, _, rfl, rfl, fun ds34 _ => ?_⟩
        refine ⟨fun z33 => [some (.l z33.1), some (.f x_most), some (.f (.lst r1.1)), some (.f t8), some (.f t11), some (.l z33.2.2), some (.l z28.2.2), some (.f t26), none, some (.l z33.2.1), none, none, none, none, none, none, none], _, _, _, rfl, ⟨.inr rfl, ⟨.inr rfl, ⟨.inr rfl, ⟨.inr rfl, ⟨.inr rfl, ⟨.inr rfl, ⟨.inr rfl, ⟨.inr rfl, ⟨.inl rfl, ⟨.inr rfl, ⟨.inl rfl, ⟨.inl rfl, ⟨.inl rfl, ⟨.inl rfl, ⟨.inl rfl, ⟨.inl rfl, ⟨.inl rfl, trivial⟩⟩⟩⟩⟩⟩⟩⟩⟩⟩⟩⟩⟩⟩⟩⟩⟩, fun _ => (by first | exact trivial | rfl | exact ⟨rfl, rfl⟩), fun z33 d32 => ?_, fun z33 => ?_⟩
        · refine rg_n2 ⟨_, rfl, fun p35 => ?_⟩
          refine rgs_cons (by show (10 : Nat) < 17; decide) rfl (hpv _ (by decide)) ?_
          refine rgs_cons (by show (11 : Nat) < 17; decide) rfl (hpv _ (by decide)) ?_
          refine rgs_nil ?_
          refine rs_at [some (.l z33.1), some (.f x_most), some (.f (.lst r1.1)), some (.f t8), some (.f t11), some (.l z33.2.2), some (.l z28.2.2), some (.f t26), none, some (.l z33.2.1), some (.f p35.1), some (.f p35.2), none, none, none, none, none] rfl ?_
          refine rs_seq ?_
          refine rs_set ?_ rfl (hpv _ (by decide))
          refine rd_call hec hE ?_
          refine ra_cons ?_
          refine rd_op2 o_ix ?_
          refine rd_ali rfl ?_
          intro _
          refine rd_cb1 o_len ?_
          refine rd_ali rfl ?_
          refine ⟨_, _, rfl, rfl, fun t38 => ?_⟩
          refine ⟨_, _, _, rfl, rfl, rfl, fun t37 => ?_⟩
          intro _
          refine ra_cons ?_
          refine rd_var rfl ?_
          intro _
          refine ra_nil ?_
          refine ⟨(t37, p35.1), _, rfl, rfl, rfl, fun r36 => ?_⟩
          refine ⟨_, rfl, (by show (12 : Nat) < 17; decide), ?_⟩
          refine rs_at [some (.l z33.1), some (.f x_most), some (.f (.lst r1.1)), some (.f t8), some (.f t11), some (.l z33.2.2), some (.l z28.2.2), some (.f t26), none, some (.l z33.2.1), some (.f p35.1), some (.f p35.2), some (.f r36), none, none, none, none] rfl ?_
          refine rs_seq ?_
          refine rs_set ?_ rfl (hpv _ (by decide))
          refine rd_fz ?_
          refine rd_lcR [15, 16] (fun i hi => hi) (all2 (hpv _ (by decide)) (hpv _ (by decide))) ?_
          refine ri_enumL ?_
          refine rd_ali rfl ?_
          refine ⟨_, _, rfl, rfl, fun ds41 _ => ?_⟩
          refine ⟨[some (.l z33.1), some (.f x_most), some (.f (.lst r1.1)), some (.f t8), some (.f t11), some (.l z33.2.2), some (.l z28.2.2), some (.f t26), none, some (.l z33.2.1), some (.f p35.1), some (.f p35.2), some (.f r36), none, none, none, none], _, _, rfl, ⟨.inr rfl, ⟨.inr rfl, ⟨.inr rfl, ⟨.inr rfl, ⟨.inr rfl, ⟨.inr rfl, ⟨.inr rfl, ⟨.inr rfl, ⟨.inl rfl, ⟨.inr rfl, ⟨.inr rfl, ⟨.inr rfl, ⟨.inr rfl, ⟨.inl rfl, ⟨.inl rfl, ⟨.inl rfl, ⟨.inl rfl, trivial⟩⟩⟩⟩⟩⟩⟩⟩⟩⟩⟩⟩⟩⟩⟩⟩⟩, (by first | exact trivial | rfl | exact ⟨rfl, rfl⟩), (all2 rfl rfl), rfl, fun d39 _ _ => ?_, fun ys40 => ?_⟩
          · refine rg_n2 ⟨_, rfl, fun p42 => ?_⟩
            refine rgs_cons (by show (15 : Nat) < 17; decide) rfl (hpv _ (by decide)) ?_
            refine rgs_cons (by show (16 : Nat) < 17; decide) rfl (hpv _ (by decide)) ?_
            refine rgs_nil ?_
            refine rt_op2B o_eq ?_
            refine rd_var rfl ?_
            intro _
            refine rd_var rfl ?_
            refine ⟨_, _, _, rfl, rfl, rfl, fun t43 => ?_⟩
            refine ⟨_, _, rfl, fun _ => ?_, fun _ => ⟨rfl, ⟨.inr rfl, ⟨.inr rfl, ⟨.inr rfl, ⟨.inr rfl, ⟨.inr rfl, ⟨.inr rfl, ⟨.inr rfl, ⟨.inr rfl, ⟨.inl rfl, ⟨.inr rfl, ⟨.inr rfl, ⟨.inr rfl, ⟨.inr rfl, ⟨.inl rfl, ⟨.inl rfl, ⟨.inl rfl, ⟨.inl rfl, trivial⟩⟩⟩⟩⟩⟩⟩⟩⟩⟩⟩⟩⟩⟩⟩⟩⟩⟩⟩
            refine rd_var rfl ?_
            exact ⟨_, rfl, rfl, ⟨.inr rfl, ⟨.inr rfl, ⟨.inr rfl, ⟨.inr rfl, ⟨.inr rfl, ⟨.inr rfl, ⟨.inr rfl, ⟨.inr rfl, ⟨.inl rfl, ⟨.inr rfl, ⟨.inr rfl, ⟨.inr rfl, ⟨.inr rfl, ⟨.inl rfl, ⟨.inl rfl, ⟨.inl rfl, ⟨.inl rfl, trivial⟩⟩⟩⟩⟩⟩⟩⟩⟩⟩⟩⟩⟩⟩⟩⟩⟩⟩
          · refine ⟨_, rfl, ?_⟩
            refine ⟨_, rfl, (by show (13 : Nat) < 17; decide), ?_⟩
            refine rs_at [some (.l z33.1), some (.f x_most), some (.f (.lst r1.1)), some (.f t8), some (.f t11), some (.l z33.2.2), some (.l z28.2.2), some (.f t26), none, some (.l z33.2.1), some (.f p35.1), some (.f p35.2), some (.f r36), some (.f (.lst ys40)), none, none, none] rfl ?_
            refine rs_seq ?_
            refine rs_set ?_ rfl (hpv _ (by decide))
            refine rd_orV (Z := (List D)) ?_
            refine rd_op2B o_eq ?_
            refine rd_var rfl ?_
            intro _
            refine rd_lst ?_
            refine ra_nil ?_
            refine ⟨[], rfl, (by show (0 : Nat) ≤ 1000; decide), ?_⟩
            refine ⟨_, _, _, rfl, rfl, rfl, fun t46 => ?_⟩
            refine ⟨_, _, rfl, rfl, fun t44 => ⟨fun z => [some (.l z), some (.f x_most), some (.f (.lst r1.1)), some (.f t8), some (.f t11), some (.l z33.2.2), some (.l z28.2.2), some (.f t26), none, some (.l z33.2.1), some (.f p35.1), some (.f p35.2), some (.f r36), some (.f (.lst ys40)), none, none, none], z33.1, _, _, rfl, ⟨.inr rfl, ⟨.inr rfl, ⟨.inr rfl, ⟨.inr rfl, ⟨.inr rfl, ⟨.inr rfl, ⟨.inr rfl, ⟨.inr rfl, ⟨.inl rfl, ⟨.inr rfl, ⟨.inr rfl, ⟨.inr rfl, ⟨.inr rfl, ⟨.inr rfl, ⟨.inl rfl, ⟨.inl rfl, ⟨.inl rfl, trivial⟩⟩⟩⟩⟩⟩⟩⟩⟩⟩⟩⟩⟩⟩⟩⟩⟩, fun _ => ?_, fun p45 => ?_⟩⟩
            · refine rd_op2B o_eq ?_
              refine rd_call hec hE ?_
              refine ra_cons ?_
              refine rd_ali rfl ?_
              intro _
              refine ra_cons ?_
              refine rd_int ?_
              intro _
              refine ra_nil ?_
              refine ⟨(z33.1, (.int 3)), _, rfl, rfl, rfl, fun r48 => ?_⟩
              intro _
              refine rd_int ?_
              refine ⟨_, _, _, rfl, rfl, rfl, fun t47 => ?_⟩
              exact ⟨_, _, rfl, rfl, ⟨.inr rfl, ⟨.inr rfl, ⟨.inr rfl, ⟨.inr rfl, ⟨.inr rfl, ⟨.inr rfl, ⟨.inr rfl, ⟨.inr rfl, ⟨.inl rfl, ⟨.inr rfl, ⟨.inr rfl, ⟨.inr rfl, ⟨.inr rfl, ⟨.inr rfl, ⟨.inl rfl, ⟨.inl rfl, ⟨.inl rfl, trivial⟩⟩⟩⟩⟩⟩⟩⟩⟩⟩⟩⟩⟩⟩⟩⟩⟩⟩
            · refine ⟨_, rfl, (by show (14 : Nat) < 17; decide), ?_⟩
              refine rs_at [some (.l p45.2), some (.f x_most), some (.f (.lst r1.1)), some (.f t8), some (.f t11), some (.l z33.2.2), some (.l z28.2.2), some (.f t26), none, some (.l z33.2.1), some (.f p35.1), some (.f p35.2), some (.f r36), some (.f (.lst ys40)), some (.f p45.1), none, none] rfl ?_
              refine rs_seq ?_
              refine rs_join (Z := D) (fun z51 => [some (.l p45.2), some (.f x_most), some (.f (.lst r1.1)), some (.f t8), some (.f t11), some (.l z33.2.2), some (.l z28.2.2), some (.f t26), none, some (.l z33.2.1), some (.f p35.1), some (.f p35.2), some (.f r36), some (.f (.lst ys40)), some (.f z51), none, none]) _ _ rfl ?_ (fun z51 => ?_)
              · refine rs_if ?_
                refine rt_op2B o_ge ?_
                refine rd_cb1 o_len ?_
                refine rd_ali rfl ?_
                refine ⟨_, _, rfl, rfl, fun t53 => ?_⟩
                intro _
                refine rd_var rfl ?_
                refine ⟨_, _, _, rfl, rfl, rfl, fun t52 => ?_⟩
                refine ⟨_, _, rfl, fun _ => ?_, fun _ => ?_⟩
                · refine rs_set ?_ rfl (hpv _ (by decide))
                  refine rd_bl ?_
                  refine ⟨_, rfl, (by show (14 : Nat) < 17; decide), ?_⟩
                  exact ⟨_, rfl, ⟨.inr rfl, ⟨.inr rfl, ⟨.inr rfl, ⟨.inr rfl, ⟨.inr rfl, ⟨.inr rfl, ⟨.inr rfl, ⟨.inr rfl, ⟨.inl rfl, ⟨.inr rfl, ⟨.inr rfl, ⟨.inr rfl, ⟨.inr rfl, ⟨.inr rfl, ⟨.inr rfl, ⟨.inl rfl, ⟨.inl rfl, trivial⟩⟩⟩⟩⟩⟩⟩⟩⟩⟩⟩⟩⟩⟩⟩⟩⟩⟩
                · refine rs_next ?_
                  exact ⟨_, rfl, ⟨.inr rfl, ⟨.inr rfl, ⟨.inr rfl, ⟨.inr rfl, ⟨.inr rfl, ⟨.inr rfl, ⟨.inr rfl, ⟨.inr rfl, ⟨.inl rfl, ⟨.inr rfl, ⟨.inr rfl, ⟨.inr rfl, ⟨.inr rfl, ⟨.inr rfl, ⟨.inr rfl, ⟨.inl rfl, ⟨.inl rfl, trivial⟩⟩⟩⟩⟩⟩⟩⟩⟩⟩⟩⟩⟩⟩⟩⟩⟩⟩
              · refine rs_at [some (.l p45.2), some (.f x_most), some (.f (.lst r1.1)), some (.f t8), some (.f t11), some (.l z33.2.2), some (.l z28.2.2), some (.f t26), none, some (.l z33.2.1), some (.f p35.1), some (.f p35.2), some (.f r36), some (.f (.lst ys40)), some (.f z51), none, none] rfl ?_
                refine rs_if ?_
                refine rt_and (Z := Unit) ?_
                refine rt_op2B o_lt ?_
                refine rd_call hec hE ?_
                refine ra_cons ?_
                refine rd_ali rfl ?_
                intro _
                refine ra_cons ?_
                refine rd_int ?_
                intro _
                refine ra_nil ?_
                refine ⟨(p45.2, (.int 4)), _, rfl, rfl, rfl, fun r56 => ?_⟩
                intro _
                refine rd_var rfl ?_
                refine ⟨_, _, _, rfl, rfl, rfl, fun t55 => ?_⟩
                refine ⟨fun z => [some (.l r56.2), some (.f x_most), some (.f (.lst r1.1)), some (.f t8), some (.f t11), some (.l z33.2.2), some (.l z28.2.2), some (.f t26), none, some (.l z33.2.1), some (.f p35.1), some (.f p35.2), some (.f r36), some (.f (.lst ys40)), some (.f z51), none, none], (), _, _, rfl, ⟨.inr rfl, ⟨.inr rfl, ⟨.inr rfl, ⟨.inr rfl, ⟨.inr rfl, ⟨.inr rfl, ⟨.inr rfl, ⟨.inr rfl, ⟨.inl rfl, ⟨.inr rfl, ⟨.inr rfl, ⟨.inr rfl, ⟨.inr rfl, ⟨.inr rfl, ⟨.inr rfl, ⟨.inl rfl, ⟨.inl rfl, trivial⟩⟩⟩⟩⟩⟩⟩⟩⟩⟩⟩⟩⟩⟩⟩⟩⟩, fun _ => ?_, fun p54 => ?_⟩
                · refine rt_or (Z := Unit) ?_
                  refine rt_val ?_
                  refine rd_var rfl ?_
                  refine ⟨_, _, rfl, rfl, fun t58 => ?_⟩
                  refine ⟨fun z => [some (.l r56.2), some (.f x_most), some (.f (.lst r1.1)), some (.f t8), some (.f t11), some (.l z33.2.2), some (.l z28.2.2), some (.f t26), none, some (.l z33.2.1), some (.f p35.1), some (.f p35.2), some (.f r36), some (.f (.lst ys40)), some (.f z51), none, none], (), _, _, rfl, ⟨.inr rfl, ⟨.inr rfl, ⟨.inr rfl, ⟨.inr rfl, ⟨.inr rfl, ⟨.inr rfl, ⟨.inr rfl, ⟨.inr rfl, ⟨.inl rfl, ⟨.inr rfl, ⟨.inr rfl, ⟨.inr rfl, ⟨.inr rfl, ⟨.inr rfl, ⟨.inr rfl, ⟨.inl rfl, ⟨.inl rfl, trivial⟩⟩⟩⟩⟩⟩⟩⟩⟩⟩⟩⟩⟩⟩⟩⟩⟩, fun _ => ?_, fun p57 => ?_⟩
                  · refine rt_op2B o_ne ?_
                    refine rd_var rfl ?_
                    intro _
                    refine rd_lst ?_
                    refine ra_nil ?_
                    refine ⟨[], rfl, (by show (0 : Nat) ≤ 1000; decide), ?_⟩
                    refine ⟨_, _, _, rfl, rfl, rfl, fun t59 => ?_⟩
                    exact ⟨_, rfl, ⟨.inr rfl, ⟨.inr rfl, ⟨.inr rfl, ⟨.inr rfl, ⟨.inr rfl, ⟨.inr rfl, ⟨.inr rfl, ⟨.inr rfl, ⟨.inl rfl, ⟨.inr rfl, ⟨.inr rfl, ⟨.inr rfl, ⟨.inr rfl, ⟨.inr rfl, ⟨.inr rfl, ⟨.inl rfl, ⟨.inl rfl, trivial⟩⟩⟩⟩⟩⟩⟩⟩⟩⟩⟩⟩⟩⟩⟩⟩⟩⟩
                  · exact ⟨_, rfl, ⟨.inr rfl, ⟨.inr rfl, ⟨.inr rfl, ⟨.inr rfl, ⟨.inr rfl, ⟨.inr rfl, ⟨.inr rfl, ⟨.inr rfl, ⟨.inl rfl, ⟨.inr rfl, ⟨.inr rfl, ⟨.inr rfl, ⟨.inr rfl, ⟨.inr rfl, ⟨.inr rfl, ⟨.inl rfl, ⟨.inl rfl, trivial⟩⟩⟩⟩⟩⟩⟩⟩⟩⟩⟩⟩⟩⟩⟩⟩⟩⟩
                · refine ⟨_, _, rfl, fun _ => ?_, fun _ => ?_⟩
                  · refine rs_seq ?_
                    refine rs_join (Z := ((List D) × D)) (fun z64 => [some (.l r56.2), some (.f x_most), some (.f (.lst r1.1)), some (.f t8), some (.f t11), some (.l z64.1), some (.l z28.2.2), some (.f t26), none, some (.l z33.2.1), some (.f p35.1), some (.f p35.2), some (.f r36), some (.f z64.2), some (.f z51), none, none]) _ _ rfl ?_ (fun z64 => ?_)
                    · refine rs_if ?_
                      refine rt_val ?_
                      refine rd_var rfl ?_
                      refine ⟨_, _, rfl, rfl, fun t65 => ?_⟩
                      refine ⟨_, _, rfl, fun _ => ?_, fun _ => ?_⟩
                      · refine rs_seq ?_
                        refine rs_drop ?_
                        refine rd_append ?_
                        refine rd_ali rfl ?_
                        refine ⟨5, _, rfl, rfl, fun _ => ?_⟩
                        refine rd_var rfl ?_
                        refine ⟨_, _, _, rfl, rfl, rfl, fun t66 => ?_⟩
                        refine rs_at [some (.l r56.2), some (.f x_most), some (.f (.lst r1.1)), some (.f t8), some (.f t11), some (.l t66), some (.l z28.2.2), some (.f t26), none, some (.l z33.2.1), some (.f p35.1), some (.f p35.2), some (.f r36), some (.f (.lst ys40)), some (.f z51), none, none] rfl ?_
                        refine rs_set ?_ rfl (hpv _ (by decide))
                        refine rd_fz ?_
                        refine rd_lst ?_
                        refine ra_cons ?_
                        refine rd_op2 o_sub ?_
                        refine rd_cb1 o_len ?_
                        refine rd_ali rfl ?_
                        refine ⟨_, _, rfl, rfl, fun t68 => ?_⟩
                        intro _
                        refine rd_int ?_
                        refine ⟨_, _, _, rfl, rfl, rfl, fun t67 => ?_⟩
                        intro _
                        refine ra_nil ?_
                        refine ⟨[t67], rfl, (by show (1 : Nat) ≤ 1000; decide), ?_⟩
                        refine ⟨_, rfl, ?_⟩
                        refine ⟨_, rfl, (by show (13 : Nat) < 17; decide), ?_⟩
                        exact ⟨_, rfl, ⟨.inr rfl, ⟨.inr rfl, ⟨.inr rfl, ⟨.inr rfl, ⟨.inr rfl, ⟨.inr rfl, ⟨.inr rfl, ⟨.inr rfl, ⟨.inl rfl, ⟨.inr rfl, ⟨.inr rfl, ⟨.inr rfl, ⟨.inr rfl, ⟨.inr rfl, ⟨.inr rfl, ⟨.inl rfl, ⟨.inl rfl, trivial⟩⟩⟩⟩⟩⟩⟩⟩⟩⟩⟩⟩⟩⟩⟩⟩⟩⟩
                      · refine rs_next ?_
                        exact ⟨_, rfl, ⟨.inr rfl, ⟨.inr rfl, ⟨.inr rfl, ⟨.inr rfl, ⟨.inr rfl, ⟨.inr rfl, ⟨.inr rfl, ⟨.inr rfl, ⟨.inl rfl, ⟨.inr rfl, ⟨.inr rfl, ⟨.inr rfl, ⟨.inr rfl, ⟨.inr rfl, ⟨.inr rfl, ⟨.inl rfl, ⟨.inl rfl, trivial⟩⟩⟩⟩⟩⟩⟩⟩⟩⟩⟩⟩⟩⟩⟩⟩⟩⟩
                    · refine rs_at [some (.l r56.2), some (.f x_most), some (.f (.lst r1.1)), some (.f t8), some (.f t11), some (.l z64.1), some (.l z28.2.2), some (.f t26), none, some (.l z33.2.1), some (.f p35.1), some (.f p35.2), some (.f r36), some (.f z64.2), some (.f z51), none, none] rfl ?_
                      refine rs_drop ?_
                      refine rd_append ?_
                      refine rd_ali rfl ?_
                      refine ⟨9, _, rfl, rfl, fun _ => ?_⟩
                      refine rd_tup ?_
                      refine ra_cons ?_
                      refine rd_var rfl ?_
                      intro _
                      refine ra_cons ?_
                      refine rd_op2 o_ix ?_
                      refine rd_var rfl ?_
                      intro _
                      refine rd_call hec hE ?_
                      refine ra_cons ?_
                      refine rd_ali rfl ?_
                      intro _
                      refine ra_cons ?_
                      refine rd_cb1 o_len ?_
                      refine rd_var rfl ?_
                      refine ⟨_, _, rfl, rfl, fun t72 => ?_⟩
                      intro _
                      refine ra_nil ?_
                      refine ⟨(r56.2, t72), _, rfl, rfl, rfl, fun r71 => ?_⟩
                      refine ⟨_, _, _, rfl, rfl, rfl, fun t70 => ?_⟩
                      intro _
                      refine ra_nil ?_
                      refine ⟨[p35.2, t70], rfl, (by show (2 : Nat) ≤ 1000; decide), ?_⟩
                      refine ⟨_, _, _, rfl, rfl, rfl, fun t69 => ?_⟩
                      exact ⟨_, rfl, ⟨.inr rfl, ⟨.inr rfl, ⟨.inr rfl, ⟨.inr rfl, ⟨.inr rfl, ⟨.inr rfl, ⟨.inr rfl, ⟨.inr rfl, ⟨.inl rfl, ⟨.inr rfl, ⟨.inl rfl, ⟨.inl rfl, ⟨.inl rfl, ⟨.inl rfl, ⟨.inl rfl, ⟨.inl rfl, ⟨.inl rfl, trivial⟩⟩⟩⟩⟩⟩⟩⟩⟩⟩⟩⟩⟩⟩⟩⟩⟩⟩
                  · refine rs_next ?_
                    exact ⟨_, rfl, ⟨.inr rfl, ⟨.inr rfl, ⟨.inr rfl, ⟨.inr rfl, ⟨.inr rfl, ⟨.inr rfl, ⟨.inr rfl, ⟨.inr rfl, ⟨.inl rfl, ⟨.inr rfl, ⟨.inl rfl, ⟨.inl rfl, ⟨.inl rfl, ⟨.inl rfl, ⟨.inl rfl, ⟨.inl rfl, ⟨.inl rfl, trivial⟩⟩⟩⟩⟩⟩⟩⟩⟩⟩⟩⟩⟩⟩⟩⟩⟩⟩
        · refine rs_at [some (.l z33.1), some (.f x_most), some (.f (.lst r1.1)), some (.f t8), some (.f t11), some (.l z33.2.2), some (.l z28.2.2), some (.f t26), none, some (.l z33.2.1), none, none, none, none, none, none, none] rfl ?_
          refine rs_drop ?_
          refine rd_append ?_
          refine rd_ali rfl ?_
          refine ⟨6, _, rfl, rfl, fun _ => ?_⟩
          refine rd_fz ?_
          refine rd_call hec hE ?_
          refine ra_cons ?_
          refine rd_ali rfl ?_
          intro _
          refine ra_cons ?_
          refine rd_frz rfl ?_
          intro _
          refine ra_nil ?_
          refine ⟨(z33.1, (.lst z33.2.1)), _, rfl, rfl, rfl, fun r74 => ?_⟩
          refine ⟨_, rfl, ?_⟩
          refine ⟨_, _, _, rfl, rfl, rfl, fun t73 => ?_⟩
          exact ⟨_, rfl, ⟨.inr rfl, ⟨.inr rfl, ⟨.inr rfl, ⟨.inr rfl, ⟨.inr rfl, ⟨.inr rfl, ⟨.inr rfl, ⟨.inr rfl, ⟨.inl rfl, ⟨.inl rfl, ⟨.inl rfl, ⟨.inl rfl, ⟨.inl rfl, ⟨.inl rfl, ⟨.inl rfl, ⟨.inl rfl, ⟨.inl rfl, trivial⟩⟩⟩⟩⟩⟩⟩⟩⟩⟩⟩⟩⟩⟩⟩⟩⟩⟩
      · refine rs_at [some (.l z28.1), some (.f x_most), some (.f (.lst r1.1)), some (.f t8), some (.f t11), some (.l z28.2.1), some (.l z28.2.2), some (.f t26), none, none, none, none, none, none, none, none, none] rfl ?_
        refine rs_seq ?_
        refine rs_set ?_ rfl (hpv _ (by decide))
        refine rd_op2 o_add ?_
        refine rd_cb1 o_len ?_
        refine rd_ali rfl ?_
        refine ⟨_, _, rfl, rfl, fun t76 => ?_⟩
        intro _
        refine rd_op2 o_mul ?_
        refine rd_call hec hE ?_
        refine ra_cons ?_
        refine rd_ali rfl ?_
        intro _
        refine ra_cons ?_
        refine rd_int ?_
        intro _
        refine ra_nil ?_
        refine ⟨(z28.1, (.int 2)), _, rfl, rfl, rfl, fun r78 => ?_⟩
        intro _
        refine rd_call hec hE ?_
        refine ra_cons ?_
        refine rd_ali rfl ?_
        intro _
        refine ra_cons ?_
        refine rd_cb2 o_min ?_
        refine rd_int ?_
        intro _
        refine rd_op2 o_sub ?_
        refine rd_int ?_
        intro _
        refine rd_cb1 o_len ?_
        refine rd_ali rfl ?_
        refine ⟨_, _, rfl, rfl, fun t82 => ?_⟩
        refine ⟨_, _, _, rfl, rfl, rfl, fun t81 => ?_⟩
        refine ⟨_, _, _, rfl, rfl, rfl, fun t80 => ?_⟩
        intro _
        refine ra_nil ?_
        refine ⟨(r78.2, t80), _, rfl, rfl, rfl, fun r79 => ?_⟩
        refine ⟨_, _, _, rfl, rfl, rfl, fun t77 => ?_⟩
        refine ⟨_, _, _, rfl, rfl, rfl, fun t75 => ?_⟩
        refine ⟨_, rfl, (by show (8 : Nat) < 17; decide), ?_⟩
        refine rs_at [some (.l r79.2), some (.f x_most), some (.f (.lst r1.1)), some (.f t8), some (.f t11), some (.l z28.2.1), some (.l z28.2.2), some (.f t26), some (.f t75), none, none, none, none, none, none, none, none] rfl ?_
        refine rs_seq ?_
        refine rs_whileN FU (fun z83 => [some (.l z83.2), some (.f x_most), some (.f (.lst r1.1)), some (.f t8), some (.f t11), some (.l z28.2.1), some (.l z83.1), some (.f t26), some (.f t75), none, none, none, none, none, none, none, none]) _ _ _ _ rfl ⟨.inr rfl, ⟨.inr rfl, ⟨.inr rfl, ⟨.inr rfl, ⟨.inr rfl, ⟨.inr rfl, ⟨.inr rfl, ⟨.inr rfl, ⟨.inr rfl, ⟨.inl rfl, ⟨.inl rfl, ⟨.inl rfl, ⟨.inl rfl, ⟨.inl rfl, ⟨.inl rfl, ⟨.inl rfl, ⟨.inl rfl, trivial⟩⟩⟩⟩⟩⟩⟩⟩⟩⟩⟩⟩⟩⟩⟩⟩⟩ (fun z83 => ?_) (fun z83 => ?_) (fun z83 => ?_)
        · refine rt_op2B o_lt ?_
          refine rd_cb1 o_len ?_
          refine rd_ali rfl ?_
          refine ⟨_, _, rfl, rfl, fun t85 => ?_⟩
          intro _
          refine rd_var rfl ?_
          refine ⟨_, _, _, rfl, rfl, rfl, fun t84 => ?_⟩
          exact ⟨rfl, ⟨.inr rfl, ⟨.inr rfl, ⟨.inr rfl, ⟨.inr rfl, ⟨.inr rfl, ⟨.inr rfl, ⟨.inr rfl, ⟨.inr rfl, ⟨.inr rfl, ⟨.inl rfl, ⟨.inl rfl, ⟨.inl rfl, ⟨.inl rfl, ⟨.inl rfl, ⟨.inl rfl, ⟨.inl rfl, ⟨.inl rfl, trivial⟩⟩⟩⟩⟩⟩⟩⟩⟩⟩⟩⟩⟩⟩⟩⟩⟩⟩
        · refine rs_drop ?_
          refine rd_append ?_
          refine rd_ali rfl ?_
          refine ⟨6, _, rfl, rfl, fun _ => ?_⟩
          refine rd_fz ?_
          refine rd_lc (Z := (List D)) [11] (fun i hi => hi) (all1 (hpv _ (by decide))) ?_
          refine ri_lst ?_
          refine rd_var rfl ?_
          refine ⟨_, _, rfl, rfl, fun ds90 _ => ?_⟩
          refine ⟨fun z88 => [some (.l z88), some (.f x_most), some (.f (.lst r1.1)), some (.f t8), some (.f t11), some (.l z28.2.1), some (.l z83.1), some (.f t26), some (.f t75), none, none, none, none, none, none, none, none], z83.2, _, _, rfl, ⟨.inr rfl, ⟨.inr rfl, ⟨.inr rfl, ⟨.inr rfl, ⟨.inr rfl, ⟨.inr rfl, ⟨.inr rfl, ⟨.inr rfl, ⟨.inr rfl, ⟨.inl rfl, ⟨.inl rfl, ⟨.inl rfl, ⟨.inl rfl, ⟨.inl rfl, ⟨.inl rfl, ⟨.inl rfl, ⟨.inl rfl, trivial⟩⟩⟩⟩⟩⟩⟩⟩⟩⟩⟩⟩⟩⟩⟩⟩⟩, fun _ => (by first | exact trivial | rfl | exact ⟨rfl, rfl⟩), fun _ => (all1 rfl), rfl, fun z88 d87 _ _ => ?_, fun p89 => ?_⟩
          · refine rg_name (by show (11 : Nat) < 17; decide) rfl (hpv _ (by decide)) ?_
            refine rt_op2B o_eq ?_
            refine rd_call hec hE ?_
            refine ra_cons ?_
            refine rd_ali rfl ?_
            intro _
            refine ra_cons ?_
            refine rd_int ?_
            intro _
            refine ra_nil ?_
            refine ⟨(z88, (.int 2)), _, rfl, rfl, rfl, fun r92 => ?_⟩
            intro _
            refine rd_int ?_
            refine ⟨_, _, _, rfl, rfl, rfl, fun t91 => ?_⟩
            refine ⟨_, _, rfl, fun _ => ?_, fun _ => ⟨_, rfl, ⟨.inr rfl, ⟨.inr rfl, ⟨.inr rfl, ⟨.inr rfl, ⟨.inr rfl, ⟨.inr rfl, ⟨.inr rfl, ⟨.inr rfl, ⟨.inr rfl, ⟨.inl rfl, ⟨.inl rfl, ⟨.inl rfl, ⟨.inl rfl, ⟨.inl rfl, ⟨.inl rfl, ⟨.inl rfl, ⟨.inl rfl, trivial⟩⟩⟩⟩⟩⟩⟩⟩⟩⟩⟩⟩⟩⟩⟩⟩⟩⟩⟩
            refine rd_tup ?_
            refine ra_cons ?_
            refine rd_var rfl ?_
            intro _
            refine ra_cons ?_
            refine rd_call hec hE ?_
            refine ra_cons ?_
            refine rd_ali rfl ?_
            intro _
            refine ra_cons ?_
            refine rd_var rfl ?_
            intro _
            refine ra_nil ?_
            refine ⟨(r92.2, t75), _, rfl, rfl, rfl, fun r93 => ?_⟩
            intro _
            refine ra_nil ?_
            refine ⟨[d87, r93.1], rfl, (by show (2 : Nat) ≤ 1000; decide), ?_⟩
            exact ⟨_, _, rfl, rfl, ⟨.inr rfl, ⟨.inr rfl, ⟨.inr rfl, ⟨.inr rfl, ⟨.inr rfl, ⟨.inr rfl, ⟨.inr rfl, ⟨.inr rfl, ⟨.inr rfl, ⟨.inl rfl, ⟨.inl rfl, ⟨.inl rfl, ⟨.inl rfl, ⟨.inl rfl, ⟨.inl rfl, ⟨.inl rfl, ⟨.inl rfl, trivial⟩⟩⟩⟩⟩⟩⟩⟩⟩⟩⟩⟩⟩⟩⟩⟩⟩⟩
          · refine ⟨_, rfl, ?_⟩
            refine ⟨_, _, _, rfl, rfl, rfl, fun t86 => ?_⟩
            exact ⟨_, rfl, ⟨.inr rfl, ⟨.inr rfl, ⟨.inr rfl, ⟨.inr rfl, ⟨.inr rfl, ⟨.inr rfl, ⟨.inr rfl, ⟨.inr rfl, ⟨.inr rfl, ⟨.inl rfl, ⟨.inl rfl, ⟨.inl rfl, ⟨.inl rfl, ⟨.inl rfl, ⟨.inl rfl, ⟨.inl rfl, ⟨.inl rfl, trivial⟩⟩⟩⟩⟩⟩⟩⟩⟩⟩⟩⟩⟩⟩⟩⟩⟩⟩
        · refine rs_at [some (.l z83.2), some (.f x_most), some (.f (.lst r1.1)), some (.f t8), some (.f t11), some (.l z28.2.1), some (.l z83.1), some (.f t26), some (.f t75), none, none, none, none, none, none, none, none] rfl ?_
          refine rs_ret ?_
          refine rd_tup ?_
          refine ra_cons ?_
          refine rd_fz ?_
          refine rd_slL ?_
          refine rd_var rfl ?_
          intro _
          refine ro_none ?_
          refine ro_some ?_
          refine rd_var rfl ?_
          refine ⟨_, _, rfl, rfl, fun t95 => ?_⟩
          refine ⟨_, _, rfl, rfl, fun t94 => ?_⟩
          refine ⟨_, rfl, ?_⟩
          intro _
          refine ra_cons ?_
          refine rd_fz ?_
          refine rd_slL ?_
          refine rd_var rfl ?_
          intro _
          refine ro_some ?_
          refine rd_var rfl ?_
          refine ⟨_, _, rfl, rfl, fun t97 => ?_⟩
          refine ro_none ?_
          refine ⟨_, _, rfl, rfl, fun t96 => ?_⟩
          refine ⟨_, rfl, ?_⟩
          intro _
          refine ra_cons ?_
          refine rd_op2 o_ix ?_
          refine rd_ali rfl ?_
          intro _
          refine rd_int ?_
          refine ⟨_, _, _, rfl, rfl, rfl, fun t98 => ?_⟩
          intro _
          refine ra_cons ?_
          refine rd_frz rfl ?_
          intro _
          refine ra_nil ?_
          refine ⟨[(.lst t94), (.lst t96), t98, (.lst z83.1)], rfl, (by show (4 : Nat) ≤ 1000; decide), ?_⟩
          refine ⟨_, rfl, ?_⟩
          exact ⟨_, rfl, rfl, ⟨rfl, by decide, trivial⟩⟩
theorem ok_behind_turn (T : Tx w K mg) : FnOk P w K mg base CX0 1 T.a_behind_turn T.d_behind_turn ["names", "signs", "name"] (spOf (A := D × D × D) (R := D) EC.ec (fun a => [.f a.1, .f a.2.1, .f a.2.2]) (fun a => m_behind_turn a.1 a.2.1 a.2.2) (fun r => .f r) (fun r => [none, none, none])) := by
  refine T.F_behind_turn.ok sc_behind_turn (fun vs H Q E h => ?_) (fun cdv A outer s H vs Q E hr h => ?_)
  · obtain ⟨a, G, w, _, _, hl, _⟩ := h; exact hl
  · refine ⟨_, (pss_cons (ps_set (i := 3) sc_behind_turn.nd rfl (by first | exact .inl rfl | exact .inr rfl) (pe_bmK (Kf := K) (by rfl) PySem.F.plainAttrs_list PySem.F.slot_list_index PySem.F.type_list_index (mt_indexK (Kf := K) (by rfl)) (pv 0) (pa_cons (pv 2) pa_nil))) (pss_one (ps_ret (pe_op op_addA (pe_op op_addA (pe_slice sl_str (pv 1) po_none (po_some (pv 3))) (pe_callTy call_str_int (by rfl) T.n_str PyProof.Rows.boot_str (pa_cons (pe_op op_sub pe_int (pe_callTy call_intA (by rfl) T.n_int PyProof.Rows.boot_int (pa_cons (pe_ix (ix_anyK (Kf := K) (by rfl)) (pv 1) (pv 3) (fun _ _ => rfl)) pa_nil))) pa_nil))) (pe_slice sl_str (pv 1) (po_some (pe_op op_addA (pv 3) pe_int)) po_none))))), ?_⟩
    refine fn_body (K := K) [] (fun _ => by show (3 : Nat) ≤ 4; decide) (fun _ => by show ∀ k ∈ ([] : List Nat), k < 3; decide) h (fun F a hec hE hK hpv => ?_)
    obtain ⟨x_names, x_signs, x_name⟩ := a
    show RS F [] [some (.f x_names), some (.f x_signs), some (.f x_name), none] (m_behind_turn x_names x_signs x_name) _ _ _
    unfold m_behind_turn
    refine rs_seq ?_
    refine rs_set ?_ rfl (hpv _ (by decide))
    refine rd_idx ?_
    refine rd_var rfl ?_
    refine ⟨_, _, rfl, rfl, fun t2 _ => ?_⟩
    refine rd_var rfl ?_
    refine ⟨_, _, _, rfl, rfl, rfl, fun t1 => ?_⟩
    refine ⟨_, rfl, (by show (3 : Nat) < 4; decide), ?_⟩
    refine rs_at [some (.f x_names), some (.f x_signs), some (.f x_name), some (.f t1)] rfl ?_
    refine rs_ret ?_
    refine rd_op2 o_add ?_
    refine rd_op2 o_add ?_
    refine rd_slS ?_
    refine rd_var rfl ?_
    intro _
    refine ro_none ?_
    refine ro_some ?_
    refine rd_var rfl ?_
    refine ⟨_, _, rfl, rfl, fun t6 => ?_⟩
    refine ⟨_, _, rfl, rfl, fun t5 => ?_⟩
    intro _
    refine rd_cb1 o_strI ?_
    refine rd_op2 o_sub ?_
    refine rd_int ?_
    intro _
    refine rd_cb1 o_int ?_
    refine rd_op2 o_ix ?_
    refine rd_var rfl ?_
    intro _
    refine rd_var rfl ?_
    refine ⟨_, _, _, rfl, rfl, rfl, fun t10 => ?_⟩
    refine ⟨_, _, rfl, rfl, fun t9 => ?_⟩
    refine ⟨_, _, _, rfl, rfl, rfl, fun t8 => ?_⟩
    refine ⟨_, _, rfl, rfl, fun t7 => ?_⟩
    refine ⟨_, _, _, rfl, rfl, rfl, fun t4 => ?_⟩
    intro _
    refine rd_slS ?_
    refine rd_var rfl ?_
    intro _
    refine ro_some ?_
    refine rd_op2 o_add ?_
    refine rd_var rfl ?_
    intro _
    refine rd_int ?_
    refine ⟨_, _, _, rfl, rfl, rfl, fun t13 => ?_⟩
    refine ⟨_, _, rfl, rfl, fun t12 => ?_⟩
    refine ro_none ?_
    refine ⟨_, _, rfl, rfl, fun t11 => ?_⟩
    refine ⟨_, _, _, rfl, rfl, rfl, fun t3 => ?_⟩
    refine ⟨_, rfl, ?_⟩
    exact ⟨_, rfl, rfl, trivial⟩
theorem ok_rows_of (T : Tx w K mg) : FnOk P w K mg base CX0 2 T.a_rows_of T.d_rows_of ["names", "first", "nodes"] (spOf (A := D × D × D) (R := D) EC.ec (fun a => [.f a.1, .f a.2.1, .f a.2.2]) (fun a => m_rows_of a.1 a.2.1 a.2.2) (fun r => .f r) (fun r => [none, none, none])) := by
  refine T.F_rows_of.ok sc_rows_of (fun vs H Q E h => ?_) (fun cdv A outer s H vs Q E hr h => ?_)
  · obtain ⟨a, G, w, _, _, hl, _⟩ := h; exact hl
  · refine ⟨_, (pss_cons (ps_set (i := 3) sc_rows_of.nd rfl (by first | exact .inl rfl | exact .inr rfl) (pe_disp (pps_cons pe_int (pv 1) pps_nil) (by rfl) (by rfl) (fun z => by cases z) (by decide))) (pss_cons (ps_set (i := 4) sc_rows_of.nd rfl (by first | exact .inl rfl | exact .inr rfl) (pe_lst (pa_cons pe_int pa_nil))) (pss_cons (ps_while PassesOwn.never (pt_cmpR (op_neM (hu_64 hr)) (pv 4) (pe_lst pa_nil) (nomark _)) (pss_cons (ps_set (i := 5) sc_rows_of.nd rfl (by first | exact .inl rfl | exact .inr rfl) (pe_bm0K (Kf := K) (by rfl) PySem.F.plainAttrs_list PySem.F.slot_list_pop PySem.F.type_list_pop mt_pop (pv 4))) (pss_one (ps_for PassesOwn.never rfl (pi_listK (Kf := K) (by rfl) (pe_ix (ix_anyK (Kf := K) (by rfl)) (pv 2) (pv 5) (fun _ _ => rfl))) (pg_tupK (Kf := K) (n := 2) (by rfl) rfl (pgs_cons (pg_name (i := 6) sc_rows_of.nd rfl (by first | exact .inl rfl | exact .inr rfl)) (pgs_cons (pg_name (i := 7) sc_rows_of.nd rfl (by first | exact .inl rfl | exact .inr rfl)) pgs_nil))) (pss_cons (ps_set (i := 8) sc_rows_of.nd rfl (by first | exact .inl rfl | exact .inr rfl) (pe_call (ok_behind_turn T) (hr.mono (by decide)) (by rfl) T.g_behind_turn T.F_behind_turn.kp T.b_behind_turn .nil (show Passes CX0 _ E from pass0) (pa_cons (pv 0) (pa_cons (pe_dget (hu_1 hr) (pv 3) (pv 5) (fun _ _ => rfl)) (pa_cons (pv 6) pa_nil))))) (pss_one (ps_if (pt_cmp (pc_dnotin (hu_1 hr) (pv 7) (pv 3))) (pss_cons (ps_dput (hu_1 hr) (pv 3) (pv 7) (pv 8) (by rfl)) (pss_one (ps_expr (pe_bmK (Kf := K) (by rfl) PySem.F.plainAttrs_list PySem.F.slot_list_append PySem.F.type_list_append mt_append (pv 4) (pa_cons (pv 7) pa_nil))))) (pss_one (ps_if (pt_cmpR (op_neM (hu_64 hr)) (pe_dget (hu_1 hr) (pv 3) (pv 7) (fun _ _ => rfl)) (pv 8) (nomark _)) (pss_one (ps_ret pe_non)) pss_nil))))))))) (pss_one (ps_ret (pv 3)))))), ?_⟩
    refine fn_body (K := K) [] (fun _ => by show (3 : Nat) ≤ 9; decide) (fun _ => by show ∀ k ∈ ([] : List Nat), k < 3; decide) h (fun F a hec hE hK hpv => ?_)
    obtain ⟨x_names, x_first, x_nodes⟩ := a
    show RS F [] [some (.f x_names), some (.f x_first), some (.f x_nodes), none, none, none, none, none, none] (m_rows_of x_names x_first x_nodes) _ _ _
    unfold m_rows_of
    refine rs_seq ?_
    refine rs_set ?_ rfl (hpv _ (by decide))
    refine rd_disp1 (fun _ => ?_)
    refine rd_int ?_
    intro _
    refine rd_var rfl ?_
    refine ⟨_, _, _, rfl, rfl, rfl, ?_⟩
    refine ⟨_, rfl, (by show (3 : Nat) < 9; decide), ?_⟩
    refine rs_at [some (.f x_names), some (.f x_first), some (.f x_nodes), some (.dc false [((.int 0), x_first)]), none, none, none, none, none] rfl ?_
    refine rs_seq ?_
    refine rs_set ?_ rfl (hpv _ (by decide))
    refine rd_lst ?_
    refine ra_cons ?_
    refine rd_int ?_
    intro _
    refine ra_nil ?_
    refine ⟨[(.int 0)], rfl, (by show (1 : Nat) ≤ 1000; decide), ?_⟩
    refine ⟨_, rfl, (by show (4 : Nat) < 9; decide), ?_⟩
    refine rs_at [some (.f x_names), some (.f x_first), some (.f x_nodes), some (.dc false [((.int 0), x_first)]), some (.l [(.int 0)]), none, none, none, none] rfl ?_
    refine rs_seq ?_
    refine rs_while FU (fun z1 => [some (.f x_names), some (.f x_first), some (.f x_nodes), some (.dc false z1.2), some (.l z1.1), none, none, none, none]) _ _ _ _ rfl ⟨.inr rfl, ⟨.inr rfl, ⟨.inr rfl, ⟨.inr rfl, ⟨.inr rfl, ⟨.inl rfl, ⟨.inl rfl, ⟨.inl rfl, ⟨.inl rfl, trivial⟩⟩⟩⟩⟩⟩⟩⟩⟩ (fun z1 => ?_) (fun z1 => ?_) (fun z1 => ?_)
    · refine rt_op2B o_ne ?_
      refine rd_ali rfl ?_
      intro _
      refine rd_lst ?_
      refine ra_nil ?_
      refine ⟨[], rfl, (by show (0 : Nat) ≤ 1000; decide), ?_⟩
      refine ⟨_, _, _, rfl, rfl, rfl, fun t2 => ?_⟩
      exact ⟨rfl, ⟨.inr rfl, ⟨.inr rfl, ⟨.inr rfl, ⟨.inr rfl, ⟨.inr rfl, ⟨.inl rfl, ⟨.inl rfl, ⟨.inl rfl, ⟨.inl rfl, trivial⟩⟩⟩⟩⟩⟩⟩⟩⟩⟩
    · refine rs_seq ?_
      refine rs_set ?_ rfl (hpv _ (by decide))
      refine rd_pop ?_
      refine rd_ali rfl ?_
      refine ⟨4, _, _, rfl, rfl, rfl, fun t3 => ?_⟩
      refine ⟨_, rfl, (by show (5 : Nat) < 9; decide), ?_⟩
      refine rs_at [some (.f x_names), some (.f x_first), some (.f x_nodes), some (.dc false z1.2), some (.l t3.2), some (.f t3.1), none, none, none] rfl ?_
      refine rs_for (Z := ((List (D × D)) × (List D))) (R' := D) [6, 7] ?_
      refine ri_lst ?_
      refine rd_op2 o_ix ?_
      refine rd_var rfl ?_
      intro _
      refine rd_var rfl ?_
      refine ⟨_, _, _, rfl, rfl, rfl, fun t7 => ?_⟩
      refine ⟨_, _, rfl, rfl, fun ds6 _ => ?_⟩
      refine ⟨fun z5 => [some (.f x_names), some (.f x_first), some (.f x_nodes), some (.dc false z5.1), some (.l z5.2), some (.f t3.1), none, none, none], _, _, _, rfl, ⟨.inr rfl, ⟨.inr rfl, ⟨.inr rfl, ⟨.inr rfl, ⟨.inr rfl, ⟨.inr rfl, ⟨.inl rfl, ⟨.inl rfl, ⟨.inl rfl, trivial⟩⟩⟩⟩⟩⟩⟩⟩⟩, fun _ => (by first | exact trivial | rfl | exact ⟨rfl, rfl⟩), fun z5 d4 => ?_, fun z5 => ?_⟩
      · refine rg_n2 ⟨_, rfl, fun p8 => ?_⟩
        refine rgs_cons (by show (6 : Nat) < 9; decide) rfl (hpv _ (by decide)) ?_
        refine rgs_cons (by show (7 : Nat) < 9; decide) rfl (hpv _ (by decide)) ?_
        refine rgs_nil ?_
        refine rs_at [some (.f x_names), some (.f x_first), some (.f x_nodes), some (.dc false z5.1), some (.l z5.2), some (.f t3.1), some (.f p8.1), some (.f p8.2), none] rfl ?_
        refine rs_seq ?_
        refine rs_set ?_ rfl (hpv _ (by decide))
        refine rd_call hec hE ?_
        refine ra_cons ?_
        refine rd_var rfl ?_
        intro _
        refine ra_cons ?_
        refine rd_dget ?_
        refine rd_ali rfl ?_
        intro _
        refine rd_var rfl ?_
        refine ⟨_, _, _, rfl, rfl, rfl, fun t10 => ?_⟩
        intro _
        refine ra_cons ?_
        refine rd_var rfl ?_
        intro _
        refine ra_nil ?_
        refine ⟨(x_names, t10, p8.1), _, rfl, rfl, rfl, fun r9 => ?_⟩
        refine ⟨_, rfl, (by show (8 : Nat) < 9; decide), ?_⟩
        refine rs_at [some (.f x_names), some (.f x_first), some (.f x_nodes), some (.dc false z5.1), some (.l z5.2), some (.f t3.1), some (.f p8.1), some (.f p8.2), some (.f r9)] rfl ?_
        refine rs_if ?_
        refine rt_dnotin ?_
        refine rd_var rfl ?_
        intro _
        refine rd_ali rfl ?_
        refine ⟨_, _, _, rfl, rfl, rfl, fun t11 => ?_⟩
        refine ⟨_, _, rfl, fun _ => ?_, fun _ => ?_⟩
        · refine rs_seq ?_
          refine rs_dput ?_
          refine rd_var rfl ?_
          refine ⟨_, rfl, fun _ => ?_⟩
          refine rd_ali rfl ?_
          refine ⟨3, rfl, fun _ => ?_⟩
          refine rd_var rfl ?_
          refine ⟨_, _, _, _, rfl, rfl, rfl, fun t12 => ?_⟩
          refine rs_at [some (.f x_names), some (.f x_first), some (.f x_nodes), some (.dc false t12), some (.l z5.2), some (.f t3.1), some (.f p8.1), some (.f p8.2), some (.f r9)] rfl ?_
          refine rs_drop ?_
          refine rd_append ?_
          refine rd_ali rfl ?_
          refine ⟨4, _, rfl, rfl, fun _ => ?_⟩
          refine rd_var rfl ?_
          refine ⟨_, _, _, rfl, rfl, rfl, fun t13 => ?_⟩
          exact ⟨_, rfl, ⟨.inr rfl, ⟨.inr rfl, ⟨.inr rfl, ⟨.inr rfl, ⟨.inr rfl, ⟨.inr rfl, ⟨.inl rfl, ⟨.inl rfl, ⟨.inl rfl, trivial⟩⟩⟩⟩⟩⟩⟩⟩⟩⟩
        · refine rs_if ?_
          refine rt_op2B o_ne ?_
          refine rd_dget ?_
          refine rd_ali rfl ?_
          intro _
          refine rd_var rfl ?_
          refine ⟨_, _, _, rfl, rfl, rfl, fun t15 => ?_⟩
          intro _
          refine rd_var rfl ?_
          refine ⟨_, _, _, rfl, rfl, rfl, fun t14 => ?_⟩
          refine ⟨_, _, rfl, fun _ => ?_, fun _ => ?_⟩
          · refine rs_ret ?_
            refine rd_non ?_
            refine ⟨_, rfl, ?_⟩
            exact ⟨_, rfl, ⟨_, rfl, ⟨_, rfl, rfl, trivial⟩⟩⟩
          · refine rs_next ?_
            exact ⟨_, rfl, ⟨.inr rfl, ⟨.inr rfl, ⟨.inr rfl, ⟨.inr rfl, ⟨.inr rfl, ⟨.inr rfl, ⟨.inl rfl, ⟨.inl rfl, ⟨.inl rfl, trivial⟩⟩⟩⟩⟩⟩⟩⟩⟩⟩
      · exact ⟨_, rfl, ⟨.inr rfl, ⟨.inr rfl, ⟨.inr rfl, ⟨.inr rfl, ⟨.inr rfl, ⟨.inl rfl, ⟨.inl rfl, ⟨.inl rfl, ⟨.inl rfl, trivial⟩⟩⟩⟩⟩⟩⟩⟩⟩⟩
    · refine rs_at [some (.f x_names), some (.f x_first), some (.f x_nodes), some (.dc false z1.2), some (.l z1.1), none, none, none, none] rfl ?_
      refine rs_onN ?_
      refine rs_ret ?_
      refine rd_frz rfl ?_
      refine ⟨_, rfl, ?_⟩
      exact ⟨_, rfl, rfl, trivial⟩
theorem ok_signs_of (T : Tx w K mg) : FnOk P w K mg base CX0 3 T.a_signs_of T.d_signs_of ["sheet"] (spOf (A := D) (R := List D) EC.ec (fun a => [.f a]) (fun a => m_signs_of a) (fun r => .l r) (fun r => [none])) := by
  refine T.F_signs_of.ok sc_signs_of (fun vs H Q E h => ?_) (fun cdv A outer s H vs Q E hr h => ?_)
  · obtain ⟨a, G, w, _, _, hl, _⟩ := h; exact hl
  · refine ⟨_, (pss_cons (ps_asg (pv 0) (pg_tupK (Kf := K) (n := 4) (by rfl) rfl (pgs_cons (pg_name (i := 2) sc_signs_of.nd rfl (by first | exact .inl rfl | exact .inr rfl)) (pgs_cons (pg_name (i := 3) sc_signs_of.nd rfl (by first | exact .inl rfl | exact .inr rfl)) (pgs_cons (pg_name (i := 4) sc_signs_of.nd rfl (by first | exact .inl rfl | exact .inr rfl)) (pgs_cons (pg_name (i := 5) sc_signs_of.nd rfl (by first | exact .inl rfl | exact .inr rfl)) pgs_nil)))))) (pss_cons (ps_set (i := 1) sc_signs_of.nd rfl (by first | exact .inl rfl | exact .inr rfl) (pe_call (ok_rows_of T) (hr.mono (by decide)) (by rfl) T.g_rows_of T.F_rows_of.kp T.b_rows_of .nil (show Passes CX0 _ E from pass0) (pa_cons (pe_op op_catR (pv 2) (pv 3)) (pa_cons (pv 4) (pa_cons (pv 5) pa_nil))))) (pss_one (ps_ret (pe_lc (own := [("number", 6)]) rfl (by exact sc_signs_of.nd) (pi_range1 (by rfl) T.n_range (pa_cons (pe_callB (call_lenK (Kf := K) (by rfl)) (by rfl) T.n_len PySem.boot_len (pa_cons (pv 5) pa_nil)) pa_nil)) blk_signs_of_0 (fun _ _ _ _ _ => (pg_name (i := 6) sc_signs_of.nd rfl (by first | exact .inl rfl | exact .inr rfl))) (fun _ _ _ _ _ => pts_nil) (fun _ _ _ _ _ => (pe_dget1 (hu_1 hr) (pv 1) (pv 6) ⟨rfl, rfl, rfl, rfl⟩))))))), ?_⟩
    refine fn_body (K := K) [] (fun _ => by show (1 : Nat) ≤ 7; decide) (fun _ => by show ∀ k ∈ ([] : List Nat), k < 1; decide) h (fun F x_sheet hec hE hK hpv => ?_)
    skip
    show RS F [] [some (.f x_sheet), none, none, none, none, none, none] (m_signs_of x_sheet) _ _ _
    unfold m_signs_of
    refine rs_seq ?_
    refine rs_asgG [2, 3, 4, 5] ?_
    refine rd_var rfl ?_
    refine ⟨_, rfl, ?_⟩
    refine rg_n4 ⟨_, rfl, fun p1 => ?_⟩
    refine rgs_cons (by show (2 : Nat) < 7; decide) rfl (hpv _ (by decide)) ?_
    refine rgs_cons (by show (3 : Nat) < 7; decide) rfl (hpv _ (by decide)) ?_
    refine rgs_cons (by show (4 : Nat) < 7; decide) rfl (hpv _ (by decide)) ?_
    refine rgs_cons (by show (5 : Nat) < 7; decide) rfl (hpv _ (by decide)) ?_
    refine rgs_nil ?_
    refine rs_at [some (.f x_sheet), none, some (.f p1.1), some (.f p1.2.1), some (.f p1.2.2.1), some (.f p1.2.2.2), none] rfl ?_
    refine rs_seq ?_
    refine rs_set ?_ rfl (hpv _ (by decide))
    refine rd_call hec hE ?_
    refine ra_cons ?_
    refine rd_fz ?_
    refine rd_op2L o_cat ?_
    refine rd_var rfl ?_
    intro _
    refine rd_var rfl ?_
    refine ⟨_, _, _, rfl, rfl, rfl, fun t3 => ?_⟩
    refine ⟨_, rfl, ?_⟩
    intro _
    refine ra_cons ?_
    refine rd_var rfl ?_
    intro _
    refine ra_cons ?_
    refine rd_var rfl ?_
    intro _
    refine ra_nil ?_
    refine ⟨((.lst t3), p1.2.2.1, p1.2.2.2), _, rfl, rfl, rfl, fun r2 => ?_⟩
    refine ⟨_, rfl, (by show (1 : Nat) < 7; decide), ?_⟩
    refine rs_at [some (.f x_sheet), some (.f r2), some (.f p1.1), some (.f p1.2.1), some (.f p1.2.2.1), some (.f p1.2.2.2), none] rfl ?_
    refine rs_ret ?_
    refine rd_lcR [6] (fun i hi => hi) (all1 (hpv _ (by decide))) ?_
    refine ri_range1 ?_
    refine rd_cb1 o_len ?_
    refine rd_var rfl ?_
    refine ⟨_, _, rfl, rfl, fun t7 => ?_⟩
    refine ⟨_, _, rfl, rfl, fun ds6 => ?_⟩
    refine ⟨[some (.f x_sheet), some (.f r2), some (.f p1.1), some (.f p1.2.1), some (.f p1.2.2.1), some (.f p1.2.2.2), none], _, _, rfl, ⟨.inr rfl, ⟨.inr rfl, ⟨.inr rfl, ⟨.inr rfl, ⟨.inr rfl, ⟨.inr rfl, ⟨.inl rfl, trivial⟩⟩⟩⟩⟩⟩⟩, (by first | exact trivial | rfl | exact ⟨rfl, rfl⟩), (all1 rfl), rfl, fun d4 _ _ => ?_, fun ys5 => ?_⟩
    · refine rg_name (by show (6 : Nat) < 7; decide) rfl (hpv _ (by decide)) ?_
      refine rt_true rfl ?_
      refine ⟨_, .ok none, (if_pos rfl).symm, fun _ => ?_, fun h => by cases h⟩
      refine rd_get1 ?_
      refine rd_var rfl ?_
      refine ⟨_, _, rfl, rfl, fun t9 _ => ?_⟩
      refine rd_var rfl ?_
      refine ⟨_, _, _, rfl, rfl, rfl, fun t8 => ?_⟩
      exact ⟨_, rfl, rfl, ⟨.inr rfl, ⟨.inr rfl, ⟨.inr rfl, ⟨.inr rfl, ⟨.inr rfl, ⟨.inr rfl, ⟨.inl rfl, trivial⟩⟩⟩⟩⟩⟩⟩⟩
    · refine ⟨_, rfl, ?_⟩
      exact ⟨_, rfl, rfl, trivial⟩
theorem ok_wanted_at (T : Tx w K mg) : FnOk P w K mg base CX0 1 T.a_wanted_at T.d_wanted_at ["sheet", "node"] (spOf (A := D × D) (R := List D) EC.ec (fun a => [.f a.1, .f a.2]) (fun a => m_wanted_at a.1 a.2) (fun r => .l r) (fun r => [none, none])) := by
  refine T.F_wanted_at.ok sc_wanted_at (fun vs H Q E h => ?_) (fun cdv A outer s H vs Q E hr h => ?_)
  · obtain ⟨a, G, w, _, _, hl, _⟩ := h; exact hl
  · refine ⟨_, (pss_cons (ps_set (i := 2) sc_wanted_at.nd rfl (by first | exact .inl rfl | exact .inr rfl) (pe_lc (own := [("name", 3), ("to", 4)]) rfl (by exact sc_wanted_at.nd) (pi_listK (Kf := K) (by rfl) (pe_ix (ix_anyK (Kf := K) (by rfl)) (pe_ix (ix_anyK (Kf := K) (by rfl)) (pv 0) pe_int (fun _ _ => rfl)) (pv 1) (fun _ _ => rfl))) blk_wanted_at_1 (fun _ _ _ _ _ => (pg_tupK (Kf := K) (n := 2) (by rfl) rfl (pgs_cons (pg_name (i := 3) sc_wanted_at.nd rfl (by first | exact .inl rfl | exact .inr rfl)) (pgs_cons (pg_name (i := 4) sc_wanted_at.nd rfl (by first | exact .inl rfl | exact .inr rfl)) pgs_nil)))) (fun _ _ _ _ _ => pts_nil) (fun _ _ _ _ _ => (pv 3)))) (pss_one (ps_ret (pe_lc (own := [("name", 3)]) rfl (by exact sc_wanted_at.nd) (pi_listK (Kf := K) (by rfl) (pe_ix (ix_anyK (Kf := K) (by rfl)) (pv 0) pe_int (fun _ _ => rfl))) blk_wanted_at_0 (fun _ _ _ _ _ => (pg_name (i := 3) sc_wanted_at.nd rfl (by first | exact .inl rfl | exact .inr rfl))) (fun _ _ _ _ _ => (pts_one (pt_cmpR (op_inK (Kf := K) (by rfl)) (pv 3) (pv 2) rfl))) (fun _ _ _ _ _ => (pv 3)))))), ?_⟩
    refine fn_body (K := K) [] (fun _ => by show (2 : Nat) ≤ 5; decide) (fun _ => by show ∀ k ∈ ([] : List Nat), k < 2; decide) h (fun F a hec hE hK hpv => ?_)
    obtain ⟨x_sheet, x_node⟩ := a
    show RS F [] [some (.f x_sheet), some (.f x_node), none, none, none] (m_wanted_at x_sheet x_node) _ _ _
    unfold m_wanted_at
    refine rs_seq ?_
    refine rs_set ?_ rfl (hpv _ (by decide))
    refine rd_fz ?_
    refine rd_lcR [3, 4] (fun i hi => hi) (all2 (hpv _ (by decide)) (hpv _ (by decide))) ?_
    refine ri_lst ?_
    refine rd_op2 o_ix ?_
    refine rd_op2 o_ix ?_
    refine rd_var rfl ?_
    intro _
    refine rd_int ?_
    refine ⟨_, _, _, rfl, rfl, rfl, fun t5 => ?_⟩
    intro _
    refine rd_var rfl ?_
    refine ⟨_, _, _, rfl, rfl, rfl, fun t4 => ?_⟩
    refine ⟨_, _, rfl, rfl, fun ds3 _ => ?_⟩
    refine ⟨[some (.f x_sheet), some (.f x_node), none, none, none], _, _, rfl, ⟨.inr rfl, ⟨.inr rfl, ⟨.inl rfl, ⟨.inl rfl, ⟨.inl rfl, trivial⟩⟩⟩⟩⟩, (by first | exact trivial | rfl | exact ⟨rfl, rfl⟩), (all2 rfl rfl), rfl, fun d1 _ _ => ?_, fun ys2 => ?_⟩
    · refine rg_n2 ⟨_, rfl, fun p6 => ?_⟩
      refine rgs_cons (by show (3 : Nat) < 5; decide) rfl (hpv _ (by decide)) ?_
      refine rgs_cons (by show (4 : Nat) < 5; decide) rfl (hpv _ (by decide)) ?_
      refine rgs_nil ?_
      refine rt_true rfl ?_
      refine ⟨_, .ok none, (if_pos rfl).symm, fun _ => ?_, fun h => by cases h⟩
      refine rd_var rfl ?_
      exact ⟨_, rfl, rfl, ⟨.inr rfl, ⟨.inr rfl, ⟨.inl rfl, ⟨.inl rfl, ⟨.inl rfl, trivial⟩⟩⟩⟩⟩⟩
    · refine ⟨_, rfl, ?_⟩
      refine ⟨_, rfl, (by show (2 : Nat) < 5; decide), ?_⟩
      refine rs_at [some (.f x_sheet), some (.f x_node), some (.f (.lst ys2)), none, none] rfl ?_
      refine rs_ret ?_
      refine rd_lcR [3] (fun i hi => hi) (all1 (hpv _ (by decide))) ?_
      refine ri_lst ?_
      refine rd_op2 o_ix ?_
      refine rd_var rfl ?_
      intro _
      refine rd_int ?_
      refine ⟨_, _, _, rfl, rfl, rfl, fun t10 => ?_⟩
      refine ⟨_, _, rfl, rfl, fun ds9 _ => ?_⟩
      refine ⟨[some (.f x_sheet), some (.f x_node), some (.f (.lst ys2)), none, none], _, _, rfl, ⟨.inr rfl, ⟨.inr rfl, ⟨.inr rfl, ⟨.inl rfl, ⟨.inl rfl, trivial⟩⟩⟩⟩⟩, (by first | exact trivial | rfl | exact ⟨rfl, rfl⟩), (all1 rfl), rfl, fun d7 _ _ => ?_, fun ys8 => ?_⟩
      · refine rg_name (by show (3 : Nat) < 5; decide) rfl (hpv _ (by decide)) ?_
        refine rt_op2B o_in ?_
        refine rd_var rfl ?_
        intro _
        refine rd_var rfl ?_
        refine ⟨_, _, _, rfl, rfl, rfl, fun t11 => ?_⟩
        refine ⟨_, _, rfl, fun _ => ?_, fun _ => ⟨rfl, ⟨.inr rfl, ⟨.inr rfl, ⟨.inr rfl, ⟨.inl rfl, ⟨.inl rfl, trivial⟩⟩⟩⟩⟩⟩⟩
        refine rd_var rfl ?_
        exact ⟨_, rfl, rfl, ⟨.inr rfl, ⟨.inr rfl, ⟨.inr rfl, ⟨.inl rfl, ⟨.inl rfl, trivial⟩⟩⟩⟩⟩⟩
      · refine ⟨_, rfl, ?_⟩
        exact ⟨_, rfl, rfl, trivial⟩
theorem ok_clash_pairs (T : Tx w K mg) : FnOk P w K mg base CX0 4 T.a_clash_pairs T.d_clash_pairs ["sheet"] (spOf (A := D) (R := List D) EC.ec (fun a => [.f a]) (fun a => m_clash_pairs a) (fun r => .l r) (fun r => [none])) := by
  refine T.F_clash_pairs.ok sc_clash_pairs (fun vs H Q E h => ?_) (fun cdv A outer s H vs Q E hr h => ?_)
  · obtain ⟨a, G, w, _, _, hl, _⟩ := h; exact hl
  · refine ⟨_, (pss_cons (ps_set (i := 1) sc_clash_pairs.nd rfl (by first | exact .inl rfl | exact .inr rfl) (pe_call (ok_signs_of T) (hr.mono (by decide)) (by rfl) T.g_signs_of T.F_signs_of.kp T.b_signs_of .nil (show Passes CX0 _ E from pass0) (pa_cons (pv 0) pa_nil))) (pss_cons (ps_set (i := 2) sc_clash_pairs.nd rfl (by first | exact .inl rfl | exact .inr rfl) (pe_lst pa_nil)) (pss_cons (ps_for PassesOwn.never rfl (pi_range1 (by rfl) T.n_range (pa_cons (pe_callB (call_lenK (Kf := K) (by rfl)) (by rfl) T.n_len PySem.boot_len (pa_cons (pv 1) pa_nil)) pa_nil)) (pg_name (i := 3) sc_clash_pairs.nd rfl (by first | exact .inl rfl | exact .inr rfl)) (pss_one (ps_for PassesOwn.never rfl (pi_range2 (by rfl) T.n_range (pa_cons (pe_op op_addA (pv 3) pe_int) (pa_cons (pe_callB (call_lenK (Kf := K) (by rfl)) (by rfl) T.n_len PySem.boot_len (pa_cons (pv 1) pa_nil)) pa_nil))) (pg_name (i := 4) sc_clash_pairs.nd rfl (by first | exact .inl rfl | exact .inr rfl)) (pss_one (ps_if (pw_and (pt_cmpR op_notN (pe_ix (ix_anyK (Kf := K) (by rfl)) (pv 1) (pv 3) (fun _ _ => rfl)) pe_non (nomark _)) (pw_and1 (pt_cmpR (op_eqM (hu_64 hr)) (pe_ix (ix_anyK (Kf := K) (by rfl)) (pv 1) (pv 3) (fun _ _ => rfl)) (pe_ix (ix_anyK (Kf := K) (by rfl)) (pv 1) (pv 4) (fun _ _ => rfl)) (nomark _)))).pt (pss_one (ps_if (pt_cmpR (op_neM (hu_64 hr)) (pe_call (ok_wanted_at T) (hr.mono (by decide)) (by rfl) T.g_wanted_at T.F_wanted_at.kp T.b_wanted_at .nil (show Passes CX0 _ E from pass0) (pa_cons (pv 0) (pa_cons (pv 3) pa_nil))) (pe_call (ok_wanted_at T) (hr.mono (by decide)) (by rfl) T.g_wanted_at T.F_wanted_at.kp T.b_wanted_at .nil (show Passes CX0 _ E from pass0) (pa_cons (pv 0) (pa_cons (pv 4) pa_nil))) (nomark _)) (pss_one (ps_expr (pe_bmK (Kf := K) (by rfl) PySem.F.plainAttrs_list PySem.F.slot_list_append PySem.F.type_list_append mt_append (pv 2) (pa_cons (pe_tup (pa_cons (pv 3) (pa_cons (pv 4) pa_nil))) pa_nil)))) pss_nil)) pss_nil))))) (pss_one (ps_ret (pv 2)))))), ?_⟩
    refine fn_body (K := K) [] (fun _ => by show (1 : Nat) ≤ 5; decide) (fun _ => by show ∀ k ∈ ([] : List Nat), k < 1; decide) h (fun F x_sheet hec hE hK hpv => ?_)
    skip
    show RS F [] [some (.f x_sheet), none, none, none, none] (m_clash_pairs x_sheet) _ _ _
    unfold m_clash_pairs
    refine rs_seq ?_
    refine rs_set ?_ rfl (hpv _ (by decide))
    refine rd_fz ?_
    refine rd_call hec hE ?_
    refine ra_cons ?_
    refine rd_var rfl ?_
    intro _
    refine ra_nil ?_
    refine ⟨(x_sheet), _, rfl, rfl, rfl, fun r1 => ?_⟩
    refine ⟨_, rfl, ?_⟩
    refine ⟨_, rfl, (by show (1 : Nat) < 5; decide), ?_⟩
    refine rs_at [some (.f x_sheet), some (.f (.lst r1)), none, none, none] rfl ?_
    refine rs_seq ?_
    refine rs_set ?_ rfl (hpv _ (by decide))
    refine rd_lst ?_
    refine ra_nil ?_
    refine ⟨[], rfl, (by show (0 : Nat) ≤ 1000; decide), ?_⟩
    refine ⟨_, rfl, (by show (2 : Nat) < 5; decide), ?_⟩
    refine rs_at [some (.f x_sheet), some (.f (.lst r1)), some (.l []), none, none] rfl ?_
    refine rs_seq ?_
    refine rs_forN (Z := (List D)) [3] ?_
    refine ri_range1 ?_
    refine rd_cb1 o_len ?_
    refine rd_var rfl ?_
    refine ⟨_, _, rfl, rfl, fun t5 => ?_⟩
    refine ⟨_, _, rfl, rfl, fun ds4 => ?_⟩
    refine ⟨fun z3 => [some (.f x_sheet), some (.f (.lst r1)), some (.l z3), none, none], _, _, _, rfl, ⟨.inr rfl, ⟨.inr rfl, ⟨.inr rfl, ⟨.inl rfl, ⟨.inl rfl, trivial⟩⟩⟩⟩⟩, fun _ => (by first | exact trivial | rfl | exact ⟨rfl, rfl⟩), fun z3 d2 => ?_, fun z3 => ?_⟩
    · refine rg_name (by show (3 : Nat) < 5; decide) rfl (hpv _ (by decide)) ?_
      refine rs_at [some (.f x_sheet), some (.f (.lst r1)), some (.l z3), some (.f d2), none] rfl ?_
      refine rs_forN (Z := (List D)) [4] ?_
      refine ri_range2 ?_
      refine rd_op2 o_add ?_
      refine rd_var rfl ?_
      intro _
      refine rd_int ?_
      refine ⟨_, _, _, rfl, rfl, rfl, fun t9 => ?_⟩
      intro _
      refine rd_cb1 o_len ?_
      refine rd_var rfl ?_
      refine ⟨_, _, rfl, rfl, fun t10 => ?_⟩
      refine ⟨_, _, _, rfl, rfl, rfl, fun ds8 => ?_⟩
      refine ⟨fun z7 => [some (.f x_sheet), some (.f (.lst r1)), some (.l z7), some (.f d2), none], _, _, _, rfl, ⟨.inr rfl, ⟨.inr rfl, ⟨.inr rfl, ⟨.inr rfl, ⟨.inl rfl, trivial⟩⟩⟩⟩⟩, fun _ => (by first | exact trivial | rfl | exact ⟨rfl, rfl⟩), fun z7 d6 => ?_, fun z7 => ?_⟩
      · refine rg_name (by show (4 : Nat) < 5; decide) rfl (hpv _ (by decide)) ?_
        refine rs_at [some (.f x_sheet), some (.f (.lst r1)), some (.l z7), some (.f d2), some (.f d6)] rfl ?_
        refine rs_if ?_
        refine rt_and (Z := Unit) ?_
        refine rt_op2B o_nn ?_
        refine rd_op2 o_ix ?_
        refine rd_var rfl ?_
        intro _
        refine rd_var rfl ?_
        refine ⟨_, _, _, rfl, rfl, rfl, fun t13 => ?_⟩
        intro _
        refine rd_non ?_
        refine ⟨_, _, _, rfl, rfl, rfl, fun t12 => ?_⟩
        refine ⟨fun z => [some (.f x_sheet), some (.f (.lst r1)), some (.l z7), some (.f d2), some (.f d6)], (), _, _, rfl, ⟨.inr rfl, ⟨.inr rfl, ⟨.inr rfl, ⟨.inr rfl, ⟨.inr rfl, trivial⟩⟩⟩⟩⟩, fun _ => ?_, fun p11 => ?_⟩
        · refine rt_op2B o_eq ?_
          refine rd_op2 o_ix ?_
          refine rd_var rfl ?_
          intro _
          refine rd_var rfl ?_
          refine ⟨_, _, _, rfl, rfl, rfl, fun t15 => ?_⟩
          intro _
          refine rd_op2 o_ix ?_
          refine rd_var rfl ?_
          intro _
          refine rd_var rfl ?_
          refine ⟨_, _, _, rfl, rfl, rfl, fun t16 => ?_⟩
          refine ⟨_, _, _, rfl, rfl, rfl, fun t14 => ?_⟩
          exact ⟨_, rfl, ⟨.inr rfl, ⟨.inr rfl, ⟨.inr rfl, ⟨.inr rfl, ⟨.inr rfl, trivial⟩⟩⟩⟩⟩⟩
        · refine ⟨_, _, rfl, fun _ => ?_, fun _ => ?_⟩
          · refine rs_if ?_
            refine rt_op2B o_ne ?_
            refine rd_call hec hE ?_
            refine ra_cons ?_
            refine rd_var rfl ?_
            intro _
            refine ra_cons ?_
            refine rd_var rfl ?_
            intro _
            refine ra_nil ?_
            refine ⟨(x_sheet, d2), _, rfl, rfl, rfl, fun r18 => ?_⟩
            intro _
            refine rd_call hec hE ?_
            refine ra_cons ?_
            refine rd_var rfl ?_
            intro _
            refine ra_cons ?_
            refine rd_var rfl ?_
            intro _
            refine ra_nil ?_
            refine ⟨(x_sheet, d6), _, rfl, rfl, rfl, fun r19 => ?_⟩
            refine ⟨_, _, _, rfl, rfl, rfl, fun t17 => ?_⟩
            refine ⟨_, _, rfl, fun _ => ?_, fun _ => ?_⟩
            · refine rs_drop ?_
              refine rd_append ?_
              refine rd_ali rfl ?_
              refine ⟨2, _, rfl, rfl, fun _ => ?_⟩
              refine rd_tup ?_
              refine ra_cons ?_
              refine rd_var rfl ?_
              intro _
              refine ra_cons ?_
              refine rd_var rfl ?_
              intro _
              refine ra_nil ?_
              refine ⟨[d2, d6], rfl, (by show (2 : Nat) ≤ 1000; decide), ?_⟩
              refine ⟨_, _, _, rfl, rfl, rfl, fun t20 => ?_⟩
              exact ⟨_, rfl, ⟨.inr rfl, ⟨.inr rfl, ⟨.inr rfl, ⟨.inr rfl, ⟨.inl rfl, trivial⟩⟩⟩⟩⟩⟩
            · refine rs_next ?_
              exact ⟨_, rfl, ⟨.inr rfl, ⟨.inr rfl, ⟨.inr rfl, ⟨.inr rfl, ⟨.inl rfl, trivial⟩⟩⟩⟩⟩⟩
          · refine rs_next ?_
            exact ⟨_, rfl, ⟨.inr rfl, ⟨.inr rfl, ⟨.inr rfl, ⟨.inr rfl, ⟨.inl rfl, trivial⟩⟩⟩⟩⟩⟩
      · exact ⟨_, rfl, ⟨.inr rfl, ⟨.inr rfl, ⟨.inr rfl, ⟨.inl rfl, ⟨.inl rfl, trivial⟩⟩⟩⟩⟩⟩
    · refine rs_at [some (.f x_sheet), some (.f (.lst r1)), some (.l z3), none, none] rfl ?_
      refine rs_ret ?_
      refine rd_mv rfl ?_
      refine ⟨_, rfl, ?_⟩
      exact ⟨_, rfl, rfl, trivial⟩
theorem ok__law_anew (T : Tx w K mg) : FnOk P w K mg base CX0 3 T.a__law_anew T.d__law_anew ["pool", "sheet"] (spOf (A := (List D) × D) (R := D × (List D)) EC.ec (fun a => [.l a.1, .f a.2]) (fun a => m__law_anew a.1 a.2) (fun r => .f r.1) (fun r => [some (.l r.2), none])) := by
  refine T.F__law_anew.ok sc__law_anew (fun vs H Q E h => ?_) (fun cdv A outer s H vs Q E hr h => ?_)
  · obtain ⟨a, G, w, _, _, hl, _⟩ := h; exact hl
  · refine ⟨_, (pss_cons (ps_set (i := 2) sc__law_anew.nd rfl (by first | exact .inl rfl | exact .inr rfl) (pe_op op_catR (pe_lst (pa_cons pe_int pa_nil)) (pe_call (ok__law_order T) (hr.mono (by decide)) (by rfl) T.g__law_order T.F__law_order.kp T.b__law_order .nil (show Passes CX0 _ E from pass0) (pa_cons (pv 0) (pa_cons (pe_listRg (by rfl) (by rfl) T.n_list (prg_2 (by rfl) T.n_range pe_int (pe_callB (call_lenK (Kf := K) (by rfl)) (by rfl) T.n_len PySem.boot_len (pa_cons (pe_ix (ix_anyK (Kf := K) (by rfl)) (pv 1) pe_int (fun _ _ => rfl)) pa_nil)))) pa_nil))))) (pss_cons (ps_setLc (i := 3) (own := [("node", 6)]) rfl sc__law_anew.nd rfl (by rfl) (by rfl) (pi_listK (Kf := K) (by rfl) (pe_ix (ix_anyK (Kf := K) (by rfl)) (pv 1) pe_int (fun _ _ => rfl))) blk__law_anew_1 (fun _ _ _ _ _ => (pg_name (i := 6) sc__law_anew.nd rfl (by first | exact .inl rfl | exact .inr rfl))) (fun _ _ _ _ _ => pts_nil) (fun _ _ _ _ _ => (pe_lst pa_nil))) (pss_cons (ps_for PassesOwn.never rfl (pi_enumK (Kf := K) (by rfl) (by rfl) T.n_enumerate (pa_cons (pv 2) pa_nil)) (pg_tupK (Kf := K) (n := 2) (by rfl) rfl (pgs_cons (pg_name (i := 4) sc__law_anew.nd rfl (by first | exact .inl rfl | exact .inr rfl)) (pgs_cons (pg_name (i := 5) sc__law_anew.nd rfl (by first | exact .inl rfl | exact .inr rfl)) pgs_nil))) (pss_one (ps_asg (pe_lc (own := [("name", 7), ("to", 8)]) rfl (by exact sc__law_anew.nd) (pi_listK (Kf := K) (by rfl) (pe_ix (ix_anyK (Kf := K) (by rfl)) (pe_ix (ix_anyK (Kf := K) (by rfl)) (pv 1) pe_int (fun _ _ => rfl)) (pv 4) (fun _ _ => rfl))) blk__law_anew_0 (fun _ _ _ _ _ => (pg_tupK (Kf := K) (n := 2) (by rfl) rfl (pgs_cons (pg_name (i := 7) sc__law_anew.nd rfl (by first | exact .inl rfl | exact .inr rfl)) (pgs_cons (pg_name (i := 8) sc__law_anew.nd rfl (by first | exact .inl rfl | exact .inr rfl)) pgs_nil)))) (fun _ _ _ _ _ => pts_nil) (fun _ _ _ _ _ => (pe_tup (pa_cons (pv 7) (pa_cons (pe_ix (ix_anyK (Kf := K) (by rfl)) (pv 2) (pv 8) (fun _ _ => rfl)) pa_nil))))) (pg_sub (pv 3) (pv 5) set_list)))) (pss_one (ps_ret (pe_tup (pa_cons (pe_tup (pa_cons (pe_ix (ix_anyK (Kf := K) (by rfl)) (pv 1) pe_int (fun _ _ => rfl)) (pa_cons (pe_ix (ix_anyK (Kf := K) (by rfl)) (pv 1) pe_int (fun _ _ => rfl)) (pa_cons (pe_ix (ix_anyK (Kf := K) (by rfl)) (pv 1) pe_int (fun _ _ => rfl)) (pa_cons (pv 3) pa_nil))))) (pa_cons (pv 2) pa_nil)))))))), ?_⟩
    refine fn_body (K := K) [0] (fun _ => by show (2 : Nat) ≤ 9; decide) (fun _ => by show ∀ k ∈ ([0] : List Nat), k < 2; decide) h (fun F a hec hE hK hpv => ?_)
    obtain ⟨x_pool, x_sheet⟩ := a
    show RS F [] [some (.l x_pool), some (.f x_sheet), none, none, none, none, none, none, none] (m__law_anew x_pool x_sheet) _ _ _
    unfold m__law_anew
    refine rs_seq ?_
    refine rs_set ?_ rfl (hpv _ (by decide))
    refine rd_fz ?_
    refine rd_op2L o_cat ?_
    refine rd_lst ?_
    refine ra_cons ?_
    refine rd_int ?_
    intro _
    refine ra_nil ?_
    refine ⟨[(.int 0)], rfl, (by show (1 : Nat) ≤ 1000; decide), ?_⟩
    intro _
    refine rd_call hec hE ?_
    refine ra_cons ?_
    refine rd_ali rfl ?_
    intro _
    refine ra_cons ?_
    refine rd_fz ?_
    refine rd_listRg2 ?_
    refine rd_int ?_
    intro _
    refine rd_cb1 o_len ?_
    refine rd_op2 o_ix ?_
    refine rd_var rfl ?_
    intro _
    refine rd_int ?_
    refine ⟨_, _, _, rfl, rfl, rfl, fun t5 => ?_⟩
    refine ⟨_, _, rfl, rfl, fun t4 => ?_⟩
    refine ⟨_, _, _, rfl, rfl, rfl, fun t3 => ?_⟩
    refine ⟨_, rfl, ?_⟩
    intro _
    refine ra_nil ?_
    refine ⟨(x_pool, (.lst t3)), _, rfl, rfl, rfl, fun r2 => ?_⟩
    refine ⟨_, _, _, rfl, rfl, rfl, fun t1 => ?_⟩
    refine ⟨_, rfl, ?_⟩
    refine ⟨_, rfl, (by show (2 : Nat) < 9; decide), ?_⟩
    refine rs_at [some (.l r2.2), some (.f x_sheet), some (.f (.lst t1)), none, none, none, none, none, none] rfl ?_
    refine rs_seq ?_
    refine rs_set ?_ rfl (hpv _ (by decide))
    refine rd_lcR [6] (fun i hi => hi) (all1 (hpv _ (by decide))) ?_
    refine ri_lst ?_
    refine rd_op2 o_ix ?_
    refine rd_var rfl ?_
    intro _
    refine rd_int ?_
    refine ⟨_, _, _, rfl, rfl, rfl, fun t9 => ?_⟩
    refine ⟨_, _, rfl, rfl, fun ds8 _ => ?_⟩
    refine ⟨[some (.l r2.2), some (.f x_sheet), some (.f (.lst t1)), none, none, none, none, none, none], _, _, rfl, ⟨.inr rfl, ⟨.inr rfl, ⟨.inr rfl, ⟨.inl rfl, ⟨.inl rfl, ⟨.inl rfl, ⟨.inl rfl, ⟨.inl rfl, ⟨.inl rfl, trivial⟩⟩⟩⟩⟩⟩⟩⟩⟩, (by first | exact trivial | rfl | exact ⟨rfl, rfl⟩), (all1 rfl), rfl, fun d6 _ _ => ?_, fun ys7 => ?_⟩
    · refine rg_name (by show (6 : Nat) < 9; decide) rfl (hpv _ (by decide)) ?_
      refine rt_true rfl ?_
      refine ⟨_, .ok none, (if_pos rfl).symm, fun _ => ?_, fun h => by cases h⟩
      refine rd_fz ?_
      refine rd_lst ?_
      refine ra_nil ?_
      refine ⟨[], rfl, (by show (0 : Nat) ≤ 1000; decide), ?_⟩
      refine ⟨_, rfl, ?_⟩
      exact ⟨_, rfl, rfl, ⟨.inr rfl, ⟨.inr rfl, ⟨.inr rfl, ⟨.inl rfl, ⟨.inl rfl, ⟨.inl rfl, ⟨.inl rfl, ⟨.inl rfl, ⟨.inl rfl, trivial⟩⟩⟩⟩⟩⟩⟩⟩⟩⟩
    · refine ⟨_, rfl, (by show (3 : Nat) < 9; decide), ?_⟩
      refine rs_at [some (.l r2.2), some (.f x_sheet), some (.f (.lst t1)), some (.l ys7), none, none, none, none, none] rfl ?_
      refine rs_seq ?_
      refine rs_forN (Z := (List D)) [4, 5] ?_
      refine ri_enumL ?_
      refine rd_var rfl ?_
      refine ⟨_, _, rfl, rfl, fun ds12 _ => ?_⟩
      refine ⟨fun z11 => [some (.l r2.2), some (.f x_sheet), some (.f (.lst t1)), some (.l z11), none, none, none, none, none], _, _, _, rfl, ⟨.inr rfl, ⟨.inr rfl, ⟨.inr rfl, ⟨.inr rfl, ⟨.inl rfl, ⟨.inl rfl, ⟨.inl rfl, ⟨.inl rfl, ⟨.inl rfl, trivial⟩⟩⟩⟩⟩⟩⟩⟩⟩, fun _ => (by first | exact trivial | rfl | exact ⟨rfl, rfl⟩), fun z11 d10 => ?_, fun z11 => ?_⟩
      · refine rg_n2 ⟨_, rfl, fun p13 => ?_⟩
        refine rgs_cons (by show (4 : Nat) < 9; decide) rfl (hpv _ (by decide)) ?_
        refine rgs_cons (by show (5 : Nat) < 9; decide) rfl (hpv _ (by decide)) ?_
        refine rgs_nil ?_
        refine rs_at [some (.l r2.2), some (.f x_sheet), some (.f (.lst t1)), some (.l z11), some (.f p13.1), some (.f p13.2), none, none, none] rfl ?_
        refine rs_setL ?_
        refine rd_fz ?_
        refine rd_lcR [7, 8] (fun i hi => hi) (all2 (hpv _ (by decide)) (hpv _ (by decide))) ?_
        refine ri_lst ?_
        refine rd_op2 o_ix ?_
        refine rd_op2 o_ix ?_
        refine rd_var rfl ?_
        intro _
        refine rd_int ?_
        refine ⟨_, _, _, rfl, rfl, rfl, fun t19 => ?_⟩
        intro _
        refine rd_var rfl ?_
        refine ⟨_, _, _, rfl, rfl, rfl, fun t18 => ?_⟩
        refine ⟨_, _, rfl, rfl, fun ds17 _ => ?_⟩
        refine ⟨[some (.l r2.2), some (.f x_sheet), some (.f (.lst t1)), some (.l z11), some (.f p13.1), some (.f p13.2), none, none, none], _, _, rfl, ⟨.inr rfl, ⟨.inr rfl, ⟨.inr rfl, ⟨.inr rfl, ⟨.inr rfl, ⟨.inr rfl, ⟨.inl rfl, ⟨.inl rfl, ⟨.inl rfl, trivial⟩⟩⟩⟩⟩⟩⟩⟩⟩, (by first | exact trivial | rfl | exact ⟨rfl, rfl⟩), (all2 rfl rfl), rfl, fun d15 _ _ => ?_, fun ys16 => ?_⟩
        · refine rg_n2 ⟨_, rfl, fun p20 => ?_⟩
          refine rgs_cons (by show (7 : Nat) < 9; decide) rfl (hpv _ (by decide)) ?_
          refine rgs_cons (by show (8 : Nat) < 9; decide) rfl (hpv _ (by decide)) ?_
          refine rgs_nil ?_
          refine rt_true rfl ?_
          refine ⟨_, .ok none, (if_pos rfl).symm, fun _ => ?_, fun h => by cases h⟩
          refine rd_tup ?_
          refine ra_cons ?_
          refine rd_var rfl ?_
          intro _
          refine ra_cons ?_
          refine rd_op2 o_ix ?_
          refine rd_var rfl ?_
          intro _
          refine rd_var rfl ?_
          refine ⟨_, _, _, rfl, rfl, rfl, fun t21 => ?_⟩
          intro _
          refine ra_nil ?_
          refine ⟨[p20.1, t21], rfl, (by show (2 : Nat) ≤ 1000; decide), ?_⟩
          exact ⟨_, rfl, rfl, ⟨.inr rfl, ⟨.inr rfl, ⟨.inr rfl, ⟨.inr rfl, ⟨.inr rfl, ⟨.inr rfl, ⟨.inl rfl, ⟨.inl rfl, ⟨.inl rfl, trivial⟩⟩⟩⟩⟩⟩⟩⟩⟩⟩
        · refine ⟨_, rfl, ?_⟩
          refine ⟨_, rfl, fun _ => ?_⟩
          refine rd_ali rfl ?_
          refine ⟨3, rfl, fun _ => ?_⟩
          refine rd_var rfl ?_
          refine ⟨_, _, _, rfl, rfl, rfl, fun t14 => ?_⟩
          exact ⟨_, rfl, ⟨.inr rfl, ⟨.inr rfl, ⟨.inr rfl, ⟨.inr rfl, ⟨.inl rfl, ⟨.inl rfl, ⟨.inl rfl, ⟨.inl rfl, ⟨.inl rfl, trivial⟩⟩⟩⟩⟩⟩⟩⟩⟩⟩
      · refine rs_at [some (.l r2.2), some (.f x_sheet), some (.f (.lst t1)), some (.l z11), none, none, none, none, none] rfl ?_
        refine rs_ret ?_
        refine rd_tup ?_
        refine ra_cons ?_
        refine rd_tup ?_
        refine ra_cons ?_
        refine rd_op2 o_ix ?_
        refine rd_var rfl ?_
        intro _
        refine rd_int ?_
        refine ⟨_, _, _, rfl, rfl, rfl, fun t22 => ?_⟩
        intro _
        refine ra_cons ?_
        refine rd_op2 o_ix ?_
        refine rd_var rfl ?_
        intro _
        refine rd_int ?_
        refine ⟨_, _, _, rfl, rfl, rfl, fun t23 => ?_⟩
        intro _
        refine ra_cons ?_
        refine rd_op2 o_ix ?_
        refine rd_var rfl ?_
        intro _
        refine rd_int ?_
        refine ⟨_, _, _, rfl, rfl, rfl, fun t24 => ?_⟩
        intro _
        refine ra_cons ?_
        refine rd_frz rfl ?_
        intro _
        refine ra_nil ?_
        refine ⟨[t22, t23, t24, (.lst z11)], rfl, (by show (4 : Nat) ≤ 1000; decide), ?_⟩
        intro _
        refine ra_cons ?_
        refine rd_var rfl ?_
        intro _
        refine ra_nil ?_
        refine ⟨[(.tup [t22, t23, t24, (.lst z11)]), (.lst t1)], rfl, (by show (2 : Nat) ≤ 1000; decide), ?_⟩
        refine ⟨_, rfl, ?_⟩
        exact ⟨_, rfl, rfl, ⟨rfl, by decide, trivial⟩⟩
theorem ok__law_named (T : Tx w K mg) : FnOk P w K mg base CX0 1 T.a__law_named T.d__law_named ["sheet", "names"] (spOf (A := D × D) (R := D) EC.ec (fun a => [.f a.1, .f a.2]) (fun a => m__law_named a.1 a.2) (fun r => .f r) (fun r => [none, none])) := by
  refine T.F__law_named.ok sc__law_named (fun vs H Q E h => ?_) (fun cdv A outer s H vs Q E hr h => ?_)
  · obtain ⟨a, G, w, _, _, hl, _⟩ := h; exact hl
  · refine ⟨_, (pss_cons (ps_set (i := 2) sc__law_named.nd rfl (by first | exact .inl rfl | exact .inr rfl) (pe_op op_catR (pe_ix (ix_anyK (Kf := K) (by rfl)) (pv 0) pe_int (fun _ _ => rfl)) (pe_ix (ix_anyK (Kf := K) (by rfl)) (pv 0) pe_int (fun _ _ => rfl)))) (pss_cons (ps_set (i := 3) sc__law_named.nd rfl (by first | exact .inl rfl | exact .inr rfl) (pe_dictZipL (Kf := K) (by rfl) rfl (by rfl) T.n_dict (by rfl) T.n_zip (pv 2) (pv 1))) (pss_cons (ps_setLc (i := 4) (own := [("node", 5)]) rfl sc__law_named.nd rfl (by rfl) (by rfl) (pi_listK (Kf := K) (by rfl) (pe_ix (ix_anyK (Kf := K) (by rfl)) (pv 0) pe_int (fun _ _ => rfl))) blk__law_named_0 (fun _ _ _ _ _ => (pg_name (i := 5) sc__law_named.nd rfl (by first | exact .inl rfl | exact .inr rfl))) (fun _ _ _ _ _ => pts_nil) (fun _ _ _ _ _ => (pe_lc (own := [("name", 6), ("to", 7)]) rfl (by exact sc__law_named.nd) (pi_listK (Kf := K) (by rfl) (pv 5)) (by exact blk__law_named_1) (fun _ _ _ _ _ => (pg_tupK (Kf := K) (n := 2) (by rfl) rfl (pgs_cons (pg_name (i := 6) sc__law_named.nd rfl (by first | exact .inl rfl | exact .inr rfl)) (pgs_cons (pg_name (i := 7) sc__law_named.nd rfl (by first | exact .inl rfl | exact .inr rfl)) pgs_nil)))) (fun _ _ _ _ _ => pts_nil) (fun _ _ _ _ _ => (pe_tup (pa_cons (pe_dget (hu_1 hr) (pv 3) (pv 6) (fun _ _ => rfl)) (pa_cons (pv 7) pa_nil))))))) (pss_one (ps_ret (pe_tup (pa_cons (pe_slice (sl_listK (Kf := K) (by rfl)) (pv 1) po_none (po_some (pe_callB (call_lenK (Kf := K) (by rfl)) (by rfl) T.n_len PySem.boot_len (pa_cons (pe_ix (ix_anyK (Kf := K) (by rfl)) (pv 0) pe_int (fun _ _ => rfl)) pa_nil)))) (pa_cons (pe_slice (sl_listK (Kf := K) (by rfl)) (pv 1) (po_some (pe_callB (call_lenK (Kf := K) (by rfl)) (by rfl) T.n_len PySem.boot_len (pa_cons (pe_ix (ix_anyK (Kf := K) (by rfl)) (pv 0) pe_int (fun _ _ => rfl)) pa_nil))) po_none) (pa_cons (pe_ix (ix_anyK (Kf := K) (by rfl)) (pv 0) pe_int (fun _ _ => rfl)) (pa_cons (pv 4) pa_nil)))))))))), ?_⟩
    refine fn_body (K := K) [] (fun _ => by show (2 : Nat) ≤ 8; decide) (fun _ => by show ∀ k ∈ ([] : List Nat), k < 2; decide) h (fun F a hec hE hK hpv => ?_)
    obtain ⟨x_sheet, x_names⟩ := a
    show RS F [] [some (.f x_sheet), some (.f x_names), none, none, none, none, none, none] (m__law_named x_sheet x_names) _ _ _
    unfold m__law_named
    refine rs_seq ?_
    refine rs_set ?_ rfl (hpv _ (by decide))
    refine rd_fz ?_
    refine rd_op2L o_cat ?_
    refine rd_op2 o_ix ?_
    refine rd_var rfl ?_
    intro _
    refine rd_int ?_
    refine ⟨_, _, _, rfl, rfl, rfl, fun t2 => ?_⟩
    intro _
    refine rd_op2 o_ix ?_
    refine rd_var rfl ?_
    intro _
    refine rd_int ?_
    refine ⟨_, _, _, rfl, rfl, rfl, fun t3 => ?_⟩
    refine ⟨_, _, _, rfl, rfl, rfl, fun t1 => ?_⟩
    refine ⟨_, rfl, ?_⟩
    refine ⟨_, rfl, (by show (2 : Nat) < 8; decide), ?_⟩
    refine rs_at [some (.f x_sheet), some (.f x_names), some (.f (.lst t1)), none, none, none, none, none] rfl ?_
    refine rs_seq ?_
    refine rs_set ?_ rfl (hpv _ (by decide))
    refine rd_fz ?_
    refine rd_dzipL ?_
    refine rd_var rfl ?_
    intro _
    refine rd_var rfl ?_
    refine ⟨_, _, _, rfl, rfl, rfl, fun t4 => ?_⟩
    refine ⟨_, rfl, ?_⟩
    refine ⟨_, rfl, (by show (3 : Nat) < 8; decide), ?_⟩
    refine rs_at [some (.f x_sheet), some (.f x_names), some (.f (.lst t1)), some (.f (.dct false t4)), none, none, none, none] rfl ?_
    refine rs_seq ?_
    refine rs_set ?_ rfl (hpv _ (by decide))
    refine rd_fz ?_
    refine rd_lcR [5] (fun i hi => hi) (all1 (hpv _ (by decide))) ?_
    refine ri_lst ?_
    refine rd_op2 o_ix ?_
    refine rd_var rfl ?_
    intro _
    refine rd_int ?_
    refine ⟨_, _, _, rfl, rfl, rfl, fun t8 => ?_⟩
    refine ⟨_, _, rfl, rfl, fun ds7 _ => ?_⟩
    refine ⟨[some (.f x_sheet), some (.f x_names), some (.f (.lst t1)), some (.f (.dct false t4)), none, none, none, none], _, _, rfl, ⟨.inr rfl, ⟨.inr rfl, ⟨.inr rfl, ⟨.inr rfl, ⟨.inl rfl, ⟨.inl rfl, ⟨.inl rfl, ⟨.inl rfl, trivial⟩⟩⟩⟩⟩⟩⟩⟩, (by first | exact trivial | rfl | exact ⟨rfl, rfl⟩), (all1 rfl), rfl, fun d5 _ _ => ?_, fun ys6 => ?_⟩
    · refine rg_name (by show (5 : Nat) < 8; decide) rfl (hpv _ (by decide)) ?_
      refine rt_true rfl ?_
      refine ⟨_, .ok none, (if_pos rfl).symm, fun _ => ?_, fun h => by cases h⟩
      refine rd_fz ?_
      refine rd_lcR [6, 7] (fun i hi => hi) (all2 (hpv _ (by decide)) (hpv _ (by decide))) ?_
      refine ri_lst ?_
      refine rd_var rfl ?_
      refine ⟨_, _, rfl, rfl, fun ds11 _ => ?_⟩
      refine ⟨[some (.f x_sheet), some (.f x_names), some (.f (.lst t1)), some (.f (.dct false t4)), none, some (.f d5), none, none], _, _, rfl, ⟨.inr rfl, ⟨.inr rfl, ⟨.inr rfl, ⟨.inr rfl, ⟨.inl rfl, ⟨.inr rfl, ⟨.inl rfl, ⟨.inl rfl, trivial⟩⟩⟩⟩⟩⟩⟩⟩, (by first | exact trivial | rfl | exact ⟨rfl, rfl⟩), (all2 rfl rfl), rfl, fun d9 _ _ => ?_, fun ys10 => ?_⟩
      · refine rg_n2 ⟨_, rfl, fun p12 => ?_⟩
        refine rgs_cons (by show (6 : Nat) < 8; decide) rfl (hpv _ (by decide)) ?_
        refine rgs_cons (by show (7 : Nat) < 8; decide) rfl (hpv _ (by decide)) ?_
        refine rgs_nil ?_
        refine rt_true rfl ?_
        refine ⟨_, .ok none, (if_pos rfl).symm, fun _ => ?_, fun h => by cases h⟩
        refine rd_tup ?_
        refine ra_cons ?_
        refine rd_dget ?_
        refine rd_var rfl ?_
        intro _
        refine rd_var rfl ?_
        refine ⟨_, _, _, rfl, rfl, rfl, fun t13 => ?_⟩
        intro _
        refine ra_cons ?_
        refine rd_var rfl ?_
        intro _
        refine ra_nil ?_
        refine ⟨[t13, p12.2], rfl, (by show (2 : Nat) ≤ 1000; decide), ?_⟩
        exact ⟨_, rfl, rfl, ⟨.inr rfl, ⟨.inr rfl, ⟨.inr rfl, ⟨.inr rfl, ⟨.inl rfl, ⟨.inr rfl, ⟨.inl rfl, ⟨.inl rfl, trivial⟩⟩⟩⟩⟩⟩⟩⟩⟩
      · refine ⟨_, rfl, ?_⟩
        exact ⟨_, rfl, rfl, ⟨.inr rfl, ⟨.inr rfl, ⟨.inr rfl, ⟨.inr rfl, ⟨.inl rfl, ⟨.inl rfl, ⟨.inl rfl, ⟨.inl rfl, trivial⟩⟩⟩⟩⟩⟩⟩⟩⟩
    · refine ⟨_, rfl, ?_⟩
      refine ⟨_, rfl, (by show (4 : Nat) < 8; decide), ?_⟩
      refine rs_at [some (.f x_sheet), some (.f x_names), some (.f (.lst t1)), some (.f (.dct false t4)), some (.f (.lst ys6)), none, none, none] rfl ?_
      refine rs_ret ?_
      refine rd_tup ?_
      refine ra_cons ?_
      refine rd_fz ?_
      refine rd_slL ?_
      refine rd_var rfl ?_
      intro _
      refine ro_none ?_
      refine ro_some ?_
      refine rd_cb1 o_len ?_
      refine rd_op2 o_ix ?_
      refine rd_var rfl ?_
      intro _
      refine rd_int ?_
      refine ⟨_, _, _, rfl, rfl, rfl, fun t17 => ?_⟩
      refine ⟨_, _, rfl, rfl, fun t16 => ?_⟩
      refine ⟨_, _, rfl, rfl, fun t15 => ?_⟩
      refine ⟨_, _, rfl, rfl, fun t14 => ?_⟩
      refine ⟨_, rfl, ?_⟩
      intro _
      refine ra_cons ?_
      refine rd_fz ?_
      refine rd_slL ?_
      refine rd_var rfl ?_
      intro _
      refine ro_some ?_
      refine rd_cb1 o_len ?_
      refine rd_op2 o_ix ?_
      refine rd_var rfl ?_
      intro _
      refine rd_int ?_
      refine ⟨_, _, _, rfl, rfl, rfl, fun t21 => ?_⟩
      refine ⟨_, _, rfl, rfl, fun t20 => ?_⟩
      refine ⟨_, _, rfl, rfl, fun t19 => ?_⟩
      refine ro_none ?_
      refine ⟨_, _, rfl, rfl, fun t18 => ?_⟩
      refine ⟨_, rfl, ?_⟩
      intro _
      refine ra_cons ?_
      refine rd_op2 o_ix ?_
      refine rd_var rfl ?_
      intro _
      refine rd_int ?_
      refine ⟨_, _, _, rfl, rfl, rfl, fun t22 => ?_⟩
      intro _
      refine ra_cons ?_
      refine rd_var rfl ?_
      intro _
      refine ra_nil ?_
      refine ⟨[(.lst t14), (.lst t18), t22, (.lst ys6)], rfl, (by show (4 : Nat) ≤ 1000; decide), ?_⟩
      refine ⟨_, rfl, ?_⟩
      exact ⟨_, rfl, rfl, trivial⟩
theorem ok__law_size (T : Tx w K mg) : FnOk P w K mg base CX0 2 T.a__law_size T.d__law_size ["pool"] (spOf (A := (List D)) (R := D × (List D)) EC.ec (fun a => [.l a]) (fun a => m__law_size a) (fun r => .f r.1) (fun r => [some (.l r.2)])) := by
  refine T.F__law_size.ok sc__law_size (fun vs H Q E h => ?_) (fun cdv A outer s H vs Q E hr h => ?_)
  · obtain ⟨a, G, w, _, _, hl, _⟩ := h; exact hl
  · refine ⟨_, (pss_one (ps_ret (pe_ix (ix_anyK (Kf := K) (by rfl)) (pe_lst (pa_cons (pe_op op_addA pe_int (pe_call (ok__law_take T) (hr.mono (by decide)) (by rfl) T.g__law_take T.F__law_take.kp T.b__law_take .nil (show Passes CX0 _ E from pass0) (pa_cons (pv 0) (pa_cons pe_int pa_nil)))) (pa_cons (pe_op op_addA pe_int (pe_call (ok__law_take T) (hr.mono (by decide)) (by rfl) T.g__law_take T.F__law_take.kp T.b__law_take .nil (show Passes CX0 _ E from pass0) (pa_cons (pv 0) (pa_cons pe_int pa_nil)))) (pa_cons (pe_op op_addA pe_int (pe_call (ok__law_take T) (hr.mono (by decide)) (by rfl) T.g__law_take T.F__law_take.kp T.b__law_take .nil (show Passes CX0 _ E from pass0) (pa_cons (pv 0) (pa_cons pe_int pa_nil)))) pa_nil)))) (pe_call (ok__law_take T) (hr.mono (by decide)) (by rfl) T.g__law_take T.F__law_take.kp T.b__law_take .nil (show Passes CX0 _ E from pass0) (pa_cons (pv 0) (pa_cons pe_int pa_nil))) (fun _ _ => rfl)))), ?_⟩
    refine fn_body (K := K) [0] (fun _ => by show (1 : Nat) ≤ 1; decide) (fun _ => by show ∀ k ∈ ([0] : List Nat), k < 1; decide) h (fun F x_pool hec hE hK hpv => ?_)
    skip
    show RS F [] [some (.l x_pool)] (m__law_size x_pool) _ _ _
    unfold m__law_size
    refine rs_ret ?_
    refine rd_op2 o_ix ?_
    refine rd_lst ?_
    refine ra_cons ?_
    refine rd_op2 o_add ?_
    refine rd_int ?_
    intro _
    refine rd_call hec hE ?_
    refine ra_cons ?_
    refine rd_ali rfl ?_
    intro _
    refine ra_cons ?_
    refine rd_int ?_
    intro _
    refine ra_nil ?_
    refine ⟨(x_pool, (.int 6)), _, rfl, rfl, rfl, fun r3 => ?_⟩
    refine ⟨_, _, _, rfl, rfl, rfl, fun t2 => ?_⟩
    intro _
    refine ra_cons ?_
    refine rd_op2 o_add ?_
    refine rd_int ?_
    intro _
    refine rd_call hec hE ?_
    refine ra_cons ?_
    refine rd_ali rfl ?_
    intro _
    refine ra_cons ?_
    refine rd_int ?_
    intro _
    refine ra_nil ?_
    refine ⟨(r3.2, (.int 16)), _, rfl, rfl, rfl, fun r5 => ?_⟩
    refine ⟨_, _, _, rfl, rfl, rfl, fun t4 => ?_⟩
    intro _
    refine ra_cons ?_
    refine rd_op2 o_add ?_
    refine rd_int ?_
    intro _
    refine rd_call hec hE ?_
    refine ra_cons ?_
    refine rd_ali rfl ?_
    intro _
    refine ra_cons ?_
    refine rd_int ?_
    intro _
    refine ra_nil ?_
    refine ⟨(r5.2, (.int 40)), _, rfl, rfl, rfl, fun r7 => ?_⟩
    refine ⟨_, _, _, rfl, rfl, rfl, fun t6 => ?_⟩
    intro _
    refine ra_nil ?_
    refine ⟨[t2, t4, t6], rfl, (by show (3 : Nat) ≤ 1000; decide), ?_⟩
    intro _
    refine rd_call hec hE ?_
    refine ra_cons ?_
    refine rd_ali rfl ?_
    intro _
    refine ra_cons ?_
    refine rd_int ?_
    intro _
    refine ra_nil ?_
    refine ⟨(r7.2, (.int 3)), _, rfl, rfl, rfl, fun r8 => ?_⟩
    refine ⟨_, _, _, rfl, rfl, rfl, fun t1 => ?_⟩
    refine ⟨_, rfl, ?_⟩
    exact ⟨_, rfl, rfl, ⟨rfl, by decide, trivial⟩⟩
theorem ok__law_pairs (T : Tx w K mg) : FnOk P w K mg base CX0 1 T.a__law_pairs T.d__law_pairs ["pairs", "numbers"] (spOf (A := D × D) (R := List D) EC.ec (fun a => [.f a.1, .f a.2]) (fun a => m__law_pairs a.1 a.2) (fun r => .l r) (fun r => [none, none])) := by
  refine T.F__law_pairs.ok sc__law_pairs (fun vs H Q E h => ?_) (fun cdv A outer s H vs Q E hr h => ?_)
  · obtain ⟨a, G, w, _, _, hl, _⟩ := h; exact hl
  · refine ⟨_, (pss_one (ps_ret (pe_callB (cr_sortedK (Kf := K) (by rfl) (hu_64 hr)) (by rfl) T.n_sorted PyProof.Rows.boot_sorted (pa_cons (pe_lc (own := [("one", 2), ("other", 3)]) rfl (by exact sc__law_pairs.nd) (pi_listK (Kf := K) (by rfl) (pv 0)) blk__law_pairs_0 (fun _ _ _ _ _ => (pg_tupK (Kf := K) (n := 2) (by rfl) rfl (pgs_cons (pg_name (i := 2) sc__law_pairs.nd rfl (by first | exact .inl rfl | exact .inr rfl)) (pgs_cons (pg_name (i := 3) sc__law_pairs.nd rfl (by first | exact .inl rfl | exact .inr rfl)) pgs_nil)))) (fun _ _ _ _ _ => pts_nil) (fun _ _ _ _ _ => (pe_callTy (call_tupleK (Kf := K) (by rfl) (by rfl)) (by rfl) T.n_tuple PyProof.Rows.boot_tuple (pa_cons (pe_callB (cr_sortedK (Kf := K) (by rfl) (hu_64 hr)) (by rfl) T.n_sorted PyProof.Rows.boot_sorted (pa_cons (pe_lst (pa_cons (pe_ix (ix_anyK (Kf := K) (by rfl)) (pv 1) (pv 2) (fun _ _ => rfl)) (pa_cons (pe_ix (ix_anyK (Kf := K) (by rfl)) (pv 1) (pv 3) (fun _ _ => rfl)) pa_nil))) pa_nil)) pa_nil)))) pa_nil)))), ?_⟩
    refine fn_body (K := K) [] (fun _ => by show (2 : Nat) ≤ 4; decide) (fun _ => by show ∀ k ∈ ([] : List Nat), k < 2; decide) h (fun F a hec hE hK hpv => ?_)
    obtain ⟨x_pairs, x_numbers⟩ := a
    show RS F [] [some (.f x_pairs), some (.f x_numbers), none, none] (m__law_pairs x_pairs x_numbers) _ _ _
    unfold m__law_pairs
    refine rs_ret ?_
    refine rd_cb1L o_sorted ?_
    refine rd_lcR [2, 3] (fun i hi => hi) (all2 (hpv _ (by decide)) (hpv _ (by decide))) ?_
    refine ri_lst ?_
    refine rd_var rfl ?_
    refine ⟨_, _, rfl, rfl, fun ds4 _ => ?_⟩
    refine ⟨[some (.f x_pairs), some (.f x_numbers), none, none], _, _, rfl, ⟨.inr rfl, ⟨.inr rfl, ⟨.inl rfl, ⟨.inl rfl, trivial⟩⟩⟩⟩, (by first | exact trivial | rfl | exact ⟨rfl, rfl⟩), (all2 rfl rfl), rfl, fun d2 _ _ => ?_, fun ys3 => ?_⟩
    · refine rg_n2 ⟨_, rfl, fun p5 => ?_⟩
      refine rgs_cons (by show (2 : Nat) < 4; decide) rfl (hpv _ (by decide)) ?_
      refine rgs_cons (by show (3 : Nat) < 4; decide) rfl (hpv _ (by decide)) ?_
      refine rgs_nil ?_
      refine rt_true rfl ?_
      refine ⟨_, .ok none, (if_pos rfl).symm, fun _ => ?_, fun h => by cases h⟩
      refine rd_tupL ?_
      refine rd_cb1L o_sorted ?_
      refine rd_lst ?_
      refine ra_cons ?_
      refine rd_op2 o_ix ?_
      refine rd_var rfl ?_
      intro _
      refine rd_var rfl ?_
      refine ⟨_, _, _, rfl, rfl, rfl, fun t8 => ?_⟩
      intro _
      refine ra_cons ?_
      refine rd_op2 o_ix ?_
      refine rd_var rfl ?_
      intro _
      refine rd_var rfl ?_
      refine ⟨_, _, _, rfl, rfl, rfl, fun t9 => ?_⟩
      intro _
      refine ra_nil ?_
      refine ⟨[t8, t9], rfl, (by show (2 : Nat) ≤ 1000; decide), ?_⟩
      refine ⟨_, _, rfl, rfl, fun t7 => ?_⟩
      refine ⟨_, _, rfl, rfl, fun t6 => ?_⟩
      exact ⟨_, rfl, rfl, ⟨.inr rfl, ⟨.inr rfl, ⟨.inl rfl, ⟨.inl rfl, trivial⟩⟩⟩⟩⟩
    · refine ⟨_, _, rfl, rfl, fun t1 => ?_⟩
      refine ⟨_, rfl, ?_⟩
      exact ⟨_, rfl, rfl, trivial⟩
theorem ok__law_twin (T : Tx w K mg) : FnOk P w K mg base CX0 1 T.a__law_twin T.d__law_twin ["sheet"] (spOf (A := D) (R := D) EC.ec (fun a => [.f a]) (fun a => m__law_twin a) (fun r => .f r) (fun r => [none])) := by
  refine T.F__law_twin.ok sc__law_twin (fun vs H Q E h => ?_) (fun cdv A outer s H vs Q E hr h => ?_)
  · obtain ⟨a, G, w, _, _, hl, _⟩ := h; exact hl
  · refine ⟨_, (pss_cons (ps_set (i := 1) sc__law_twin.nd rfl (by first | exact .inl rfl | exact .inr rfl) (pe_ix (ix_anyK (Kf := K) (by rfl)) (pe_op op_catR (pe_ix (ix_anyK (Kf := K) (by rfl)) (pv 0) pe_int (fun _ _ => rfl)) (pe_ix (ix_anyK (Kf := K) (by rfl)) (pv 0) pe_int (fun _ _ => rfl))) pe_int (fun _ _ => rfl))) (pss_cons (ps_set (i := 2) sc__law_twin.nd rfl (by first | exact .inl rfl | exact .inr rfl) (pe_callB (call_lenK (Kf := K) (by rfl)) (by rfl) T.n_len PySem.boot_len (pa_cons (pe_ix (ix_anyK (Kf := K) (by rfl)) (pv 0) pe_int (fun _ _ => rfl)) pa_nil))) (pss_cons (ps_set (i := 3) sc__law_twin.nd rfl (by first | exact .inl rfl | exact .inr rfl) (pe_op op_catR (pe_lc (own := [("turn", 5)]) rfl (by exact sc__law_twin.nd) (pi_listK (Kf := K) (by rfl) (pe_ix (ix_anyK (Kf := K) (by rfl)) (pe_ix (ix_anyK (Kf := K) (by rfl)) (pv 0) pe_int (fun _ _ => rfl)) pe_int (fun _ _ => rfl))) blk__law_twin_1 (fun _ _ _ _ _ => (pg_name (i := 5) sc__law_twin.nd rfl (by first | exact .inl rfl | exact .inr rfl))) (fun _ _ _ _ _ => (pts_one (pt_cmpR (op_neM (hu_64 hr)) (pe_ix (ix_anyK (Kf := K) (by rfl)) (pv 5) pe_int (fun _ _ => rfl)) (pv 1) (nomark _)))) (fun _ _ _ _ _ => (pv 5))) (pe_lst (pa_cons (pe_tup (pa_cons (pv 1) (pa_cons (pv 2) pa_nil))) pa_nil)))) (pss_cons (ps_setLc (i := 4) (own := [("turn", 5)]) rfl sc__law_twin.nd rfl (by rfl) (by rfl) (pi_listK (Kf := K) (by rfl) (pe_ix (ix_anyK (Kf := K) (by rfl)) (pe_ix (ix_anyK (Kf := K) (by rfl)) (pv 0) pe_int (fun _ _ => rfl)) pe_int (fun _ _ => rfl))) blk__law_twin_0 (fun _ _ _ _ _ => (pg_name (i := 5) sc__law_twin.nd rfl (by first | exact .inl rfl | exact .inr rfl))) (fun _ _ _ _ _ => (pts_one (pt_cmpR (op_inK (Kf := K) (by rfl)) (pe_ix (ix_anyK (Kf := K) (by rfl)) (pv 5) pe_int (fun _ _ => rfl)) (pe_ix (ix_anyK (Kf := K) (by rfl)) (pv 0) pe_int (fun _ _ => rfl)) rfl))) (fun _ _ _ _ _ => (pv 5))) (pss_one (ps_ret (pe_tup (pa_cons (pe_ix (ix_anyK (Kf := K) (by rfl)) (pv 0) pe_int (fun _ _ => rfl)) (pa_cons (pe_ix (ix_anyK (Kf := K) (by rfl)) (pv 0) pe_int (fun _ _ => rfl)) (pa_cons (pe_ix (ix_anyK (Kf := K) (by rfl)) (pv 0) pe_int (fun _ _ => rfl)) (pa_cons (pe_op op_catR (pe_op op_catR (pe_lst (pa_cons (pv 3) pa_nil)) (pe_slice (sl_listK (Kf := K) (by rfl)) (pe_ix (ix_anyK (Kf := K) (by rfl)) (pv 0) pe_int (fun _ _ => rfl)) (po_some pe_int) po_none)) (pe_lst (pa_cons (pe_lst (pa_cons (pe_tup (pa_cons (pv 1) (pa_cons (pe_op op_addA (pv 2) pe_int) pa_nil))) pa_nil)) (pa_cons (pv 4) pa_nil)))) pa_nil))))))))))), ?_⟩
    refine fn_body (K := K) [] (fun _ => by show (1 : Nat) ≤ 6; decide) (fun _ => by show ∀ k ∈ ([] : List Nat), k < 1; decide) h (fun F x_sheet hec hE hK hpv => ?_)
    skip
    show RS F [] [some (.f x_sheet), none, none, none, none, none] (m__law_twin x_sheet) _ _ _
    unfold m__law_twin
    refine rs_seq ?_
    refine rs_set ?_ rfl (hpv _ (by decide))
    refine rd_op2 o_ix ?_
    refine rd_op2L o_cat ?_
    refine rd_op2 o_ix ?_
    refine rd_var rfl ?_
    intro _
    refine rd_int ?_
    refine ⟨_, _, _, rfl, rfl, rfl, fun t3 => ?_⟩
    intro _
    refine rd_op2 o_ix ?_
    refine rd_var rfl ?_
    intro _
    refine rd_int ?_
    refine ⟨_, _, _, rfl, rfl, rfl, fun t4 => ?_⟩
    refine ⟨_, _, _, rfl, rfl, rfl, fun t2 => ?_⟩
    intro _
    refine rd_int ?_
    refine ⟨_, _, _, rfl, rfl, rfl, fun t1 => ?_⟩
    refine ⟨_, rfl, (by show (1 : Nat) < 6; decide), ?_⟩
    refine rs_at [some (.f x_sheet), some (.f t1), none, none, none, none] rfl ?_
    refine rs_seq ?_
    refine rs_set ?_ rfl (hpv _ (by decide))
    refine rd_cb1 o_len ?_
    refine rd_op2 o_ix ?_
    refine rd_var rfl ?_
    intro _
    refine rd_int ?_
    refine ⟨_, _, _, rfl, rfl, rfl, fun t6 => ?_⟩
    refine ⟨_, _, rfl, rfl, fun t5 => ?_⟩
    refine ⟨_, rfl, (by show (2 : Nat) < 6; decide), ?_⟩
    refine rs_at [some (.f x_sheet), some (.f t1), some (.f t5), none, none, none] rfl ?_
    refine rs_seq ?_
    refine rs_set ?_ rfl (hpv _ (by decide))
    refine rd_fz ?_
    refine rd_op2L o_cat ?_
    refine rd_lcR [5] (fun i hi => hi) (all1 (hpv _ (by decide))) ?_
    refine ri_lst ?_
    refine rd_op2 o_ix ?_
    refine rd_op2 o_ix ?_
    refine rd_var rfl ?_
    intro _
    refine rd_int ?_
    refine ⟨_, _, _, rfl, rfl, rfl, fun t12 => ?_⟩
    intro _
    refine rd_int ?_
    refine ⟨_, _, _, rfl, rfl, rfl, fun t11 => ?_⟩
    refine ⟨_, _, rfl, rfl, fun ds10 _ => ?_⟩
    refine ⟨[some (.f x_sheet), some (.f t1), some (.f t5), none, none, none], _, _, rfl, ⟨.inr rfl, ⟨.inr rfl, ⟨.inr rfl, ⟨.inl rfl, ⟨.inl rfl, ⟨.inl rfl, trivial⟩⟩⟩⟩⟩⟩, (by first | exact trivial | rfl | exact ⟨rfl, rfl⟩), (all1 rfl), rfl, fun d8 _ _ => ?_, fun ys9 => ?_⟩
    · refine rg_name (by show (5 : Nat) < 6; decide) rfl (hpv _ (by decide)) ?_
      refine rt_op2B o_ne ?_
      refine rd_op2 o_ix ?_
      refine rd_var rfl ?_
      intro _
      refine rd_int ?_
      refine ⟨_, _, _, rfl, rfl, rfl, fun t14 => ?_⟩
      intro _
      refine rd_var rfl ?_
      refine ⟨_, _, _, rfl, rfl, rfl, fun t13 => ?_⟩
      refine ⟨_, _, rfl, fun _ => ?_, fun _ => ⟨rfl, ⟨.inr rfl, ⟨.inr rfl, ⟨.inr rfl, ⟨.inl rfl, ⟨.inl rfl, ⟨.inl rfl, trivial⟩⟩⟩⟩⟩⟩⟩⟩
      refine rd_var rfl ?_
      exact ⟨_, rfl, rfl, ⟨.inr rfl, ⟨.inr rfl, ⟨.inr rfl, ⟨.inl rfl, ⟨.inl rfl, ⟨.inl rfl, trivial⟩⟩⟩⟩⟩⟩⟩
    · intro _
      refine rd_lst ?_
      refine ra_cons ?_
      refine rd_tup ?_
      refine ra_cons ?_
      refine rd_var rfl ?_
      intro _
      refine ra_cons ?_
      refine rd_var rfl ?_
      intro _
      refine ra_nil ?_
      refine ⟨[t1, t5], rfl, (by show (2 : Nat) ≤ 1000; decide), ?_⟩
      intro _
      refine ra_nil ?_
      refine ⟨[(.tup [t1, t5])], rfl, (by show (1 : Nat) ≤ 1000; decide), ?_⟩
      refine ⟨_, _, _, rfl, rfl, rfl, fun t7 => ?_⟩
      refine ⟨_, rfl, ?_⟩
      refine ⟨_, rfl, (by show (3 : Nat) < 6; decide), ?_⟩
      refine rs_at [some (.f x_sheet), some (.f t1), some (.f t5), some (.f (.lst t7)), none, none] rfl ?_
      refine rs_seq ?_
      refine rs_set ?_ rfl (hpv _ (by decide))
      refine rd_fz ?_
      refine rd_lcR [5] (fun i hi => hi) (all1 (hpv _ (by decide))) ?_
      refine ri_lst ?_
      refine rd_op2 o_ix ?_
      refine rd_op2 o_ix ?_
      refine rd_var rfl ?_
      intro _
      refine rd_int ?_
      refine ⟨_, _, _, rfl, rfl, rfl, fun t19 => ?_⟩
      intro _
      refine rd_int ?_
      refine ⟨_, _, _, rfl, rfl, rfl, fun t18 => ?_⟩
      refine ⟨_, _, rfl, rfl, fun ds17 _ => ?_⟩
      refine ⟨[some (.f x_sheet), some (.f t1), some (.f t5), some (.f (.lst t7)), none, none], _, _, rfl, ⟨.inr rfl, ⟨.inr rfl, ⟨.inr rfl, ⟨.inr rfl, ⟨.inl rfl, ⟨.inl rfl, trivial⟩⟩⟩⟩⟩⟩, (by first | exact trivial | rfl | exact ⟨rfl, rfl⟩), (all1 rfl), rfl, fun d15 _ _ => ?_, fun ys16 => ?_⟩
      · refine rg_name (by show (5 : Nat) < 6; decide) rfl (hpv _ (by decide)) ?_
        refine rt_op2B o_in ?_
        refine rd_op2 o_ix ?_
        refine rd_var rfl ?_
        intro _
        refine rd_int ?_
        refine ⟨_, _, _, rfl, rfl, rfl, fun t21 => ?_⟩
        intro _
        refine rd_op2 o_ix ?_
        refine rd_var rfl ?_
        intro _
        refine rd_int ?_
        refine ⟨_, _, _, rfl, rfl, rfl, fun t22 => ?_⟩
        refine ⟨_, _, _, rfl, rfl, rfl, fun t20 => ?_⟩
        refine ⟨_, _, rfl, fun _ => ?_, fun _ => ⟨rfl, ⟨.inr rfl, ⟨.inr rfl, ⟨.inr rfl, ⟨.inr rfl, ⟨.inl rfl, ⟨.inl rfl, trivial⟩⟩⟩⟩⟩⟩⟩⟩
        refine rd_var rfl ?_
        exact ⟨_, rfl, rfl, ⟨.inr rfl, ⟨.inr rfl, ⟨.inr rfl, ⟨.inr rfl, ⟨.inl rfl, ⟨.inl rfl, trivial⟩⟩⟩⟩⟩⟩⟩
      · refine ⟨_, rfl, ?_⟩
        refine ⟨_, rfl, (by show (4 : Nat) < 6; decide), ?_⟩
        refine rs_at [some (.f x_sheet), some (.f t1), some (.f t5), some (.f (.lst t7)), some (.f (.lst ys16)), none] rfl ?_
        refine rs_ret ?_
        refine rd_tup ?_
        refine ra_cons ?_
        refine rd_op2 o_ix ?_
        refine rd_var rfl ?_
        intro _
        refine rd_int ?_
        refine ⟨_, _, _, rfl, rfl, rfl, fun t23 => ?_⟩
        intro _
        refine ra_cons ?_
        refine rd_op2 o_ix ?_
        refine rd_var rfl ?_
        intro _
        refine rd_int ?_
        refine ⟨_, _, _, rfl, rfl, rfl, fun t24 => ?_⟩
        intro _
        refine ra_cons ?_
        refine rd_op2 o_ix ?_
        refine rd_var rfl ?_
        intro _
        refine rd_int ?_
        refine ⟨_, _, _, rfl, rfl, rfl, fun t25 => ?_⟩
        intro _
        refine ra_cons ?_
        refine rd_fz ?_
        refine rd_op2L o_cat ?_
        refine rd_op2L o_cat ?_
        refine rd_lst ?_
        refine ra_cons ?_
        refine rd_var rfl ?_
        intro _
        refine ra_nil ?_
        refine ⟨[(.lst t7)], rfl, (by show (1 : Nat) ≤ 1000; decide), ?_⟩
        intro _
        refine rd_slL ?_
        refine rd_op2 o_ix ?_
        refine rd_var rfl ?_
        intro _
        refine rd_int ?_
        refine ⟨_, _, _, rfl, rfl, rfl, fun t29 => ?_⟩
        intro _
        refine ro_some ?_
        refine rd_int ?_
        refine ⟨_, _, rfl, rfl, fun t30 => ?_⟩
        refine ro_none ?_
        refine ⟨_, _, rfl, rfl, fun t28 => ?_⟩
        refine ⟨_, _, _, rfl, rfl, rfl, fun t27 => ?_⟩
        intro _
        refine rd_lst ?_
        refine ra_cons ?_
        refine rd_fz ?_
        refine rd_lst ?_
        refine ra_cons ?_
        refine rd_tup ?_
        refine ra_cons ?_
        refine rd_var rfl ?_
        intro _
        refine ra_cons ?_
        refine rd_op2 o_add ?_
        refine rd_var rfl ?_
        intro _
        refine rd_int ?_
        refine ⟨_, _, _, rfl, rfl, rfl, fun t31 => ?_⟩
        intro _
        refine ra_nil ?_
        refine ⟨[t1, t31], rfl, (by show (2 : Nat) ≤ 1000; decide), ?_⟩
        intro _
        refine ra_nil ?_
        refine ⟨[(.tup [t1, t31])], rfl, (by show (1 : Nat) ≤ 1000; decide), ?_⟩
        refine ⟨_, rfl, ?_⟩
        intro _
        refine ra_cons ?_
        refine rd_var rfl ?_
        intro _
        refine ra_nil ?_
        refine ⟨[(.lst [(.tup [t1, t31])]), (.lst ys16)], rfl, (by show (2 : Nat) ≤ 1000; decide), ?_⟩
        refine ⟨_, _, _, rfl, rfl, rfl, fun t26 => ?_⟩
        refine ⟨_, rfl, ?_⟩
        intro _
        refine ra_nil ?_
        refine ⟨[t23, t24, t25, (.lst t26)], rfl, (by show (4 : Nat) ≤ 1000; decide), ?_⟩
        refine ⟨_, rfl, ?_⟩
        exact ⟨_, rfl, rfl, trivial⟩
theorem ok_is_name (T : Tx w K mg) : FnOk P w K mg base CX0 1 T.a_is_name T.d_is_name ["thing"] (spOf (A := D) (R := D) EC.ec (fun a => [.f a]) (fun a => m_is_name a) (fun r => .f r) (fun r => [none])) := by
  refine T.F_is_name.ok sc_is_name (fun vs H Q E h => ?_) (fun cdv A outer s H vs Q E hr h => ?_)
  · obtain ⟨a, G, w, _, _, hl, _⟩ := h; exact hl
  · refine ⟨_, (pss_cons (ps_if (pw_or (pt_not (pt_val (pe_callB (call_isiK' (Kf := K) (by rfl)) (by rfl) T.n_isinstance PyProof.Rows.boot_isinstance (pa_cons (pv 0) (pa_cons (pe_bltn (v := .ty "str") (u := .type "str") (by rfl) T.n_str (by decide +kernel) rfl) pa_nil))))) (pw_or1 (pt_not (pt_chain op_ltA op_ltA pe_int (pe_callB (call_lenK (Kf := K) (by rfl)) (by rfl) T.n_len PySem.boot_len (pa_cons (pv 0) pa_nil)) pe_int)))).pt (pss_one (ps_ret pe_bl)) pss_nil) (pss_one (ps_ret (pe_cmpR (op_eqM (hu_64 hr)) (pe_lc (own := [("sign", 1)]) rfl (by exact sc_is_name.nd) (pi_str (pv 0)) blk_is_name_0 (fun _ _ _ _ _ => (pg_name (i := 1) sc_is_name.nd rfl (by first | exact .inl rfl | exact .inr rfl))) (fun _ _ _ _ _ => (pts_one (pt_cmpR (op_notInK (Kf := K) (by rfl)) (pv 1) (pe_glob (v := .str (PySem.Str.ofString "abcdefghijklmnopqrstuvwxyz")) (by rfl) T.cg_LETTERS ⟨_, rfl⟩) rfl))) (fun _ _ _ _ _ => (pv 1))) (pe_lst pa_nil) (nomark _))))), ?_⟩
    refine fn_body (K := K) [] (fun _ => by show (1 : Nat) ≤ 2; decide) (fun _ => by show ∀ k ∈ ([] : List Nat), k < 1; decide) h (fun F x_thing hec hE hK hpv => ?_)
    skip
    show RS F [] [some (.f x_thing), none] (m_is_name x_thing) _ _ _
    unfold m_is_name
    refine rs_seq ?_
    refine rs_if ?_
    refine rt_or (Z := Unit) ?_
    refine rt_not ?_
    refine rt_val ?_
    refine rd_isi .str ?_
    refine rd_var rfl ?_
    refine ⟨_, _, rfl, rfl, fun t3 => ?_⟩
    refine ⟨_, _, rfl, rfl, fun t2 => ?_⟩
    refine ⟨fun z => [some (.f x_thing), none], (), _, _, rfl, ⟨.inr rfl, ⟨.inl rfl, trivial⟩⟩, fun _ => ?_, fun p1 => ?_⟩
    · refine rt_not ?_
      refine rt_chain o_lt o_lt ?_
      refine rd_int ?_
      intro _
      refine rd_cb1 o_len ?_
      refine rd_var rfl ?_
      refine ⟨_, _, rfl, rfl, fun t7 => ?_⟩
      refine ⟨_, _, _, rfl, rfl, rfl, fun t4 => ⟨_, _, rfl, fun _ _ => ?_, fun c5 => ?_⟩⟩
      · refine rd_int ?_
        exact ⟨_, _, rfl, rfl, rfl, ⟨.inr rfl, ⟨.inl rfl, trivial⟩⟩⟩
      · exact ⟨_, rfl, ⟨.inr rfl, ⟨.inl rfl, trivial⟩⟩⟩
    · refine ⟨_, _, rfl, fun _ => ?_, fun _ => ?_⟩
      · refine rs_ret ?_
        refine rd_bl ?_
        refine ⟨_, rfl, ?_⟩
        exact ⟨_, rfl, rfl, trivial⟩
      · refine rs_next ?_
        refine rs_at [some (.f x_thing), none] rfl ?_
        refine rs_ret ?_
        refine rd_op2B o_eq ?_
        refine rd_lcR [1] (fun i hi => hi) (all1 (hpv _ (by decide))) ?_
        refine ri_str ?_
        refine rd_var rfl ?_
        refine ⟨_, _, rfl, rfl, fun ds11 => ?_⟩
        refine ⟨[some (.f x_thing), none], _, _, rfl, ⟨.inr rfl, ⟨.inl rfl, trivial⟩⟩, (by first | exact trivial | rfl | exact ⟨rfl, rfl⟩), (all1 rfl), rfl, fun d9 _ _ => ?_, fun ys10 => ?_⟩
        · refine rg_name (by show (1 : Nat) < 2; decide) rfl (hpv _ (by decide)) ?_
          refine rt_op2B o_notIn ?_
          refine rd_var rfl ?_
          intro _
          refine rd_str e_q_abcdefghijklmnopqrstuvwxyz ?_
          refine ⟨_, _, _, rfl, rfl, rfl, fun t12 => ?_⟩
          refine ⟨_, _, rfl, fun _ => ?_, fun _ => ⟨rfl, ⟨.inr rfl, ⟨.inl rfl, trivial⟩⟩⟩⟩
          refine rd_var rfl ?_
          exact ⟨_, rfl, rfl, ⟨.inr rfl, ⟨.inl rfl, trivial⟩⟩⟩
        · intro _
          refine rd_lst ?_
          refine ra_nil ?_
          refine ⟨[], rfl, (by show (0 : Nat) ≤ 1000; decide), ?_⟩
          refine ⟨_, _, _, rfl, rfl, rfl, fun t8 => ?_⟩
          refine ⟨_, rfl, ?_⟩
          exact ⟨_, rfl, rfl, trivial⟩
theorem ok_are_names (T : Tx w K mg) : FnOk P w K mg base CX0 2 T.a_are_names T.d_are_names ["thing"] (spOf (A := D) (R := D) EC.ec (fun a => [.f a]) (fun a => m_are_names a) (fun r => .f r) (fun r => [none])) := by
  refine T.F_are_names.ok sc_are_names (fun vs H Q E h => ?_) (fun cdv A outer s H vs Q E hr h => ?_)
  · obtain ⟨a, G, w, _, _, hl, _⟩ := h; exact hl
  · refine ⟨_, (pss_one (ps_ret (pe_and (pe_callB (call_isiK' (Kf := K) (by rfl)) (by rfl) T.n_isinstance PyProof.Rows.boot_isinstance (pa_cons (pv 0) (pa_cons (pe_bltn (v := .ty "list") (u := .type "list") (by rfl) T.n_list (by decide +kernel) rfl) pa_nil))) (pe_one (pe_cmpR (op_eqM (hu_64 hr)) (pe_lc (own := [("one", 1)]) rfl (by exact sc_are_names.nd) (pi_listK (Kf := K) (by rfl) (pv 0)) blk_are_names_0 (fun _ _ _ _ _ => (pg_name (i := 1) sc_are_names.nd rfl (by first | exact .inl rfl | exact .inr rfl))) (fun _ _ _ _ _ => (pts_one (pt_not (pt_val (pe_call (ok_is_name T) (hr.mono (by decide)) (by rfl) T.g_is_name T.F_is_name.kp T.b_is_name .nil (show Passes CX0 _ E from pass0) (pa_cons (pv 1) pa_nil)))))) (fun _ _ _ _ _ => (pv 1))) (pe_lst pa_nil) (nomark _)))))), ?_⟩
    refine fn_body (K := K) [] (fun _ => by show (1 : Nat) ≤ 2; decide) (fun _ => by show ∀ k ∈ ([] : List Nat), k < 1; decide) h (fun F x_thing hec hE hK hpv => ?_)
    skip
    show RS F [] [some (.f x_thing), none] (m_are_names x_thing) _ _ _
    unfold m_are_names
    refine rs_ret ?_
    refine rd_andV (Z := Unit) ?_
    refine rd_isi .list ?_
    refine rd_var rfl ?_
    refine ⟨_, _, rfl, rfl, fun t3 => ?_⟩
    refine ⟨_, _, rfl, rfl, fun t1 => ⟨fun z => [some (.f x_thing), none], (), _, _, rfl, ⟨.inr rfl, ⟨.inl rfl, trivial⟩⟩, fun _ => ?_, fun p2 => ?_⟩⟩
    · refine rd_op2B o_eq ?_
      refine rd_lcR [1] (fun i hi => hi) (all1 (hpv _ (by decide))) ?_
      refine ri_lst ?_
      refine rd_var rfl ?_
      refine ⟨_, _, rfl, rfl, fun ds7 _ => ?_⟩
      refine ⟨[some (.f x_thing), none], _, _, rfl, ⟨.inr rfl, ⟨.inl rfl, trivial⟩⟩, (by first | exact trivial | rfl | exact ⟨rfl, rfl⟩), (all1 rfl), rfl, fun d5 _ _ => ?_, fun ys6 => ?_⟩
      · refine rg_name (by show (1 : Nat) < 2; decide) rfl (hpv _ (by decide)) ?_
        refine rt_not ?_
        refine rt_val ?_
        refine rd_call hec hE ?_
        refine ra_cons ?_
        refine rd_var rfl ?_
        intro _
        refine ra_nil ?_
        refine ⟨(d5), _, rfl, rfl, rfl, fun r9 => ?_⟩
        refine ⟨_, _, rfl, rfl, fun t8 => ?_⟩
        refine ⟨_, _, rfl, fun _ => ?_, fun _ => ⟨rfl, ⟨.inr rfl, ⟨.inl rfl, trivial⟩⟩⟩⟩
        refine rd_var rfl ?_
        exact ⟨_, rfl, rfl, ⟨.inr rfl, ⟨.inl rfl, trivial⟩⟩⟩
      · intro _
        refine rd_lst ?_
        refine ra_nil ?_
        refine ⟨[], rfl, (by show (0 : Nat) ≤ 1000; decide), ?_⟩
        refine ⟨_, _, _, rfl, rfl, rfl, fun t4 => ?_⟩
        exact ⟨_, _, rfl, rfl, ⟨.inr rfl, ⟨.inl rfl, trivial⟩⟩⟩
    · refine ⟨_, rfl, ?_⟩
      exact ⟨_, rfl, rfl, trivial⟩
theorem ok_are_signs (T : Tx w K mg) : FnOk P w K mg base CX0 1 T.a_are_signs T.d_are_signs ["thing", "many"] (spOf (A := D × D) (R := D) EC.ec (fun a => [.f a.1, .f a.2]) (fun a => m_are_signs a.1 a.2) (fun r => .f r) (fun r => [none, none])) := by
  refine T.F_are_signs.ok sc_are_signs (fun vs H Q E h => ?_) (fun cdv A outer s H vs Q E hr h => ?_)
  · obtain ⟨a, G, w, _, _, hl, _⟩ := h; exact hl
  · refine ⟨_, (pss_cons (ps_if (pw_or (pt_not (pt_val (pe_callB (call_isiK' (Kf := K) (by rfl)) (by rfl) T.n_isinstance PyProof.Rows.boot_isinstance (pa_cons (pv 0) (pa_cons (pe_bltn (v := .ty "str") (u := .type "str") (by rfl) T.n_str (by decide +kernel) rfl) pa_nil))))) (pw_or1 (pt_cmpR (op_neM (hu_64 hr)) (pe_callB (call_lenK (Kf := K) (by rfl)) (by rfl) T.n_len PySem.boot_len (pa_cons (pv 0) pa_nil)) (pv 1) (nomark _)))).pt (pss_one (ps_ret pe_bl)) pss_nil) (pss_one (ps_ret (pe_cmpR (op_eqM (hu_64 hr)) (pe_lc (own := [("sign", 2)]) rfl (by exact sc_are_signs.nd) (pi_str (pv 0)) blk_are_signs_0 (fun _ _ _ _ _ => (pg_name (i := 2) sc_are_signs.nd rfl (by first | exact .inl rfl | exact .inr rfl))) (fun _ _ _ _ _ => (pts_one (pt_cmpR (op_notInK (Kf := K) (by rfl)) (pv 2) pe_str rfl))) (fun _ _ _ _ _ => (pv 2))) (pe_lst pa_nil) (nomark _))))), ?_⟩
    refine fn_body (K := K) [] (fun _ => by show (2 : Nat) ≤ 3; decide) (fun _ => by show ∀ k ∈ ([] : List Nat), k < 2; decide) h (fun F a hec hE hK hpv => ?_)
    obtain ⟨x_thing, x_many⟩ := a
    show RS F [] [some (.f x_thing), some (.f x_many), none] (m_are_signs x_thing x_many) _ _ _
    unfold m_are_signs
    refine rs_seq ?_
    refine rs_if ?_
    refine rt_or (Z := Unit) ?_
    refine rt_not ?_
    refine rt_val ?_
    refine rd_isi .str ?_
    refine rd_var rfl ?_
    refine ⟨_, _, rfl, rfl, fun t3 => ?_⟩
    refine ⟨_, _, rfl, rfl, fun t2 => ?_⟩
    refine ⟨fun z => [some (.f x_thing), some (.f x_many), none], (), _, _, rfl, ⟨.inr rfl, ⟨.inr rfl, ⟨.inl rfl, trivial⟩⟩⟩, fun _ => ?_, fun p1 => ?_⟩
    · refine rt_op2B o_ne ?_
      refine rd_cb1 o_len ?_
      refine rd_var rfl ?_
      refine ⟨_, _, rfl, rfl, fun t5 => ?_⟩
      intro _
      refine rd_var rfl ?_
      refine ⟨_, _, _, rfl, rfl, rfl, fun t4 => ?_⟩
      exact ⟨_, rfl, ⟨.inr rfl, ⟨.inr rfl, ⟨.inl rfl, trivial⟩⟩⟩⟩
    · refine ⟨_, _, rfl, fun _ => ?_, fun _ => ?_⟩
      · refine rs_ret ?_
        refine rd_bl ?_
        refine ⟨_, rfl, ?_⟩
        exact ⟨_, rfl, rfl, trivial⟩
      · refine rs_next ?_
        refine rs_at [some (.f x_thing), some (.f x_many), none] rfl ?_
        refine rs_ret ?_
        refine rd_op2B o_eq ?_
        refine rd_lcR [2] (fun i hi => hi) (all1 (hpv _ (by decide))) ?_
        refine ri_str ?_
        refine rd_var rfl ?_
        refine ⟨_, _, rfl, rfl, fun ds9 => ?_⟩
        refine ⟨[some (.f x_thing), some (.f x_many), none], _, _, rfl, ⟨.inr rfl, ⟨.inr rfl, ⟨.inl rfl, trivial⟩⟩⟩, (by first | exact trivial | rfl | exact ⟨rfl, rfl⟩), (all1 rfl), rfl, fun d7 _ _ => ?_, fun ys8 => ?_⟩
        · refine rg_name (by show (2 : Nat) < 3; decide) rfl (hpv _ (by decide)) ?_
          refine rt_op2B o_notIn ?_
          refine rd_var rfl ?_
          intro _
          refine rd_str e_q_01 ?_
          refine ⟨_, _, _, rfl, rfl, rfl, fun t10 => ?_⟩
          refine ⟨_, _, rfl, fun _ => ?_, fun _ => ⟨rfl, ⟨.inr rfl, ⟨.inr rfl, ⟨.inl rfl, trivial⟩⟩⟩⟩⟩
          refine rd_var rfl ?_
          exact ⟨_, rfl, rfl, ⟨.inr rfl, ⟨.inr rfl, ⟨.inl rfl, trivial⟩⟩⟩⟩
        · intro _
          refine rd_lst ?_
          refine ra_nil ?_
          refine ⟨[], rfl, (by show (0 : Nat) ≤ 1000; decide), ?_⟩
          refine ⟨_, _, _, rfl, rfl, rfl, fun t6 => ?_⟩
          refine ⟨_, rfl, ?_⟩
          exact ⟨_, rfl, rfl, trivial⟩
theorem ok_is_whole (T : Tx w K mg) : FnOk P w K mg base CX0 1 T.a_is_whole T.d_is_whole ["thing"] (spOf (A := D) (R := D) EC.ec (fun a => [.f a]) (fun a => m_is_whole a) (fun r => .f r) (fun r => [none])) := by
  refine T.F_is_whole.ok sc_is_whole (fun vs H Q E h => ?_) (fun cdv A outer s H vs Q E hr h => ?_)
  · obtain ⟨a, G, w, _, _, hl, _⟩ := h; exact hl
  · refine ⟨_, (pss_one (ps_ret (pe_and (pe_callB (call_isiK' (Kf := K) (by rfl)) (by rfl) T.n_isinstance PyProof.Rows.boot_isinstance (pa_cons (pv 0) (pa_cons (pe_bltn (v := .ty "int") (u := .type "int") (by rfl) T.n_int (by decide +kernel) rfl) pa_nil))) (pe_one (pe_not (pe_callB (call_isiK' (Kf := K) (by rfl)) (by rfl) T.n_isinstance PyProof.Rows.boot_isinstance (pa_cons (pv 0) (pa_cons (pe_bltn (v := .ty "bool") (u := .type "bool") (by rfl) T.n_bool (by decide +kernel) rfl) pa_nil)))))))), ?_⟩
    refine fn_body (K := K) [] (fun _ => by show (1 : Nat) ≤ 1; decide) (fun _ => by show ∀ k ∈ ([] : List Nat), k < 1; decide) h (fun F x_thing hec hE hK hpv => ?_)
    skip
    show RS F [] [some (.f x_thing)] (m_is_whole x_thing) _ _ _
    unfold m_is_whole
    refine rs_ret ?_
    refine rd_andV (Z := Unit) ?_
    refine rd_isi .int ?_
    refine rd_var rfl ?_
    refine ⟨_, _, rfl, rfl, fun t3 => ?_⟩
    refine ⟨_, _, rfl, rfl, fun t1 => ⟨fun z => [some (.f x_thing)], (), _, _, rfl, ⟨.inr rfl, trivial⟩, fun _ => ?_, fun p2 => ?_⟩⟩
    · refine rd_notV ?_
      refine rd_isi .bool ?_
      refine rd_var rfl ?_
      refine ⟨_, _, rfl, rfl, fun t5 => ?_⟩
      refine ⟨_, _, rfl, rfl, fun t4 => ?_⟩
      exact ⟨_, _, rfl, rfl, ⟨.inr rfl, trivial⟩⟩
    · refine ⟨_, rfl, ?_⟩
      exact ⟨_, rfl, rfl, trivial⟩
theorem ok_is_turn (T : Tx w K mg) : FnOk P w K mg base CX0 2 T.a_is_turn T.d_is_turn ["thing", "names", "many"] (spOf (A := D × D × D) (R := D) EC.ec (fun a => [.f a.1, .f a.2.1, .f a.2.2]) (fun a => m_is_turn a.1 a.2.1 a.2.2) (fun r => .f r) (fun r => [none, none, none])) := by
  refine T.F_is_turn.ok sc_is_turn (fun vs H Q E h => ?_) (fun cdv A outer s H vs Q E hr h => ?_)
  · obtain ⟨a, G, w, _, _, hl, _⟩ := h; exact hl
  · refine ⟨_, (pss_cons (ps_if (pw_or (pt_not (pt_val (pe_callB (call_isiK' (Kf := K) (by rfl)) (by rfl) T.n_isinstance PyProof.Rows.boot_isinstance (pa_cons (pv 0) (pa_cons (pe_bltn (v := .ty "tuple") (u := .type "tuple") (by rfl) T.n_tuple (by decide +kernel) rfl) pa_nil))))) (pw_or (pt_cmpR (op_neM (hu_64 hr)) (pe_callB (call_lenK (Kf := K) (by rfl)) (by rfl) T.n_len PySem.boot_len (pa_cons (pv 0) pa_nil)) pe_int (nomark _)) (pw_or1 (pt_not (pt_val (pe_callB (call_isiK' (Kf := K) (by rfl)) (by rfl) T.n_isinstance PyProof.Rows.boot_isinstance (pa_cons (pe_ix (ix_anyK (Kf := K) (by rfl)) (pv 0) pe_int (fun _ _ => rfl)) (pa_cons (pe_bltn (v := .ty "str") (u := .type "str") (by rfl) T.n_str (by decide +kernel) rfl) pa_nil)))))))).pt (pss_one (ps_ret pe_bl)) pss_nil) (pss_one (ps_ret (pe_and (pe_cmpR (op_inK (Kf := K) (by rfl)) (pe_ix (ix_anyK (Kf := K) (by rfl)) (pv 0) pe_int (fun _ _ => rfl)) (pv 1) rfl) (pe_and (pe_call (ok_is_whole T) (hr.mono (by decide)) (by rfl) T.g_is_whole T.F_is_whole.kp T.b_is_whole .nil (show Passes CX0 _ E from pass0) (pa_cons (pe_ix (ix_anyK (Kf := K) (by rfl)) (pv 0) pe_int (fun _ _ => rfl)) pa_nil)) (pe_one (pe_chain op_le op_ltA pe_int (pe_ix (ix_anyK (Kf := K) (by rfl)) (pv 0) pe_int (fun _ _ => rfl)) (pv 2)))))))), ?_⟩
    refine fn_body (K := K) [] (fun _ => by show (3 : Nat) ≤ 3; decide) (fun _ => by show ∀ k ∈ ([] : List Nat), k < 3; decide) h (fun F a hec hE hK hpv => ?_)
    obtain ⟨x_thing, x_names, x_many⟩ := a
    show RS F [] [some (.f x_thing), some (.f x_names), some (.f x_many)] (m_is_turn x_thing x_names x_many) _ _ _
    unfold m_is_turn
    refine rs_seq ?_
    refine rs_if ?_
    refine rt_or (Z := Unit) ?_
    refine rt_not ?_
    refine rt_val ?_
    refine rd_isi .tuple ?_
    refine rd_var rfl ?_
    refine ⟨_, _, rfl, rfl, fun t3 => ?_⟩
    refine ⟨_, _, rfl, rfl, fun t2 => ?_⟩
    refine ⟨fun z => [some (.f x_thing), some (.f x_names), some (.f x_many)], (), _, _, rfl, ⟨.inr rfl, ⟨.inr rfl, ⟨.inr rfl, trivial⟩⟩⟩, fun _ => ?_, fun p1 => ?_⟩
    · refine rt_or (Z := Unit) ?_
      refine rt_op2B o_ne ?_
      refine rd_cb1 o_len ?_
      refine rd_var rfl ?_
      refine ⟨_, _, rfl, rfl, fun t6 => ?_⟩
      intro _
      refine rd_int ?_
      refine ⟨_, _, _, rfl, rfl, rfl, fun t5 => ?_⟩
      refine ⟨fun z => [some (.f x_thing), some (.f x_names), some (.f x_many)], (), _, _, rfl, ⟨.inr rfl, ⟨.inr rfl, ⟨.inr rfl, trivial⟩⟩⟩, fun _ => ?_, fun p4 => ?_⟩
      · refine rt_not ?_
        refine rt_val ?_
        refine rd_isi .str ?_
        refine rd_op2 o_ix ?_
        refine rd_var rfl ?_
        intro _
        refine rd_int ?_
        refine ⟨_, _, _, rfl, rfl, rfl, fun t9 => ?_⟩
        refine ⟨_, _, rfl, rfl, fun t8 => ?_⟩
        refine ⟨_, _, rfl, rfl, fun t7 => ?_⟩
        exact ⟨_, rfl, ⟨.inr rfl, ⟨.inr rfl, ⟨.inr rfl, trivial⟩⟩⟩⟩
      · exact ⟨_, rfl, ⟨.inr rfl, ⟨.inr rfl, ⟨.inr rfl, trivial⟩⟩⟩⟩
    · refine ⟨_, _, rfl, fun _ => ?_, fun _ => ?_⟩
      · refine rs_ret ?_
        refine rd_bl ?_
        refine ⟨_, rfl, ?_⟩
        exact ⟨_, rfl, rfl, trivial⟩
      · refine rs_next ?_
        refine rs_at [some (.f x_thing), some (.f x_names), some (.f x_many)] rfl ?_
        refine rs_ret ?_
        refine rd_andV (Z := Unit) ?_
        refine rd_op2B o_in ?_
        refine rd_op2 o_ix ?_
        refine rd_var rfl ?_
        intro _
        refine rd_int ?_
        refine ⟨_, _, _, rfl, rfl, rfl, fun t13 => ?_⟩
        intro _
        refine rd_var rfl ?_
        refine ⟨_, _, _, rfl, rfl, rfl, fun t12 => ?_⟩
        refine ⟨_, _, rfl, rfl, fun t10 => ⟨fun z => [some (.f x_thing), some (.f x_names), some (.f x_many)], (), _, _, rfl, ⟨.inr rfl, ⟨.inr rfl, ⟨.inr rfl, trivial⟩⟩⟩, fun _ => ?_, fun p11 => ?_⟩⟩
        · refine rd_andV (Z := Unit) ?_
          refine rd_call hec hE ?_
          refine ra_cons ?_
          refine rd_op2 o_ix ?_
          refine rd_var rfl ?_
          intro _
          refine rd_int ?_
          refine ⟨_, _, _, rfl, rfl, rfl, fun t17 => ?_⟩
          intro _
          refine ra_nil ?_
          refine ⟨(t17), _, rfl, rfl, rfl, fun r16 => ?_⟩
          refine ⟨_, _, rfl, rfl, fun t14 => ⟨fun z => [some (.f x_thing), some (.f x_names), some (.f x_many)], (), _, _, rfl, ⟨.inr rfl, ⟨.inr rfl, ⟨.inr rfl, trivial⟩⟩⟩, fun _ => ?_, fun p15 => ?_⟩⟩
          · refine rd_chain o_le o_lt ?_
            refine rd_int ?_
            intro _
            refine rd_op2 o_ix ?_
            refine rd_var rfl ?_
            intro _
            refine rd_int ?_
            refine ⟨_, _, _, rfl, rfl, rfl, fun t21 => ?_⟩
            refine ⟨_, _, _, rfl, rfl, rfl, fun t18 => ⟨_, _, rfl, fun _ _ => ?_, fun c19 => ?_⟩⟩
            · refine rd_var rfl ?_
              exact ⟨_, _, rfl, rfl, rfl, ⟨.inr rfl, ⟨.inr rfl, ⟨.inr rfl, trivial⟩⟩⟩⟩
            · exact ⟨_, _, rfl, rfl, ⟨.inr rfl, ⟨.inr rfl, ⟨.inr rfl, trivial⟩⟩⟩⟩
          · exact ⟨_, _, rfl, rfl, ⟨.inr rfl, ⟨.inr rfl, ⟨.inr rfl, trivial⟩⟩⟩⟩
        · refine ⟨_, rfl, ?_⟩
          exact ⟨_, rfl, rfl, trivial⟩
theorem ok_is_node (T : Tx w K mg) : FnOk P w K mg base CX0 3 T.a_is_node T.d_is_node ["thing", "names", "many"] (spOf (A := D × D × D) (R := D) EC.ec (fun a => [.f a.1, .f a.2.1, .f a.2.2]) (fun a => m_is_node a.1 a.2.1 a.2.2) (fun r => .f r) (fun r => [none, none, none])) := by
  refine T.F_is_node.ok sc_is_node (fun vs H Q E h => ?_) (fun cdv A outer s H vs Q E hr h => ?_)
  · obtain ⟨a, G, w, _, _, hl, _⟩ := h; exact hl
  · refine ⟨_, (pss_cons (ps_if (pt_not (pt_val (pe_callB (call_isiK' (Kf := K) (by rfl)) (by rfl) T.n_isinstance PyProof.Rows.boot_isinstance (pa_cons (pv 0) (pa_cons (pe_bltn (v := .ty "list") (u := .type "list") (by rfl) T.n_list (by decide +kernel) rfl) pa_nil))))) (pss_one (ps_ret pe_bl)) pss_nil) (pss_cons (ps_set (i := 3) sc_is_node.nd rfl (by first | exact .inl rfl | exact .inr rfl) pe_dnewK) (pss_cons (ps_for PassesOwn.never rfl (pi_listK (Kf := K) (by rfl) (pv 0)) (pg_name (i := 4) sc_is_node.nd rfl (by first | exact .inl rfl | exact .inr rfl)) (pss_cons (ps_if (pw_or (pt_not (pt_val (pe_call (ok_is_turn T) (hr.mono (by decide)) (by rfl) T.g_is_turn T.F_is_turn.kp T.b_is_turn .nil (show Passes CX0 _ E from pass0) (pa_cons (pv 4) (pa_cons (pv 1) (pa_cons (pv 2) pa_nil)))))) (pw_or1 (pt_cmp (pc_din (hu_1 hr) (pe_ix (ix_anyK (Kf := K) (by rfl)) (pv 4) pe_int (fun _ _ => rfl)) (pv 3))))).pt (pss_one (ps_ret pe_bl)) pss_nil) (pss_one (ps_dput (hu_1 hr) (pv 3) (pe_ix (ix_anyK (Kf := K) (by rfl)) (pv 4) pe_int (fun _ _ => rfl)) pe_bl (by rfl))))) (pss_one (ps_ret pe_bl))))), ?_⟩
    refine fn_body (K := K) [] (fun _ => by show (3 : Nat) ≤ 5; decide) (fun _ => by show ∀ k ∈ ([] : List Nat), k < 3; decide) h (fun F a hec hE hK hpv => ?_)
    obtain ⟨x_thing, x_names, x_many⟩ := a
    show RS F [] [some (.f x_thing), some (.f x_names), some (.f x_many), none, none] (m_is_node x_thing x_names x_many) _ _ _
    unfold m_is_node
    refine rs_seq ?_
    refine rs_if ?_
    refine rt_not ?_
    refine rt_val ?_
    refine rd_isi .list ?_
    refine rd_var rfl ?_
    refine ⟨_, _, rfl, rfl, fun t2 => ?_⟩
    refine ⟨_, _, rfl, rfl, fun t1 => ?_⟩
    refine ⟨_, _, rfl, fun _ => ?_, fun _ => ?_⟩
    · refine rs_ret ?_
      refine rd_bl ?_
      refine ⟨_, rfl, ?_⟩
      exact ⟨_, rfl, rfl, trivial⟩
    · refine rs_next ?_
      refine rs_at [some (.f x_thing), some (.f x_names), some (.f x_many), none, none] rfl ?_
      refine rs_seq ?_
      refine rs_set ?_ rfl (hpv _ (by decide))
      refine rd_dnewK ?_
      refine ⟨_, rfl, (by show (3 : Nat) < 5; decide), ?_⟩
      refine rs_at [some (.f x_thing), some (.f x_names), some (.f x_many), some (.dc false []), none] rfl ?_
      refine rs_seq ?_
      refine rs_for (Z := (List (D × D))) (R' := D) [4] ?_
      refine ri_lst ?_
      refine rd_var rfl ?_
      refine ⟨_, _, rfl, rfl, fun ds5 _ => ?_⟩
      refine ⟨fun z4 => [some (.f x_thing), some (.f x_names), some (.f x_many), some (.dc false z4), none], _, _, _, rfl, ⟨.inr rfl, ⟨.inr rfl, ⟨.inr rfl, ⟨.inr rfl, ⟨.inl rfl, trivial⟩⟩⟩⟩⟩, fun _ => (by first | exact trivial | rfl | exact ⟨rfl, rfl⟩), fun z4 d3 => ?_, fun z4 => ?_⟩
      · refine rg_name (by show (4 : Nat) < 5; decide) rfl (hpv _ (by decide)) ?_
        refine rs_at [some (.f x_thing), some (.f x_names), some (.f x_many), some (.dc false z4), some (.f d3)] rfl ?_
        refine rs_seq ?_
        refine rs_if ?_
        refine rt_or (Z := Unit) ?_
        refine rt_not ?_
        refine rt_val ?_
        refine rd_call hec hE ?_
        refine ra_cons ?_
        refine rd_var rfl ?_
        intro _
        refine ra_cons ?_
        refine rd_var rfl ?_
        intro _
        refine ra_cons ?_
        refine rd_var rfl ?_
        intro _
        refine ra_nil ?_
        refine ⟨(d3, x_names, x_many), _, rfl, rfl, rfl, fun r8 => ?_⟩
        refine ⟨_, _, rfl, rfl, fun t7 => ?_⟩
        refine ⟨fun z => [some (.f x_thing), some (.f x_names), some (.f x_many), some (.dc false z4), some (.f d3)], (), _, _, rfl, ⟨.inr rfl, ⟨.inr rfl, ⟨.inr rfl, ⟨.inr rfl, ⟨.inr rfl, trivial⟩⟩⟩⟩⟩, fun _ => ?_, fun p6 => ?_⟩
        · refine rt_din ?_
          refine rd_op2 o_ix ?_
          refine rd_var rfl ?_
          intro _
          refine rd_int ?_
          refine ⟨_, _, _, rfl, rfl, rfl, fun t10 => ?_⟩
          intro _
          refine rd_ali rfl ?_
          refine ⟨_, _, _, rfl, rfl, rfl, fun t9 => ?_⟩
          exact ⟨_, rfl, ⟨.inr rfl, ⟨.inr rfl, ⟨.inr rfl, ⟨.inr rfl, ⟨.inr rfl, trivial⟩⟩⟩⟩⟩⟩
        · refine ⟨_, _, rfl, fun _ => ?_, fun _ => ?_⟩
          · refine rs_ret ?_
            refine rd_bl ?_
            refine ⟨_, rfl, ?_⟩
            exact ⟨_, rfl, ⟨_, rfl, rfl, trivial⟩⟩
          · refine rs_next ?_
            refine rs_at [some (.f x_thing), some (.f x_names), some (.f x_many), some (.dc false z4), some (.f d3)] rfl ?_
            refine rs_dput ?_
            refine rd_bl ?_
            refine ⟨_, rfl, fun _ => ?_⟩
            refine rd_ali rfl ?_
            refine ⟨3, rfl, fun _ => ?_⟩
            refine rd_op2 o_ix ?_
            refine rd_var rfl ?_
            intro _
            refine rd_int ?_
            refine ⟨_, _, _, rfl, rfl, rfl, fun t12 => ?_⟩
            refine ⟨_, _, _, _, rfl, rfl, rfl, fun t11 => ?_⟩
            exact ⟨_, rfl, ⟨.inr rfl, ⟨.inr rfl, ⟨.inr rfl, ⟨.inr rfl, ⟨.inl rfl, trivial⟩⟩⟩⟩⟩⟩
      · refine rs_at [some (.f x_thing), some (.f x_names), some (.f x_many), some (.dc false z4), none] rfl ?_
        refine rs_onN ?_
        refine rs_ret ?_
        refine rd_bl ?_
        refine ⟨_, rfl, ?_⟩
        exact ⟨_, rfl, rfl, trivial⟩
theorem ok_is_sheet (T : Tx w K mg) : FnOk P w K mg base CX0 4 T.a_is_sheet T.d_is_sheet ["thing"] (spOf (A := D) (R := D) EC.ec (fun a => [.f a]) (fun a => m_is_sheet a) (fun r => .f r) (fun r => [none])) := by
  refine T.F_is_sheet.ok sc_is_sheet (fun vs H Q E h => ?_) (fun cdv A outer s H vs Q E hr h => ?_)
  · obtain ⟨a, G, w, _, _, hl, _⟩ := h; exact hl
  · refine ⟨_, (pss_cons (ps_if (pw_or (pt_not (pt_val (pe_callB (call_isiK' (Kf := K) (by rfl)) (by rfl) T.n_isinstance PyProof.Rows.boot_isinstance (pa_cons (pv 0) (pa_cons (pe_bltn (v := .ty "tuple") (u := .type "tuple") (by rfl) T.n_tuple (by decide +kernel) rfl) pa_nil))))) (pw_or1 (pt_cmpR (op_neM (hu_64 hr)) (pe_callB (call_lenK (Kf := K) (by rfl)) (by rfl) T.n_len PySem.boot_len (pa_cons (pv 0) pa_nil)) pe_int (nomark _)))).pt (pss_one (ps_ret pe_bl)) pss_nil) (pss_cons (ps_asg (pv 0) (pg_tupK (Kf := K) (n := 4) (by rfl) rfl (pgs_cons (pg_name (i := 2) sc_is_sheet.nd rfl (by first | exact .inl rfl | exact .inr rfl)) (pgs_cons (pg_name (i := 3) sc_is_sheet.nd rfl (by first | exact .inl rfl | exact .inr rfl)) (pgs_cons (pg_name (i := 4) sc_is_sheet.nd rfl (by first | exact .inl rfl | exact .inr rfl)) (pgs_cons (pg_name (i := 5) sc_is_sheet.nd rfl (by first | exact .inl rfl | exact .inr rfl)) pgs_nil)))))) (pss_cons (ps_if (pw_or (pt_not (pt_val (pe_call (ok_are_names T) (hr.mono (by decide)) (by rfl) T.g_are_names T.F_are_names.kp T.b_are_names .nil (show Passes CX0 _ E from pass0) (pa_cons (pv 2) pa_nil)))) (pw_or (pt_not (pt_val (pe_call (ok_are_names T) (hr.mono (by decide)) (by rfl) T.g_are_names T.F_are_names.kp T.b_are_names .nil (show Passes CX0 _ E from pass0) (pa_cons (pv 3) pa_nil)))) (pw_or (pt_cmpR op_gt (pe_callB (call_lenK (Kf := K) (by rfl)) (by rfl) T.n_len PySem.boot_len (pa_cons (pv 2) pa_nil)) pe_int (nomark _)) (pw_or1 (pt_not (pt_chain op_ltA op_ltA pe_int (pe_callB (call_lenK (Kf := K) (by rfl)) (by rfl) T.n_len PySem.boot_len (pa_cons (pv 3) pa_nil)) pe_int)))))).pt (pss_one (ps_ret pe_bl)) pss_nil) (pss_cons (ps_set (i := 1) sc_is_sheet.nd rfl (by first | exact .inl rfl | exact .inr rfl) (pe_op op_catR (pv 2) (pv 3))) (pss_cons (ps_if (pw_or (pt_cmpR (op_neM (hu_64 hr)) (pe_lenSetN (Kf := K) (by rfl) (by rfl) (by rfl) T.n_len (by rfl) T.n_set (pv 1)) (pe_callB (call_lenK (Kf := K) (by rfl)) (by rfl) T.n_len PySem.boot_len (pa_cons (pv 1) pa_nil)) (nomark _)) (pw_or1 (pt_not (pt_val (pe_call (ok_are_signs T) (hr.mono (by decide)) (by rfl) T.g_are_signs T.F_are_signs.kp T.b_are_signs .nil (show Passes CX0 _ E from pass0) (pa_cons (pv 4) (pa_cons (pe_callB (call_lenK (Kf := K) (by rfl)) (by rfl) T.n_len PySem.boot_len (pa_cons (pv 1) pa_nil)) pa_nil))))))).pt (pss_one (ps_ret pe_bl)) pss_nil) (pss_cons (ps_if (pw_or (pt_not (pt_val (pe_callB (call_isiK' (Kf := K) (by rfl)) (by rfl) T.n_isinstance PyProof.Rows.boot_isinstance (pa_cons (pv 5) (pa_cons (pe_bltn (v := .ty "list") (u := .type "list") (by rfl) T.n_list (by decide +kernel) rfl) pa_nil))))) (pw_or1 (pt_not (pt_chain op_ltA op_le pe_int (pe_callB (call_lenK (Kf := K) (by rfl)) (by rfl) T.n_len PySem.boot_len (pa_cons (pv 5) pa_nil)) (pe_glob (v := .int 40) (by rfl) T.cg_MOST_NODES ⟨_, rfl⟩))))).pt (pss_one (ps_ret pe_bl)) pss_nil) (pss_cons (ps_if (pt_cmpR (op_neM (hu_64 hr)) (pe_lc (own := [("node", 6)]) rfl (by exact sc_is_sheet.nd) (pi_listK (Kf := K) (by rfl) (pv 5)) blk_is_sheet_0 (fun _ _ _ _ _ => (pg_name (i := 6) sc_is_sheet.nd rfl (by first | exact .inl rfl | exact .inr rfl))) (fun _ _ _ _ _ => (pts_one (pt_not (pt_val (pe_call (ok_is_node T) (hr.mono (by decide)) (by rfl) T.g_is_node T.F_is_node.kp T.b_is_node .nil (show Passes CX0 _ E from pass0) (pa_cons (pv 6) (pa_cons (pv 1) (pa_cons (pe_callB (call_lenK (Kf := K) (by rfl)) (by rfl) T.n_len PySem.boot_len (pa_cons (pv 5) pa_nil)) pa_nil)))))))) (fun _ _ _ _ _ => (pv 6))) (pe_lst pa_nil) (nomark _)) (pss_one (ps_ret pe_bl)) pss_nil) (pss_one (ps_ret (pe_cmpR op_notN (pe_call (ok_rows_of T) (hr.mono (by decide)) (by rfl) T.g_rows_of T.F_rows_of.kp T.b_rows_of .nil (show Passes CX0 _ E from pass0) (pa_cons (pv 1) (pa_cons (pv 4) (pa_cons (pv 5) pa_nil)))) pe_non (nomark _))))))))))), ?_⟩
    refine fn_body (K := K) [] (fun _ => by show (1 : Nat) ≤ 7; decide) (fun _ => by show ∀ k ∈ ([] : List Nat), k < 1; decide) h (fun F x_thing hec hE hK hpv => ?_)
    skip
    show RS F [] [some (.f x_thing), none, none, none, none, none, none] (m_is_sheet x_thing) _ _ _
    unfold m_is_sheet
    refine rs_seq ?_
    refine rs_if ?_
    refine rt_or (Z := Unit) ?_
    refine rt_not ?_
    refine rt_val ?_
    refine rd_isi .tuple ?_
    refine rd_var rfl ?_
    refine ⟨_, _, rfl, rfl, fun t3 => ?_⟩
    refine ⟨_, _, rfl, rfl, fun t2 => ?_⟩
    refine ⟨fun z => [some (.f x_thing), none, none, none, none, none, none], (), _, _, rfl, ⟨.inr rfl, ⟨.inl rfl, ⟨.inl rfl, ⟨.inl rfl, ⟨.inl rfl, ⟨.inl rfl, ⟨.inl rfl, trivial⟩⟩⟩⟩⟩⟩⟩, fun _ => ?_, fun p1 => ?_⟩
    · refine rt_op2B o_ne ?_
      refine rd_cb1 o_len ?_
      refine rd_var rfl ?_
      refine ⟨_, _, rfl, rfl, fun t5 => ?_⟩
      intro _
      refine rd_int ?_
      refine ⟨_, _, _, rfl, rfl, rfl, fun t4 => ?_⟩
      exact ⟨_, rfl, ⟨.inr rfl, ⟨.inl rfl, ⟨.inl rfl, ⟨.inl rfl, ⟨.inl rfl, ⟨.inl rfl, ⟨.inl rfl, trivial⟩⟩⟩⟩⟩⟩⟩⟩
    · refine ⟨_, _, rfl, fun _ => ?_, fun _ => ?_⟩
      · refine rs_ret ?_
        refine rd_bl ?_
        refine ⟨_, rfl, ?_⟩
        exact ⟨_, rfl, rfl, trivial⟩
      · refine rs_next ?_
        refine rs_at [some (.f x_thing), none, none, none, none, none, none] rfl ?_
        refine rs_seq ?_
        refine rs_asgG [2, 3, 4, 5] ?_
        refine rd_var rfl ?_
        refine ⟨_, rfl, ?_⟩
        refine rg_n4 ⟨_, rfl, fun p6 => ?_⟩
        refine rgs_cons (by show (2 : Nat) < 7; decide) rfl (hpv _ (by decide)) ?_
        refine rgs_cons (by show (3 : Nat) < 7; decide) rfl (hpv _ (by decide)) ?_
        refine rgs_cons (by show (4 : Nat) < 7; decide) rfl (hpv _ (by decide)) ?_
        refine rgs_cons (by show (5 : Nat) < 7; decide) rfl (hpv _ (by decide)) ?_
        refine rgs_nil ?_
        refine rs_at [some (.f x_thing), none, some (.f p6.1), some (.f p6.2.1), some (.f p6.2.2.1), some (.f p6.2.2.2), none] rfl ?_
        refine rs_seq ?_
        refine rs_if ?_
        refine rt_or (Z := Unit) ?_
        refine rt_not ?_
        refine rt_val ?_
        refine rd_call hec hE ?_
        refine ra_cons ?_
        refine rd_var rfl ?_
        intro _
        refine ra_nil ?_
        refine ⟨(p6.1), _, rfl, rfl, rfl, fun r9 => ?_⟩
        refine ⟨_, _, rfl, rfl, fun t8 => ?_⟩
        refine ⟨fun z => [some (.f x_thing), none, some (.f p6.1), some (.f p6.2.1), some (.f p6.2.2.1), some (.f p6.2.2.2), none], (), _, _, rfl, ⟨.inr rfl, ⟨.inl rfl, ⟨.inr rfl, ⟨.inr rfl, ⟨.inr rfl, ⟨.inr rfl, ⟨.inl rfl, trivial⟩⟩⟩⟩⟩⟩⟩, fun _ => ?_, fun p7 => ?_⟩
        · refine rt_or (Z := Unit) ?_
          refine rt_not ?_
          refine rt_val ?_
          refine rd_call hec hE ?_
          refine ra_cons ?_
          refine rd_var rfl ?_
          intro _
          refine ra_nil ?_
          refine ⟨(p6.2.1), _, rfl, rfl, rfl, fun r12 => ?_⟩
          refine ⟨_, _, rfl, rfl, fun t11 => ?_⟩
          refine ⟨fun z => [some (.f x_thing), none, some (.f p6.1), some (.f p6.2.1), some (.f p6.2.2.1), some (.f p6.2.2.2), none], (), _, _, rfl, ⟨.inr rfl, ⟨.inl rfl, ⟨.inr rfl, ⟨.inr rfl, ⟨.inr rfl, ⟨.inr rfl, ⟨.inl rfl, trivial⟩⟩⟩⟩⟩⟩⟩, fun _ => ?_, fun p10 => ?_⟩
          · refine rt_or (Z := Unit) ?_
            refine rt_op2B o_gt ?_
            refine rd_cb1 o_len ?_
            refine rd_var rfl ?_
            refine ⟨_, _, rfl, rfl, fun t15 => ?_⟩
            intro _
            refine rd_int ?_
            refine ⟨_, _, _, rfl, rfl, rfl, fun t14 => ?_⟩
            refine ⟨fun z => [some (.f x_thing), none, some (.f p6.1), some (.f p6.2.1), some (.f p6.2.2.1), some (.f p6.2.2.2), none], (), _, _, rfl, ⟨.inr rfl, ⟨.inl rfl, ⟨.inr rfl, ⟨.inr rfl, ⟨.inr rfl, ⟨.inr rfl, ⟨.inl rfl, trivial⟩⟩⟩⟩⟩⟩⟩, fun _ => ?_, fun p13 => ?_⟩
            · refine rt_not ?_
              refine rt_chain o_lt o_lt ?_
              refine rd_int ?_
              intro _
              refine rd_cb1 o_len ?_
              refine rd_var rfl ?_
              refine ⟨_, _, rfl, rfl, fun t19 => ?_⟩
              refine ⟨_, _, _, rfl, rfl, rfl, fun t16 => ⟨_, _, rfl, fun _ _ => ?_, fun c17 => ?_⟩⟩
              · refine rd_int ?_
                exact ⟨_, _, rfl, rfl, rfl, ⟨.inr rfl, ⟨.inl rfl, ⟨.inr rfl, ⟨.inr rfl, ⟨.inr rfl, ⟨.inr rfl, ⟨.inl rfl, trivial⟩⟩⟩⟩⟩⟩⟩⟩
              · exact ⟨_, rfl, ⟨.inr rfl, ⟨.inl rfl, ⟨.inr rfl, ⟨.inr rfl, ⟨.inr rfl, ⟨.inr rfl, ⟨.inl rfl, trivial⟩⟩⟩⟩⟩⟩⟩⟩
            · exact ⟨_, rfl, ⟨.inr rfl, ⟨.inl rfl, ⟨.inr rfl, ⟨.inr rfl, ⟨.inr rfl, ⟨.inr rfl, ⟨.inl rfl, trivial⟩⟩⟩⟩⟩⟩⟩⟩
          · exact ⟨_, rfl, ⟨.inr rfl, ⟨.inl rfl, ⟨.inr rfl, ⟨.inr rfl, ⟨.inr rfl, ⟨.inr rfl, ⟨.inl rfl, trivial⟩⟩⟩⟩⟩⟩⟩⟩
        · refine ⟨_, _, rfl, fun _ => ?_, fun _ => ?_⟩
          · refine rs_ret ?_
            refine rd_bl ?_
            refine ⟨_, rfl, ?_⟩
            exact ⟨_, rfl, rfl, trivial⟩
          · refine rs_next ?_
            refine rs_at [some (.f x_thing), none, some (.f p6.1), some (.f p6.2.1), some (.f p6.2.2.1), some (.f p6.2.2.2), none] rfl ?_
            refine rs_seq ?_
            refine rs_set ?_ rfl (hpv _ (by decide))
            refine rd_fz ?_
            refine rd_op2L o_cat ?_
            refine rd_var rfl ?_
            intro _
            refine rd_var rfl ?_
            refine ⟨_, _, _, rfl, rfl, rfl, fun t20 => ?_⟩
            refine ⟨_, rfl, ?_⟩
            refine ⟨_, rfl, (by show (1 : Nat) < 7; decide), ?_⟩
            refine rs_at [some (.f x_thing), some (.f (.lst t20)), some (.f p6.1), some (.f p6.2.1), some (.f p6.2.2.1), some (.f p6.2.2.2), none] rfl ?_
            refine rs_seq ?_
            refine rs_if ?_
            refine rt_or (Z := Unit) ?_
            refine rt_op2B o_ne ?_
            refine rd_lenSet ?_
            refine rd_var rfl ?_
            refine ⟨_, _, rfl, rfl, fun t23 => ?_⟩
            intro _
            refine rd_cb1 o_len ?_
            refine rd_var rfl ?_
            refine ⟨_, _, rfl, rfl, fun t24 => ?_⟩
            refine ⟨_, _, _, rfl, rfl, rfl, fun t22 => ?_⟩
            refine ⟨fun z => [some (.f x_thing), some (.f (.lst t20)), some (.f p6.1), some (.f p6.2.1), some (.f p6.2.2.1), some (.f p6.2.2.2), none], (), _, _, rfl, ⟨.inr rfl, ⟨.inr rfl, ⟨.inr rfl, ⟨.inr rfl, ⟨.inr rfl, ⟨.inr rfl, ⟨.inl rfl, trivial⟩⟩⟩⟩⟩⟩⟩, fun _ => ?_, fun p21 => ?_⟩
            · refine rt_not ?_
              refine rt_val ?_
              refine rd_call hec hE ?_
              refine ra_cons ?_
              refine rd_var rfl ?_
              intro _
              refine ra_cons ?_
              refine rd_cb1 o_len ?_
              refine rd_var rfl ?_
              refine ⟨_, _, rfl, rfl, fun t27 => ?_⟩
              intro _
              refine ra_nil ?_
              refine ⟨(p6.2.2.1, t27), _, rfl, rfl, rfl, fun r26 => ?_⟩
              refine ⟨_, _, rfl, rfl, fun t25 => ?_⟩
              exact ⟨_, rfl, ⟨.inr rfl, ⟨.inr rfl, ⟨.inr rfl, ⟨.inr rfl, ⟨.inr rfl, ⟨.inr rfl, ⟨.inl rfl, trivial⟩⟩⟩⟩⟩⟩⟩⟩
            · refine ⟨_, _, rfl, fun _ => ?_, fun _ => ?_⟩
              · refine rs_ret ?_
                refine rd_bl ?_
                refine ⟨_, rfl, ?_⟩
                exact ⟨_, rfl, rfl, trivial⟩
              · refine rs_next ?_
                refine rs_at [some (.f x_thing), some (.f (.lst t20)), some (.f p6.1), some (.f p6.2.1), some (.f p6.2.2.1), some (.f p6.2.2.2), none] rfl ?_
                refine rs_seq ?_
                refine rs_if ?_
                refine rt_or (Z := Unit) ?_
                refine rt_not ?_
                refine rt_val ?_
                refine rd_isi .list ?_
                refine rd_var rfl ?_
                refine ⟨_, _, rfl, rfl, fun t30 => ?_⟩
                refine ⟨_, _, rfl, rfl, fun t29 => ?_⟩
                refine ⟨fun z => [some (.f x_thing), some (.f (.lst t20)), some (.f p6.1), some (.f p6.2.1), some (.f p6.2.2.1), some (.f p6.2.2.2), none], (), _, _, rfl, ⟨.inr rfl, ⟨.inr rfl, ⟨.inr rfl, ⟨.inr rfl, ⟨.inr rfl, ⟨.inr rfl, ⟨.inl rfl, trivial⟩⟩⟩⟩⟩⟩⟩, fun _ => ?_, fun p28 => ?_⟩
                · refine rt_not ?_
                  refine rt_chain o_lt o_le ?_
                  refine rd_int ?_
                  intro _
                  refine rd_cb1 o_len ?_
                  refine rd_var rfl ?_
                  refine ⟨_, _, rfl, rfl, fun t34 => ?_⟩
                  refine ⟨_, _, _, rfl, rfl, rfl, fun t31 => ⟨_, _, rfl, fun _ _ => ?_, fun c32 => ?_⟩⟩
                  · refine rd_int ?_
                    exact ⟨_, _, rfl, rfl, rfl, ⟨.inr rfl, ⟨.inr rfl, ⟨.inr rfl, ⟨.inr rfl, ⟨.inr rfl, ⟨.inr rfl, ⟨.inl rfl, trivial⟩⟩⟩⟩⟩⟩⟩⟩
                  · exact ⟨_, rfl, ⟨.inr rfl, ⟨.inr rfl, ⟨.inr rfl, ⟨.inr rfl, ⟨.inr rfl, ⟨.inr rfl, ⟨.inl rfl, trivial⟩⟩⟩⟩⟩⟩⟩⟩
                · refine ⟨_, _, rfl, fun _ => ?_, fun _ => ?_⟩
                  · refine rs_ret ?_
                    refine rd_bl ?_
                    refine ⟨_, rfl, ?_⟩
                    exact ⟨_, rfl, rfl, trivial⟩
                  · refine rs_next ?_
                    refine rs_at [some (.f x_thing), some (.f (.lst t20)), some (.f p6.1), some (.f p6.2.1), some (.f p6.2.2.1), some (.f p6.2.2.2), none] rfl ?_
                    refine rs_seq ?_
                    refine rs_if ?_
                    refine rt_op2B o_ne ?_
                    refine rd_lcR [6] (fun i hi => hi) (all1 (hpv _ (by decide))) ?_
                    refine ri_lst ?_
                    refine rd_var rfl ?_
                    refine ⟨_, _, rfl, rfl, fun ds38 _ => ?_⟩
                    refine ⟨[some (.f x_thing), some (.f (.lst t20)), some (.f p6.1), some (.f p6.2.1), some (.f p6.2.2.1), some (.f p6.2.2.2), none], _, _, rfl, ⟨.inr rfl, ⟨.inr rfl, ⟨.inr rfl, ⟨.inr rfl, ⟨.inr rfl, ⟨.inr rfl, ⟨.inl rfl, trivial⟩⟩⟩⟩⟩⟩⟩, (by first | exact trivial | rfl | exact ⟨rfl, rfl⟩), (all1 rfl), rfl, fun d36 _ _ => ?_, fun ys37 => ?_⟩
                    · refine rg_name (by show (6 : Nat) < 7; decide) rfl (hpv _ (by decide)) ?_
                      refine rt_not ?_
                      refine rt_val ?_
                      refine rd_call hec hE ?_
                      refine ra_cons ?_
                      refine rd_var rfl ?_
                      intro _
                      refine ra_cons ?_
                      refine rd_var rfl ?_
                      intro _
                      refine ra_cons ?_
                      refine rd_cb1 o_len ?_
                      refine rd_var rfl ?_
                      refine ⟨_, _, rfl, rfl, fun t41 => ?_⟩
                      intro _
                      refine ra_nil ?_
                      refine ⟨(d36, (.lst t20), t41), _, rfl, rfl, rfl, fun r40 => ?_⟩
                      refine ⟨_, _, rfl, rfl, fun t39 => ?_⟩
                      refine ⟨_, _, rfl, fun _ => ?_, fun _ => ⟨rfl, ⟨.inr rfl, ⟨.inr rfl, ⟨.inr rfl, ⟨.inr rfl, ⟨.inr rfl, ⟨.inr rfl, ⟨.inl rfl, trivial⟩⟩⟩⟩⟩⟩⟩⟩⟩
                      refine rd_var rfl ?_
                      exact ⟨_, rfl, rfl, ⟨.inr rfl, ⟨.inr rfl, ⟨.inr rfl, ⟨.inr rfl, ⟨.inr rfl, ⟨.inr rfl, ⟨.inl rfl, trivial⟩⟩⟩⟩⟩⟩⟩⟩
                    · intro _
                      refine rd_lst ?_
                      refine ra_nil ?_
                      refine ⟨[], rfl, (by show (0 : Nat) ≤ 1000; decide), ?_⟩
                      refine ⟨_, _, _, rfl, rfl, rfl, fun t35 => ?_⟩
                      refine ⟨_, _, rfl, fun _ => ?_, fun _ => ?_⟩
                      · refine rs_ret ?_
                        refine rd_bl ?_
                        refine ⟨_, rfl, ?_⟩
                        exact ⟨_, rfl, rfl, trivial⟩
                      · refine rs_next ?_
                        refine rs_at [some (.f x_thing), some (.f (.lst t20)), some (.f p6.1), some (.f p6.2.1), some (.f p6.2.2.1), some (.f p6.2.2.2), none] rfl ?_
                        refine rs_ret ?_
                        refine rd_op2B o_nn ?_
                        refine rd_call hec hE ?_
                        refine ra_cons ?_
                        refine rd_var rfl ?_
                        intro _
                        refine ra_cons ?_
                        refine rd_var rfl ?_
                        intro _
                        refine ra_cons ?_
                        refine rd_var rfl ?_
                        intro _
                        refine ra_nil ?_
                        refine ⟨((.lst t20), p6.2.2.1, p6.2.2.2), _, rfl, rfl, rfl, fun r43 => ?_⟩
                        intro _
                        refine rd_non ?_
                        refine ⟨_, _, _, rfl, rfl, rfl, fun t42 => ?_⟩
                        refine ⟨_, rfl, ?_⟩
                        exact ⟨_, rfl, rfl, trivial⟩
theorem ok__law_twin_right (T : Tx w K mg) : FnOk P w K mg base CX0 5 T.a__law_twin_right T.d__law_twin_right ["sheet"] (spOf (A := D) (R := D) EC.ec (fun a => [.f a]) (fun a => m__law_twin_right a) (fun r => .f r) (fun r => [none])) := by
  refine T.F__law_twin_right.ok sc__law_twin_right (fun vs H Q E h => ?_) (fun cdv A outer s H vs Q E hr h => ?_)
  · obtain ⟨a, G, w, _, _, hl, _⟩ := h; exact hl
  · refine ⟨_, (pss_cons (ps_if (pt_cmpR op_gt (pe_callB (call_lenK (Kf := K) (by rfl)) (by rfl) T.n_len PySem.boot_len (pa_cons (pe_ix (ix_anyK (Kf := K) (by rfl)) (pv 0) pe_int (fun _ _ => rfl)) pa_nil)) pe_int (nomark _)) (pss_one (ps_ret pe_bl)) pss_nil) (pss_cons (ps_set (i := 1) sc__law_twin_right.nd rfl (by first | exact .inl rfl | exact .inr rfl) (pe_call (ok__law_twin T) (hr.mono (by decide)) (by rfl) T.g__law_twin T.F__law_twin.kp T.b__law_twin .nil (show Passes CX0 _ E from pass0) (pa_cons (pv 0) pa_nil))) (pss_cons (ps_if (pt_not (pt_val (pe_call (ok_is_sheet T) (hr.mono (by decide)) (by rfl) T.g_is_sheet T.F_is_sheet.kp T.b_is_sheet .nil (show Passes CX0 _ E from pass0) (pa_cons (pv 1) pa_nil)))) (pss_one (ps_ret pe_bl)) pss_nil) (pss_cons (ps_set (i := 2) sc__law_twin_right.nd rfl (by first | exact .inl rfl | exact .inr rfl) (pe_callB (call_lenK (Kf := K) (by rfl)) (by rfl) T.n_len PySem.boot_len (pa_cons (pe_ix (ix_anyK (Kf := K) (by rfl)) (pv 0) pe_int (fun _ _ => rfl)) pa_nil))) (pss_cons (ps_setLc (i := 3) (own := [("name", 4), ("to", 5)]) rfl sc__law_twin_right.nd rfl (by rfl) (by rfl) (pi_listK (Kf := K) (by rfl) (pe_ix (ix_anyK (Kf := K) (by rfl)) (pe_ix (ix_anyK (Kf := K) (by rfl)) (pv 1) pe_int (fun _ _ => rfl)) pe_int (fun _ _ => rfl))) blk__law_twin_right_0 (fun _ _ _ _ _ => (pg_tupK (Kf := K) (n := 2) (by rfl) rfl (pgs_cons (pg_name (i := 4) sc__law_twin_right.nd rfl (by first | exact .inl rfl | exact .inr rfl)) (pgs_cons (pg_name (i := 5) sc__law_twin_right.nd rfl (by first | exact .inl rfl | exact .inr rfl)) pgs_nil)))) (fun _ _ _ _ _ => (pts_one (pt_cmpR (op_inK (Kf := K) (by rfl)) (pv 4) (pe_ix (ix_anyK (Kf := K) (by rfl)) (pv 0) pe_int (fun _ _ => rfl)) rfl))) (fun _ _ _ _ _ => (pv 4))) (pss_one (ps_ret (pe_cmpR (op_eqM (hu_64 hr)) (pe_cmpR (op_inEK (Kf := K) (by rfl) (hu_64 hr)) (pe_tup (pa_cons pe_int (pa_cons (pe_op op_addA (pv 2) pe_int) pa_nil))) (pe_call (ok_clash_pairs T) (hr.mono (by decide)) (by rfl) T.g_clash_pairs T.F_clash_pairs.kp T.b_clash_pairs .nil (show Passes CX0 _ E from pass0) (pa_cons (pv 1) pa_nil)) rfl) (pe_cmpR (op_neM (hu_64 hr)) (pv 3) (pe_lst pa_nil) (nomark _)) (nomark _))))))))), ?_⟩
    refine fn_body (K := K) [] (fun _ => by show (1 : Nat) ≤ 6; decide) (fun _ => by show ∀ k ∈ ([] : List Nat), k < 1; decide) h (fun F x_sheet hec hE hK hpv => ?_)
    skip
    show RS F [] [some (.f x_sheet), none, none, none, none, none] (m__law_twin_right x_sheet) _ _ _
    unfold m__law_twin_right
    refine rs_seq ?_
    refine rs_if ?_
    refine rt_op2B o_gt ?_
    refine rd_cb1 o_len ?_
    refine rd_op2 o_ix ?_
    refine rd_var rfl ?_
    intro _
    refine rd_int ?_
    refine ⟨_, _, _, rfl, rfl, rfl, fun t3 => ?_⟩
    refine ⟨_, _, rfl, rfl, fun t2 => ?_⟩
    intro _
    refine rd_int ?_
    refine ⟨_, _, _, rfl, rfl, rfl, fun t1 => ?_⟩
    refine ⟨_, _, rfl, fun _ => ?_, fun _ => ?_⟩
    · refine rs_ret ?_
      refine rd_bl ?_
      refine ⟨_, rfl, ?_⟩
      exact ⟨_, rfl, rfl, trivial⟩
    · refine rs_next ?_
      refine rs_at [some (.f x_sheet), none, none, none, none, none] rfl ?_
      refine rs_seq ?_
      refine rs_set ?_ rfl (hpv _ (by decide))
      refine rd_call hec hE ?_
      refine ra_cons ?_
      refine rd_var rfl ?_
      intro _
      refine ra_nil ?_
      refine ⟨(x_sheet), _, rfl, rfl, rfl, fun r4 => ?_⟩
      refine ⟨_, rfl, (by show (1 : Nat) < 6; decide), ?_⟩
      refine rs_at [some (.f x_sheet), some (.f r4), none, none, none, none] rfl ?_
      refine rs_seq ?_
      refine rs_if ?_
      refine rt_not ?_
      refine rt_val ?_
      refine rd_call hec hE ?_
      refine ra_cons ?_
      refine rd_var rfl ?_
      intro _
      refine ra_nil ?_
      refine ⟨(r4), _, rfl, rfl, rfl, fun r6 => ?_⟩
      refine ⟨_, _, rfl, rfl, fun t5 => ?_⟩
      refine ⟨_, _, rfl, fun _ => ?_, fun _ => ?_⟩
      · refine rs_ret ?_
        refine rd_bl ?_
        refine ⟨_, rfl, ?_⟩
        exact ⟨_, rfl, rfl, trivial⟩
      · refine rs_next ?_
        refine rs_at [some (.f x_sheet), some (.f r4), none, none, none, none] rfl ?_
        refine rs_seq ?_
        refine rs_set ?_ rfl (hpv _ (by decide))
        refine rd_cb1 o_len ?_
        refine rd_op2 o_ix ?_
        refine rd_var rfl ?_
        intro _
        refine rd_int ?_
        refine ⟨_, _, _, rfl, rfl, rfl, fun t8 => ?_⟩
        refine ⟨_, _, rfl, rfl, fun t7 => ?_⟩
        refine ⟨_, rfl, (by show (2 : Nat) < 6; decide), ?_⟩
        refine rs_at [some (.f x_sheet), some (.f r4), some (.f t7), none, none, none] rfl ?_
        refine rs_seq ?_
        refine rs_set ?_ rfl (hpv _ (by decide))
        refine rd_fz ?_
        refine rd_lcR [4, 5] (fun i hi => hi) (all2 (hpv _ (by decide)) (hpv _ (by decide))) ?_
        refine ri_lst ?_
        refine rd_op2 o_ix ?_
        refine rd_op2 o_ix ?_
        refine rd_var rfl ?_
        intro _
        refine rd_int ?_
        refine ⟨_, _, _, rfl, rfl, rfl, fun t13 => ?_⟩
        intro _
        refine rd_int ?_
        refine ⟨_, _, _, rfl, rfl, rfl, fun t12 => ?_⟩
        refine ⟨_, _, rfl, rfl, fun ds11 _ => ?_⟩
        refine ⟨[some (.f x_sheet), some (.f r4), some (.f t7), none, none, none], _, _, rfl, ⟨.inr rfl, ⟨.inr rfl, ⟨.inr rfl, ⟨.inl rfl, ⟨.inl rfl, ⟨.inl rfl, trivial⟩⟩⟩⟩⟩⟩, (by first | exact trivial | rfl | exact ⟨rfl, rfl⟩), (all2 rfl rfl), rfl, fun d9 _ _ => ?_, fun ys10 => ?_⟩
        · refine rg_n2 ⟨_, rfl, fun p14 => ?_⟩
          refine rgs_cons (by show (4 : Nat) < 6; decide) rfl (hpv _ (by decide)) ?_
          refine rgs_cons (by show (5 : Nat) < 6; decide) rfl (hpv _ (by decide)) ?_
          refine rgs_nil ?_
          refine rt_op2B o_in ?_
          refine rd_var rfl ?_
          intro _
          refine rd_op2 o_ix ?_
          refine rd_var rfl ?_
          intro _
          refine rd_int ?_
          refine ⟨_, _, _, rfl, rfl, rfl, fun t16 => ?_⟩
          refine ⟨_, _, _, rfl, rfl, rfl, fun t15 => ?_⟩
          refine ⟨_, _, rfl, fun _ => ?_, fun _ => ⟨rfl, ⟨.inr rfl, ⟨.inr rfl, ⟨.inr rfl, ⟨.inl rfl, ⟨.inl rfl, ⟨.inl rfl, trivial⟩⟩⟩⟩⟩⟩⟩⟩
          refine rd_var rfl ?_
          exact ⟨_, rfl, rfl, ⟨.inr rfl, ⟨.inr rfl, ⟨.inr rfl, ⟨.inl rfl, ⟨.inl rfl, ⟨.inl rfl, trivial⟩⟩⟩⟩⟩⟩⟩
        · refine ⟨_, rfl, ?_⟩
          refine ⟨_, rfl, (by show (3 : Nat) < 6; decide), ?_⟩
          refine rs_at [some (.f x_sheet), some (.f r4), some (.f t7), some (.f (.lst ys10)), none, none] rfl ?_
          refine rs_ret ?_
          refine rd_op2B o_eq ?_
          refine rd_op2B o_inE ?_
          refine rd_tup ?_
          refine ra_cons ?_
          refine rd_int ?_
          intro _
          refine ra_cons ?_
          refine rd_op2 o_add ?_
          refine rd_var rfl ?_
          intro _
          refine rd_int ?_
          refine ⟨_, _, _, rfl, rfl, rfl, fun t19 => ?_⟩
          intro _
          refine ra_nil ?_
          refine ⟨[(.int 0), t19], rfl, (by show (2 : Nat) ≤ 1000; decide), ?_⟩
          intro _
          refine rd_call hec hE ?_
          refine ra_cons ?_
          refine rd_var rfl ?_
          intro _
          refine ra_nil ?_
          refine ⟨(r4), _, rfl, rfl, rfl, fun r20 => ?_⟩
          refine ⟨_, _, _, rfl, rfl, rfl, fun t18 => ?_⟩
          intro _
          refine rd_op2B o_ne ?_
          refine rd_var rfl ?_
          intro _
          refine rd_lst ?_
          refine ra_nil ?_
          refine ⟨[], rfl, (by show (0 : Nat) ≤ 1000; decide), ?_⟩
          refine ⟨_, _, _, rfl, rfl, rfl, fun t21 => ?_⟩
          refine ⟨_, _, _, rfl, rfl, rfl, fun t17 => ?_⟩
          refine ⟨_, rfl, ?_⟩
          exact ⟨_, rfl, rfl, trivial⟩
theorem ok_first_unsteady (T : Tx w K mg) : FnOk P w K mg base CX0 4 T.a_first_unsteady T.d_first_unsteady ["sheet"] (spOf (A := D) (R := D) EC.ec (fun a => [.f a]) (fun a => m_first_unsteady a) (fun r => .f r) (fun r => [none])) := by
  refine T.F_first_unsteady.ok sc_first_unsteady (fun vs H Q E h => ?_) (fun cdv A outer s H vs Q E hr h => ?_)
  · obtain ⟨a, G, w, _, _, hl, _⟩ := h; exact hl
  · refine ⟨_, (pss_cons (ps_set (i := 1) sc_first_unsteady.nd rfl (by first | exact .inl rfl | exact .inr rfl) (pe_call (ok_signs_of T) (hr.mono (by decide)) (by rfl) T.g_signs_of T.F_signs_of.kp T.b_signs_of .nil (show Passes CX0 _ E from pass0) (pa_cons (pv 0) pa_nil))) (pss_cons (ps_for PassesOwn.never rfl (pi_range1 (by rfl) T.n_range (pa_cons (pe_callB (call_lenK (Kf := K) (by rfl)) (by rfl) T.n_len PySem.boot_len (pa_cons (pv 1) pa_nil)) pa_nil)) (pg_name (i := 2) sc_first_unsteady.nd rfl (by first | exact .inl rfl | exact .inr rfl)) (pss_one (ps_if (pt_cmpR op_notN (pe_ix (ix_anyK (Kf := K) (by rfl)) (pv 1) (pv 2) (fun _ _ => rfl)) pe_non (nomark _)) (pss_one (ps_for PassesOwn.never rfl (pi_listK (Kf := K) (by rfl) (pe_call (ok_wanted_at T) (hr.mono (by decide)) (by rfl) T.g_wanted_at T.F_wanted_at.kp T.b_wanted_at .nil (show Passes CX0 _ E from pass0) (pa_cons (pv 0) (pa_cons (pv 2) pa_nil)))) (pg_name (i := 3) sc_first_unsteady.nd rfl (by first | exact .inl rfl | exact .inr rfl)) (pss_one (ps_for PassesOwn.never rfl (pi_listK (Kf := K) (by rfl) (pe_callB (cr_sortedK (Kf := K) (by rfl) (hu_64 hr)) (by rfl) T.n_sorted PyProof.Rows.boot_sorted (pa_cons (pe_ix (ix_anyK (Kf := K) (by rfl)) (pe_ix (ix_anyK (Kf := K) (by rfl)) (pv 0) pe_int (fun _ _ => rfl)) (pv 2) (fun _ _ => rfl)) pa_nil))) (pg_tupK (Kf := K) (n := 2) (by rfl) rfl (pgs_cons (pg_name (i := 4) sc_first_unsteady.nd rfl (by first | exact .inl rfl | exact .inr rfl)) (pgs_cons (pg_name (i := 5) sc_first_unsteady.nd rfl (by first | exact .inl rfl | exact .inr rfl)) pgs_nil))) (pss_one (ps_if (pw_and (pt_cmpR (op_neM (hu_64 hr)) (pv 4) (pv 3) (nomark _)) (pw_and1 (pt_cmpR (op_notInK (Kf := K) (by rfl)) (pv 3) (pe_call (ok_wanted_at T) (hr.mono (by decide)) (by rfl) T.g_wanted_at T.F_wanted_at.kp T.b_wanted_at .nil (show Passes CX0 _ E from pass0) (pa_cons (pv 0) (pa_cons (pv 5) pa_nil))) rfl))).pt (pss_one (ps_ret (pe_tup (pa_cons (pv 2) (pa_cons (pv 3) (pa_cons (pv 4) pa_nil)))))) pss_nil)))))) pss_nil))) (pss_one (ps_ret pe_non)))), ?_⟩
    refine fn_body (K := K) [] (fun _ => by show (1 : Nat) ≤ 6; decide) (fun _ => by show ∀ k ∈ ([] : List Nat), k < 1; decide) h (fun F x_sheet hec hE hK hpv => ?_)
    skip
    show RS F [] [some (.f x_sheet), none, none, none, none, none] (m_first_unsteady x_sheet) _ _ _
    unfold m_first_unsteady
    refine rs_seq ?_
    refine rs_set ?_ rfl (hpv _ (by decide))
    refine rd_fz ?_
    refine rd_call hec hE ?_
    refine ra_cons ?_
    refine rd_var rfl ?_
    intro _
    refine ra_nil ?_
    refine ⟨(x_sheet), _, rfl, rfl, rfl, fun r1 => ?_⟩
    refine ⟨_, rfl, ?_⟩
    refine ⟨_, rfl, (by show (1 : Nat) < 6; decide), ?_⟩
    refine rs_at [some (.f x_sheet), some (.f (.lst r1)), none, none, none, none] rfl ?_
    refine rs_seq ?_
    refine rs_for (Z := Unit) (R' := D) [2] ?_
    refine ri_range1 ?_
    refine rd_cb1 o_len ?_
    refine rd_var rfl ?_
    refine ⟨_, _, rfl, rfl, fun t5 => ?_⟩
    refine ⟨_, _, rfl, rfl, fun ds4 => ?_⟩
    refine ⟨fun z3 => [some (.f x_sheet), some (.f (.lst r1)), none, none, none, none], _, _, _, rfl, ⟨.inr rfl, ⟨.inr rfl, ⟨.inl rfl, ⟨.inl rfl, ⟨.inl rfl, ⟨.inl rfl, trivial⟩⟩⟩⟩⟩⟩, fun _ => (by first | exact trivial | rfl | exact ⟨rfl, rfl⟩), fun z3 d2 => ?_, fun z3 => ?_⟩
    · refine rg_name (by show (2 : Nat) < 6; decide) rfl (hpv _ (by decide)) ?_
      refine rs_at [some (.f x_sheet), some (.f (.lst r1)), some (.f d2), none, none, none] rfl ?_
      refine rs_if ?_
      refine rt_op2B o_nn ?_
      refine rd_op2 o_ix ?_
      refine rd_var rfl ?_
      intro _
      refine rd_var rfl ?_
      refine ⟨_, _, _, rfl, rfl, rfl, fun t7 => ?_⟩
      intro _
      refine rd_non ?_
      refine ⟨_, _, _, rfl, rfl, rfl, fun t6 => ?_⟩
      refine ⟨_, _, rfl, fun _ => ?_, fun _ => ?_⟩
      · refine rs_for (Z := Unit) (R' := D) [3] ?_
        refine ri_lst ?_
        refine rd_call hec hE ?_
        refine ra_cons ?_
        refine rd_var rfl ?_
        intro _
        refine ra_cons ?_
        refine rd_var rfl ?_
        intro _
        refine ra_nil ?_
        refine ⟨(x_sheet, d2), _, rfl, rfl, rfl, fun r11 => ?_⟩
        refine ⟨_, _, rfl, rfl, fun ds10 _ => ?_⟩
        refine ⟨fun z9 => [some (.f x_sheet), some (.f (.lst r1)), some (.f d2), none, none, none], _, _, _, rfl, ⟨.inr rfl, ⟨.inr rfl, ⟨.inr rfl, ⟨.inl rfl, ⟨.inl rfl, ⟨.inl rfl, trivial⟩⟩⟩⟩⟩⟩, fun _ => (by first | exact trivial | rfl | exact ⟨rfl, rfl⟩), fun z9 d8 => ?_, fun z9 => ?_⟩
        · refine rg_name (by show (3 : Nat) < 6; decide) rfl (hpv _ (by decide)) ?_
          refine rs_at [some (.f x_sheet), some (.f (.lst r1)), some (.f d2), some (.f d8), none, none] rfl ?_
          refine rs_for (Z := Unit) (R' := D) [4, 5] ?_
          refine ri_lst ?_
          refine rd_cb1L o_sorted ?_
          refine rd_op2 o_ix ?_
          refine rd_op2 o_ix ?_
          refine rd_var rfl ?_
          intro _
          refine rd_int ?_
          refine ⟨_, _, _, rfl, rfl, rfl, fun t17 => ?_⟩
          intro _
          refine rd_var rfl ?_
          refine ⟨_, _, _, rfl, rfl, rfl, fun t16 => ?_⟩
          refine ⟨_, _, rfl, rfl, fun t15 => ?_⟩
          refine ⟨_, _, rfl, rfl, fun ds14 _ => ?_⟩
          refine ⟨fun z13 => [some (.f x_sheet), some (.f (.lst r1)), some (.f d2), some (.f d8), none, none], _, _, _, rfl, ⟨.inr rfl, ⟨.inr rfl, ⟨.inr rfl, ⟨.inr rfl, ⟨.inl rfl, ⟨.inl rfl, trivial⟩⟩⟩⟩⟩⟩, fun _ => (by first | exact trivial | rfl | exact ⟨rfl, rfl⟩), fun z13 d12 => ?_, fun z13 => ?_⟩
          · refine rg_n2 ⟨_, rfl, fun p18 => ?_⟩
            refine rgs_cons (by show (4 : Nat) < 6; decide) rfl (hpv _ (by decide)) ?_
            refine rgs_cons (by show (5 : Nat) < 6; decide) rfl (hpv _ (by decide)) ?_
            refine rgs_nil ?_
            refine rs_at [some (.f x_sheet), some (.f (.lst r1)), some (.f d2), some (.f d8), some (.f p18.1), some (.f p18.2)] rfl ?_
            refine rs_if ?_
            refine rt_and (Z := Unit) ?_
            refine rt_op2B o_ne ?_
            refine rd_var rfl ?_
            intro _
            refine rd_var rfl ?_
            refine ⟨_, _, _, rfl, rfl, rfl, fun t20 => ?_⟩
            refine ⟨fun z => [some (.f x_sheet), some (.f (.lst r1)), some (.f d2), some (.f d8), some (.f p18.1), some (.f p18.2)], (), _, _, rfl, ⟨.inr rfl, ⟨.inr rfl, ⟨.inr rfl, ⟨.inr rfl, ⟨.inr rfl, ⟨.inr rfl, trivial⟩⟩⟩⟩⟩⟩, fun _ => ?_, fun p19 => ?_⟩
            · refine rt_op2B o_notIn ?_
              refine rd_var rfl ?_
              intro _
              refine rd_call hec hE ?_
              refine ra_cons ?_
              refine rd_var rfl ?_
              intro _
              refine ra_cons ?_
              refine rd_var rfl ?_
              intro _
              refine ra_nil ?_
              refine ⟨(x_sheet, p18.2), _, rfl, rfl, rfl, fun r22 => ?_⟩
              refine ⟨_, _, _, rfl, rfl, rfl, fun t21 => ?_⟩
              exact ⟨_, rfl, ⟨.inr rfl, ⟨.inr rfl, ⟨.inr rfl, ⟨.inr rfl, ⟨.inr rfl, ⟨.inr rfl, trivial⟩⟩⟩⟩⟩⟩⟩
            · refine ⟨_, _, rfl, fun _ => ?_, fun _ => ?_⟩
              · refine rs_ret ?_
                refine rd_tup ?_
                refine ra_cons ?_
                refine rd_var rfl ?_
                intro _
                refine ra_cons ?_
                refine rd_var rfl ?_
                intro _
                refine ra_cons ?_
                refine rd_var rfl ?_
                intro _
                refine ra_nil ?_
                refine ⟨[d2, d8, p18.1], rfl, (by show (3 : Nat) ≤ 1000; decide), ?_⟩
                refine ⟨_, rfl, ?_⟩
                exact ⟨_, rfl, ⟨_, rfl, ⟨_, rfl, ⟨_, rfl, rfl, trivial⟩⟩⟩⟩
              · refine rs_next ?_
                exact ⟨_, rfl, ⟨.inr rfl, ⟨.inr rfl, ⟨.inr rfl, ⟨.inr rfl, ⟨.inl rfl, ⟨.inl rfl, trivial⟩⟩⟩⟩⟩⟩⟩
          · exact ⟨_, rfl, ⟨.inr rfl, ⟨.inr rfl, ⟨.inr rfl, ⟨.inl rfl, ⟨.inl rfl, ⟨.inl rfl, trivial⟩⟩⟩⟩⟩⟩⟩
        · exact ⟨_, rfl, ⟨.inr rfl, ⟨.inr rfl, ⟨.inl rfl, ⟨.inl rfl, ⟨.inl rfl, ⟨.inl rfl, trivial⟩⟩⟩⟩⟩⟩⟩
      · refine rs_next ?_
        exact ⟨_, rfl, ⟨.inr rfl, ⟨.inr rfl, ⟨.inl rfl, ⟨.inl rfl, ⟨.inl rfl, ⟨.inl rfl, trivial⟩⟩⟩⟩⟩⟩⟩
    · refine rs_at [some (.f x_sheet), some (.f (.lst r1)), none, none, none, none] rfl ?_
      refine rs_onN ?_
      refine rs_ret ?_
      refine rd_non ?_
      refine ⟨_, rfl, ?_⟩
      exact ⟨_, rfl, rfl, trivial⟩
theorem ok__law_by_signs (T : Tx w K mg) : FnOk P w K mg base CX0 4 T.a__law_by_signs T.d__law_by_signs ["sheet"] (spOf (A := D) (R := D) EC.ec (fun a => [.f a]) (fun a => m__law_by_signs a) (fun r => .f r) (fun r => [none])) := by
  refine T.F__law_by_signs.ok sc__law_by_signs (fun vs H Q E h => ?_) (fun cdv A outer s H vs Q E hr h => ?_)
  · obtain ⟨a, G, w, _, _, hl, _⟩ := h; exact hl
  · refine ⟨_, (pss_cons (ps_set (i := 1) sc__law_by_signs.nd rfl (by first | exact .inl rfl | exact .inr rfl) (pe_lnew T.hw)) (pss_cons (ps_for PassesOwn.never rfl (pi_zipK (Kf := K) (by rfl) (by rfl) T.n_zip (pa_cons (pe_call (ok_signs_of T) (hr.mono (by decide)) (by rfl) T.g_signs_of T.F_signs_of.kp T.b_signs_of .nil (show Passes CX0 _ E from pass0) (pa_cons (pv 0) pa_nil)) (pa_cons (pe_ix (ix_anyK (Kf := K) (by rfl)) (pv 0) pe_int (fun _ _ => rfl)) pa_nil))) (pg_tupK (Kf := K) (n := 2) (by rfl) rfl (pgs_cons (pg_name (i := 2) sc__law_by_signs.nd rfl (by first | exact .inl rfl | exact .inr rfl)) (pgs_cons (pg_name (i := 3) sc__law_by_signs.nd rfl (by first | exact .inl rfl | exact .inr rfl)) pgs_nil))) (pss_cons (ps_set (i := 4) sc__law_by_signs.nd rfl (by first | exact .inl rfl | exact .inr rfl) (pe_callB (cr_sortedK (Kf := K) (by rfl) (hu_64 hr)) (by rfl) T.n_sorted PyProof.Rows.boot_sorted (pa_cons (pe_lc (own := [("name", 5), ("to", 6)]) rfl (by exact sc__law_by_signs.nd) (pi_listK (Kf := K) (by rfl) (pv 3)) blk__law_by_signs_0 (fun _ _ _ _ _ => (pg_tupK (Kf := K) (n := 2) (by rfl) rfl (pgs_cons (pg_name (i := 5) sc__law_by_signs.nd rfl (by first | exact .inl rfl | exact .inr rfl)) (pgs_cons (pg_name (i := 6) sc__law_by_signs.nd rfl (by first | exact .inl rfl | exact .inr rfl)) pgs_nil)))) (fun _ _ _ _ _ => (pts_one (pt_cmpR (op_inK (Kf := K) (by rfl)) (pv 5) (pe_ix (ix_anyK (Kf := K) (by rfl)) (pv 0) pe_int (fun _ _ => rfl)) rfl))) (fun _ _ _ _ _ => (pv 5))) pa_nil))) (pss_cons (ps_if (pw_and (pt_cmpR op_notN (pv 2) pe_non (nomark _)) (pw_and1 (pt_cmpR (op_neM (hu_64 hr)) (pe_lget2 T.hw (pv 1) (pv 2) (pv 4) ⟨rfl, rfl, rfl, rfl⟩) (pv 4) (nomark _)))).pt (pss_one (ps_ret pe_bl)) pss_nil) (pss_one (ps_lput T.hw (pv 1) (pv 2) (pv 4) (by rfl)))))) (pss_one (ps_ret pe_bl)))), ?_⟩
    refine fn_body (K := K) [] (fun _ => by show (1 : Nat) ≤ 7; decide) (fun _ => by show ∀ k ∈ ([] : List Nat), k < 1; decide) h (fun F x_sheet hec hE hK hpv => ?_)
    skip
    show RS F [] [some (.f x_sheet), none, none, none, none, none, none] (m__law_by_signs x_sheet) _ _ _
    unfold m__law_by_signs
    refine rs_seq ?_
    refine rs_set ?_ rfl (hpv _ (by decide))
    refine rd_lnew ?_
    refine ⟨_, rfl, (by show (1 : Nat) < 7; decide), ?_⟩
    refine rs_at [some (.f x_sheet), some (.lf []), none, none, none, none, none] rfl ?_
    refine rs_seq ?_
    refine rs_for (Z := (List (D × D))) (R' := D) [2, 3] ?_
    refine ri_zipL ?_
    refine rd_call hec hE ?_
    refine ra_cons ?_
    refine rd_var rfl ?_
    intro _
    refine ra_nil ?_
    refine ⟨(x_sheet), _, rfl, rfl, rfl, fun r5 => ?_⟩
    intro _
    refine rd_op2 o_ix ?_
    refine rd_var rfl ?_
    intro _
    refine rd_int ?_
    refine ⟨_, _, _, rfl, rfl, rfl, fun t6 => ?_⟩
    refine ⟨_, _, _, rfl, rfl, rfl, fun ds3 ds4 _ => ?_⟩
    refine ⟨fun z2 => [some (.f x_sheet), some (.lf z2), none, none, none, none, none], _, _, _, rfl, ⟨.inr rfl, ⟨.inr rfl, ⟨.inl rfl, ⟨.inl rfl, ⟨.inl rfl, ⟨.inl rfl, ⟨.inl rfl, trivial⟩⟩⟩⟩⟩⟩⟩, fun _ => (by first | exact trivial | rfl | exact ⟨rfl, rfl⟩), fun z2 d1 => ?_, fun z2 => ?_⟩
    · refine rg_n2 ⟨_, rfl, fun p7 => ?_⟩
      refine rgs_cons (by show (2 : Nat) < 7; decide) rfl (hpv _ (by decide)) ?_
      refine rgs_cons (by show (3 : Nat) < 7; decide) rfl (hpv _ (by decide)) ?_
      refine rgs_nil ?_
      refine rs_at [some (.f x_sheet), some (.lf z2), some (.f p7.1), some (.f p7.2), none, none, none] rfl ?_
      refine rs_seq ?_
      refine rs_set ?_ rfl (hpv _ (by decide))
      refine rd_fz ?_
      refine rd_cb1L o_sorted ?_
      refine rd_lcR [5, 6] (fun i hi => hi) (all2 (hpv _ (by decide)) (hpv _ (by decide))) ?_
      refine ri_lst ?_
      refine rd_var rfl ?_
      refine ⟨_, _, rfl, rfl, fun ds11 _ => ?_⟩
      refine ⟨[some (.f x_sheet), some (.lf z2), some (.f p7.1), some (.f p7.2), none, none, none], _, _, rfl, ⟨.inr rfl, ⟨.inr rfl, ⟨.inr rfl, ⟨.inr rfl, ⟨.inl rfl, ⟨.inl rfl, ⟨.inl rfl, trivial⟩⟩⟩⟩⟩⟩⟩, (by first | exact trivial | rfl | exact ⟨rfl, rfl⟩), (all2 rfl rfl), rfl, fun d9 _ _ => ?_, fun ys10 => ?_⟩
      · refine rg_n2 ⟨_, rfl, fun p12 => ?_⟩
        refine rgs_cons (by show (5 : Nat) < 7; decide) rfl (hpv _ (by decide)) ?_
        refine rgs_cons (by show (6 : Nat) < 7; decide) rfl (hpv _ (by decide)) ?_
        refine rgs_nil ?_
        refine rt_op2B o_in ?_
        refine rd_var rfl ?_
        intro _
        refine rd_op2 o_ix ?_
        refine rd_var rfl ?_
        intro _
        refine rd_int ?_
        refine ⟨_, _, _, rfl, rfl, rfl, fun t14 => ?_⟩
        refine ⟨_, _, _, rfl, rfl, rfl, fun t13 => ?_⟩
        refine ⟨_, _, rfl, fun _ => ?_, fun _ => ⟨rfl, ⟨.inr rfl, ⟨.inr rfl, ⟨.inr rfl, ⟨.inr rfl, ⟨.inl rfl, ⟨.inl rfl, ⟨.inl rfl, trivial⟩⟩⟩⟩⟩⟩⟩⟩⟩
        refine rd_var rfl ?_
        exact ⟨_, rfl, rfl, ⟨.inr rfl, ⟨.inr rfl, ⟨.inr rfl, ⟨.inr rfl, ⟨.inl rfl, ⟨.inl rfl, ⟨.inl rfl, trivial⟩⟩⟩⟩⟩⟩⟩⟩
      · refine ⟨_, _, rfl, rfl, fun t8 => ?_⟩
        refine ⟨_, rfl, ?_⟩
        refine ⟨_, rfl, (by show (4 : Nat) < 7; decide), ?_⟩
        refine rs_at [some (.f x_sheet), some (.lf z2), some (.f p7.1), some (.f p7.2), some (.f (.lst t8)), none, none] rfl ?_
        refine rs_seq ?_
        refine rs_if ?_
        refine rt_and (Z := Unit) ?_
        refine rt_op2B o_nn ?_
        refine rd_var rfl ?_
        intro _
        refine rd_non ?_
        refine ⟨_, _, _, rfl, rfl, rfl, fun t16 => ?_⟩
        refine ⟨fun z => [some (.f x_sheet), some (.lf z2), some (.f p7.1), some (.f p7.2), some (.f (.lst t8)), none, none], (), _, _, rfl, ⟨.inr rfl, ⟨.inr rfl, ⟨.inr rfl, ⟨.inr rfl, ⟨.inr rfl, ⟨.inl rfl, ⟨.inl rfl, trivial⟩⟩⟩⟩⟩⟩⟩, fun _ => ?_, fun p15 => ?_⟩
        · refine rt_op2B o_ne ?_
          refine rd_lget2 ?_
          refine rd_ali rfl ?_
          refine ⟨1, rfl, ⟨_, rfl⟩, fun _ => ?_⟩
          refine rd_var rfl ?_
          intro _
          refine rd_var rfl ?_
          refine ⟨_, _, _, _, rfl, rfl, rfl, rfl, fun t18 => ?_⟩
          intro _
          refine rd_var rfl ?_
          refine ⟨_, _, _, rfl, rfl, rfl, fun t17 => ?_⟩
          exact ⟨_, rfl, ⟨.inr rfl, ⟨.inr rfl, ⟨.inr rfl, ⟨.inr rfl, ⟨.inr rfl, ⟨.inl rfl, ⟨.inl rfl, trivial⟩⟩⟩⟩⟩⟩⟩⟩
        · refine ⟨_, _, rfl, fun _ => ?_, fun _ => ?_⟩
          · refine rs_ret ?_
            refine rd_bl ?_
            refine ⟨_, rfl, ?_⟩
            exact ⟨_, rfl, ⟨_, rfl, rfl, trivial⟩⟩
          · refine rs_next ?_
            refine rs_at [some (.f x_sheet), some (.lf z2), some (.f p7.1), some (.f p7.2), some (.f (.lst t8)), none, none] rfl ?_
            refine rs_lput ?_
            refine rd_var rfl ?_
            refine ⟨_, rfl, fun _ => ?_⟩
            refine rd_ali rfl ?_
            refine ⟨1, rfl, fun _ => ?_⟩
            refine rd_var rfl ?_
            refine ⟨_, _, _, rfl, rfl, rfl, fun t19 => ?_⟩
            exact ⟨_, rfl, ⟨.inr rfl, ⟨.inr rfl, ⟨.inl rfl, ⟨.inl rfl, ⟨.inl rfl, ⟨.inl rfl, ⟨.inl rfl, trivial⟩⟩⟩⟩⟩⟩⟩⟩
    · refine rs_at [some (.f x_sheet), some (.lf z2), none, none, none, none, none] rfl ?_
      refine rs_onN ?_
      refine rs_ret ?_
      refine rd_bl ?_
      refine ⟨_, rfl, ?_⟩
      exact ⟨_, rfl, rfl, trivial⟩
theorem ok_law (T : Tx w K mg) : FnOk P w K mg base CX0 6 T.a_law T.d_law ["script"] (spOf (A := D) (R := D) EC.ec (fun a => [.f a]) (fun a => m_law a) (fun r => .f r) (fun r => [none])) := by
  refine T.F_law.ok sc_law (fun vs H Q E h => ?_) (fun cdv A outer s H vs Q E hr h => ?_)
  · obtain ⟨a, G, w, _, _, hl, _⟩ := h; exact hl
  · refine ⟨_, (pss_cons (ps_for PassesOwn.never rfl (pi_range1 (by rfl) T.n_range (pa_cons (pe_callB (call_max2 rfl) (by rfl) T.n_max PyProof.Rows.boot_max (pa_cons pe_int (pa_cons (pe_callB (call_min2 rfl) (by rfl) T.n_min PyProof.Rows.boot_min (pa_cons pe_int (pa_cons (pe_callB (call_lenK (Kf := K) (by rfl)) (by rfl) T.n_len PySem.boot_len (pa_cons (pv 0) pa_nil)) pa_nil))) pa_nil))) pa_nil)) (pg_name (i := 1) sc_law.nd rfl (by first | exact .inl rfl | exact .inr rfl)) (pss_cons (ps_set (i := 2) sc_law.nd rfl (by first | exact .inl rfl | exact .inr rfl) (pe_call (ok__law_pool T) (hr.mono (by decide)) (by rfl) T.g__law_pool T.F__law_pool.kp T.b__law_pool .nil (show Passes CX0 _ E from pass0) (pa_cons (pv 0) (pa_cons (pv 1) pa_nil)))) (pss_cons (ps_set (i := 3) sc_law.nd rfl (by first | exact .inl rfl | exact .inr rfl) (pe_call (ok__law_sheet T) (hr.mono (by decide)) (by rfl) T.g__law_sheet T.F__law_sheet.kp T.b__law_sheet .nil (show Passes CX0 _ E from pass0) (pa_cons (pv 2) (pa_cons (pe_call (ok__law_size T) (hr.mono (by decide)) (by rfl) T.g__law_size T.F__law_size.kp T.b__law_size .nil (show Passes CX0 _ E from pass0) (pa_cons (pv 2) pa_nil)) pa_nil)))) (pss_cons (ps_set (i := 4) sc_law.nd rfl (by first | exact .inl rfl | exact .inr rfl) (pe_call (ok_clash_pairs T) (hr.mono (by decide)) (by rfl) T.g_clash_pairs T.F_clash_pairs.kp T.b_clash_pairs .nil (show Passes CX0 _ E from pass0) (pa_cons (pv 3) pa_nil))) (pss_cons (ps_asg (pe_call (ok__law_anew T) (hr.mono (by decide)) (by rfl) T.g__law_anew T.F__law_anew.kp T.b__law_anew .nil (show Passes CX0 _ E from pass0) (pa_cons (pv 2) (pa_cons (pv 3) pa_nil))) (pg_tupK (Kf := K) (n := 2) (by rfl) rfl (pgs_cons (pg_name (i := 7) sc_law.nd rfl (by first | exact .inl rfl | exact .inr rfl)) (pgs_cons (pg_name (i := 8) sc_law.nd rfl (by first | exact .inl rfl | exact .inr rfl)) pgs_nil)))) (pss_cons (ps_if (pt_cmpR (op_neM (hu_64 hr)) (pe_call (ok_clash_pairs T) (hr.mono (by decide)) (by rfl) T.g_clash_pairs T.F_clash_pairs.kp T.b_clash_pairs .nil (show Passes CX0 _ E from pass0) (pa_cons (pv 7) pa_nil)) (pe_call (ok__law_pairs T) (hr.mono (by decide)) (by rfl) T.g__law_pairs T.F__law_pairs.kp T.b__law_pairs .nil (show Passes CX0 _ E from pass0) (pa_cons (pv 4) (pa_cons (pv 8) pa_nil))) (nomark _)) (pss_one (ps_ret pe_bl)) pss_nil) (pss_cons (ps_if (pt_cmpR (op_neM (hu_64 hr)) (pe_cmpR op_isN (pe_call (ok_first_unsteady T) (hr.mono (by decide)) (by rfl) T.g_first_unsteady T.F_first_unsteady.kp T.b_first_unsteady .nil (show Passes CX0 _ E from pass0) (pa_cons (pv 7) pa_nil)) pe_non (nomark _)) (pe_cmpR op_isN (pe_call (ok_first_unsteady T) (hr.mono (by decide)) (by rfl) T.g_first_unsteady T.F_first_unsteady.kp T.b_first_unsteady .nil (show Passes CX0 _ E from pass0) (pa_cons (pv 3) pa_nil)) pe_non (nomark _)) (nomark _)) (pss_one (ps_ret pe_bl)) pss_nil) (pss_cons (ps_set (i := 5) sc_law.nd rfl (by first | exact .inl rfl | exact .inr rfl) (pe_call (ok__law_named T) (hr.mono (by decide)) (by rfl) T.g__law_named T.F__law_named.kp T.b__law_named .nil (show Passes CX0 _ E from pass0) (pa_cons (pv 3) (pa_cons (pe_call (ok__law_names T) (hr.mono (by decide)) (by rfl) T.g__law_names T.F__law_names.kp T.b__law_names .nil (show Passes CX0 _ E from pass0) (pa_cons (pv 2) (pa_cons (pe_op op_addA (pe_callB (call_lenK (Kf := K) (by rfl)) (by rfl) T.n_len PySem.boot_len (pa_cons (pe_ix (ix_anyK (Kf := K) (by rfl)) (pv 3) pe_int (fun _ _ => rfl)) pa_nil)) (pe_callB (call_lenK (Kf := K) (by rfl)) (by rfl) T.n_len PySem.boot_len (pa_cons (pe_ix (ix_anyK (Kf := K) (by rfl)) (pv 3) pe_int (fun _ _ => rfl)) pa_nil))) pa_nil))) pa_nil)))) (pss_cons (ps_if (pw_or (pt_cmpR (op_neM (hu_64 hr)) (pe_call (ok_clash_pairs T) (hr.mono (by decide)) (by rfl) T.g_clash_pairs T.F_clash_pairs.kp T.b_clash_pairs .nil (show Passes CX0 _ E from pass0) (pa_cons (pv 5) pa_nil)) (pv 4) (nomark _)) (pw_or1 (pt_cmpR (op_neM (hu_64 hr)) (pe_call (ok__law_by_signs T) (hr.mono (by decide)) (by rfl) T.g__law_by_signs T.F__law_by_signs.kp T.b__law_by_signs .nil (show Passes CX0 _ E from pass0) (pa_cons (pv 3) pa_nil)) (pe_cmpR (op_eqM (hu_64 hr)) (pv 4) (pe_lst pa_nil) (nomark _)) (nomark _)))).pt (pss_one (ps_ret pe_bl)) pss_nil) (pss_cons (ps_set (i := 6) sc_law.nd rfl (by first | exact .inl rfl | exact .inr rfl) (pe_tup (pa_cons (pe_lst pa_nil) (pa_cons (pe_op op_catR (pe_ix (ix_anyK (Kf := K) (by rfl)) (pv 3) pe_int (fun _ _ => rfl)) (pe_ix (ix_anyK (Kf := K) (by rfl)) (pv 3) pe_int (fun _ _ => rfl))) (pa_cons (pe_ix (ix_anyK (Kf := K) (by rfl)) (pv 3) pe_int (fun _ _ => rfl)) (pa_cons (pe_ix (ix_anyK (Kf := K) (by rfl)) (pv 3) pe_int (fun _ _ => rfl)) pa_nil)))))) (pss_cons (ps_if (pw_and (pt_cmpR op_ltA (pe_callB (call_lenK (Kf := K) (by rfl)) (by rfl) T.n_len PySem.boot_len (pa_cons (pe_ix (ix_anyK (Kf := K) (by rfl)) (pv 6) pe_int (fun _ _ => rfl)) pa_nil)) pe_int (nomark _)) (pw_and1 (pt_cmpR (op_neM (hu_64 hr)) (pe_lc (own := [("pair", 10)]) rfl (by exact sc_law.nd) (pi_listK (Kf := K) (by rfl) (pv 4)) blk_law_1 (fun _ _ _ _ _ => (pg_name (i := 10) sc_law.nd rfl (by first | exact .inl rfl | exact .inr rfl))) (fun _ _ _ _ _ => (pts_one (pt_cmpR (op_notInEK (Kf := K) (by rfl) (hu_64 hr)) (pv 10) (pe_call (ok_clash_pairs T) (hr.mono (by decide)) (by rfl) T.g_clash_pairs T.F_clash_pairs.kp T.b_clash_pairs .nil (show Passes CX0 _ E from pass0) (pa_cons (pv 6) pa_nil)) rfl))) (fun _ _ _ _ _ => (pv 10))) (pe_lst pa_nil) (nomark _)))).pt (pss_one (ps_ret pe_bl)) pss_nil) (pss_cons (ps_if (pw_and (pt_cmpR op_gt (pe_callB (call_lenK (Kf := K) (by rfl)) (by rfl) T.n_len PySem.boot_len (pa_cons (pe_ix (ix_anyK (Kf := K) (by rfl)) (pv 3) pe_int (fun _ _ => rfl)) pa_nil)) pe_int (nomark _)) (pw_and1 (pt_cmpR op_ltA (pe_callB (call_lenK (Kf := K) (by rfl)) (by rfl) T.n_len PySem.boot_len (pa_cons (pe_ix (ix_anyK (Kf := K) (by rfl)) (pv 3) pe_int (fun _ _ => rfl)) pa_nil)) pe_int (nomark _)))).pt (pss_cons (ps_set (i := 9) sc_law.nd rfl (by first | exact .inl rfl | exact .inr rfl) (pe_tup (pa_cons (pe_op op_catR (pe_ix (ix_anyK (Kf := K) (by rfl)) (pv 3) pe_int (fun _ _ => rfl)) (pe_slice (sl_listK (Kf := K) (by rfl)) (pe_ix (ix_anyK (Kf := K) (by rfl)) (pv 3) pe_int (fun _ _ => rfl)) po_none (po_some pe_int))) (pa_cons (pe_slice (sl_listK (Kf := K) (by rfl)) (pe_ix (ix_anyK (Kf := K) (by rfl)) (pv 3) pe_int (fun _ _ => rfl)) (po_some pe_int) po_none) (pa_cons (pe_ix (ix_anyK (Kf := K) (by rfl)) (pv 3) pe_int (fun _ _ => rfl)) (pa_cons (pe_ix (ix_anyK (Kf := K) (by rfl)) (pv 3) pe_int (fun _ _ => rfl)) pa_nil)))))) (pss_one (ps_if (pt_cmpR (op_neM (hu_64 hr)) (pe_lc (own := [("pair", 10)]) rfl (by exact sc_law.nd) (pi_listK (Kf := K) (by rfl) (pe_call (ok_clash_pairs T) (hr.mono (by decide)) (by rfl) T.g_clash_pairs T.F_clash_pairs.kp T.b_clash_pairs .nil (show Passes CX0 _ E from pass0) (pa_cons (pv 9) pa_nil))) blk_law_0 (fun _ _ _ _ _ => (pg_name (i := 10) sc_law.nd rfl (by first | exact .inl rfl | exact .inr rfl))) (fun _ _ _ _ _ => (pts_one (pt_cmpR (op_notInEK (Kf := K) (by rfl) (hu_64 hr)) (pv 10) (pv 4) rfl))) (fun _ _ _ _ _ => (pv 10))) (pe_lst pa_nil) (nomark _)) (pss_one (ps_ret pe_bl)) pss_nil))) pss_nil) (pss_one (ps_if (pt_not (pt_val (pe_call (ok__law_twin_right T) (hr.mono (by decide)) (by rfl) T.g__law_twin_right T.F__law_twin_right.kp T.b__law_twin_right .nil (show Passes CX0 _ E from pass0) (pa_cons (pv 3) pa_nil)))) (pss_one (ps_ret pe_bl)) pss_nil)))))))))))))) (pss_one (ps_ret pe_bl))), ?_⟩
    refine fn_body (K := K) [] (fun _ => by show (1 : Nat) ≤ 11; decide) (fun _ => by show ∀ k ∈ ([] : List Nat), k < 1; decide) h (fun F x_script hec hE hK hpv => ?_)
    skip
    show RS F [] [some (.f x_script), none, none, none, none, none, none, none, none, none, none] (m_law x_script) _ _ _
    unfold m_law
    refine rs_seq ?_
    refine rs_for (Z := Unit) (R' := D) [1] ?_
    refine ri_range1 ?_
    refine rd_cb2 o_max ?_
    refine rd_int ?_
    intro _
    refine rd_cb2 o_min ?_
    refine rd_int ?_
    intro _
    refine rd_cb1 o_len ?_
    refine rd_var rfl ?_
    refine ⟨_, _, rfl, rfl, fun t6 => ?_⟩
    refine ⟨_, _, _, rfl, rfl, rfl, fun t5 => ?_⟩
    refine ⟨_, _, _, rfl, rfl, rfl, fun t4 => ?_⟩
    refine ⟨_, _, rfl, rfl, fun ds3 => ?_⟩
    refine ⟨fun z2 => [some (.f x_script), none, none, none, none, none, none, none, none, none, none], _, _, _, rfl, ⟨.inr rfl, ⟨.inl rfl, ⟨.inl rfl, ⟨.inl rfl, ⟨.inl rfl, ⟨.inl rfl, ⟨.inl rfl, ⟨.inl rfl, ⟨.inl rfl, ⟨.inl rfl, ⟨.inl rfl, trivial⟩⟩⟩⟩⟩⟩⟩⟩⟩⟩⟩, fun _ => (by first | exact trivial | rfl | exact ⟨rfl, rfl⟩), fun z2 d1 => ?_, fun z2 => ?_⟩
    · refine rg_name (by show (1 : Nat) < 11; decide) rfl (hpv _ (by decide)) ?_
      refine rs_at [some (.f x_script), some (.f d1), none, none, none, none, none, none, none, none, none] rfl ?_
      refine rs_seq ?_
      refine rs_set ?_ rfl (hpv _ (by decide))
      refine rd_call hec hE ?_
      refine ra_cons ?_
      refine rd_var rfl ?_
      intro _
      refine ra_cons ?_
      refine rd_var rfl ?_
      intro _
      refine ra_nil ?_
      refine ⟨(x_script, d1), _, rfl, rfl, rfl, fun r7 => ?_⟩
      refine ⟨_, rfl, (by show (2 : Nat) < 11; decide), ?_⟩
      refine rs_at [some (.f x_script), some (.f d1), some (.l r7), none, none, none, none, none, none, none, none] rfl ?_
      refine rs_seq ?_
      refine rs_set ?_ rfl (hpv _ (by decide))
      refine rd_call hec hE ?_
      refine ra_cons ?_
      refine rd_ali rfl ?_
      intro _
      refine ra_cons ?_
      refine rd_call hec hE ?_
      refine ra_cons ?_
      refine rd_ali rfl ?_
      intro _
      refine ra_nil ?_
      refine ⟨(r7), _, rfl, rfl, rfl, fun r9 => ?_⟩
      intro _
      refine ra_nil ?_
      refine ⟨(r9.2, r9.1), _, rfl, rfl, rfl, fun r8 => ?_⟩
      refine ⟨_, rfl, (by show (3 : Nat) < 11; decide), ?_⟩
      refine rs_at [some (.f x_script), some (.f d1), some (.l r8.2), some (.f r8.1), none, none, none, none, none, none, none] rfl ?_
      refine rs_seq ?_
      refine rs_set ?_ rfl (hpv _ (by decide))
      refine rd_fz ?_
      refine rd_call hec hE ?_
      refine ra_cons ?_
      refine rd_var rfl ?_
      intro _
      refine ra_nil ?_
      refine ⟨(r8.1), _, rfl, rfl, rfl, fun r10 => ?_⟩
      refine ⟨_, rfl, ?_⟩
      refine ⟨_, rfl, (by show (4 : Nat) < 11; decide), ?_⟩
      refine rs_at [some (.f x_script), some (.f d1), some (.l r8.2), some (.f r8.1), some (.f (.lst r10)), none, none, none, none, none, none] rfl ?_
      refine rs_seq ?_
      refine rs_asgG [7, 8] ?_
      refine rd_call hec hE ?_
      refine ra_cons ?_
      refine rd_ali rfl ?_
      intro _
      refine ra_cons ?_
      refine rd_var rfl ?_
      intro _
      refine ra_nil ?_
      refine ⟨(r8.2, r8.1), _, rfl, rfl, rfl, fun r11 => ?_⟩
      refine ⟨_, rfl, ?_⟩
      refine rg_n2 ⟨_, rfl, fun p12 => ?_⟩
      refine rgs_cons (by show (7 : Nat) < 11; decide) rfl (hpv _ (by decide)) ?_
      refine rgs_cons (by show (8 : Nat) < 11; decide) rfl (hpv _ (by decide)) ?_
      refine rgs_nil ?_
      refine rs_at [some (.f x_script), some (.f d1), some (.l r11.2), some (.f r8.1), some (.f (.lst r10)), none, none, some (.f p12.1), some (.f p12.2), none, none] rfl ?_
      refine rs_seq ?_
      refine rs_if ?_
      refine rt_op2B o_ne ?_
      refine rd_call hec hE ?_
      refine ra_cons ?_
      refine rd_var rfl ?_
      intro _
      refine ra_nil ?_
      refine ⟨(p12.1), _, rfl, rfl, rfl, fun r14 => ?_⟩
      intro _
      refine rd_call hec hE ?_
      refine ra_cons ?_
      refine rd_var rfl ?_
      intro _
      refine ra_cons ?_
      refine rd_var rfl ?_
      intro _
      refine ra_nil ?_
      refine ⟨((.lst r10), p12.2), _, rfl, rfl, rfl, fun r15 => ?_⟩
      refine ⟨_, _, _, rfl, rfl, rfl, fun t13 => ?_⟩
      refine ⟨_, _, rfl, fun _ => ?_, fun _ => ?_⟩
      · refine rs_ret ?_
        refine rd_bl ?_
        refine ⟨_, rfl, ?_⟩
        exact ⟨_, rfl, ⟨_, rfl, rfl, trivial⟩⟩
      · refine rs_next ?_
        refine rs_at [some (.f x_script), some (.f d1), some (.l r11.2), some (.f r8.1), some (.f (.lst r10)), none, none, some (.f p12.1), some (.f p12.2), none, none] rfl ?_
        refine rs_seq ?_
        refine rs_if ?_
        refine rt_op2B o_ne ?_
        refine rd_op2B o_isn ?_
        refine rd_call hec hE ?_
        refine ra_cons ?_
        refine rd_var rfl ?_
        intro _
        refine ra_nil ?_
        refine ⟨(p12.1), _, rfl, rfl, rfl, fun r18 => ?_⟩
        intro _
        refine rd_non ?_
        refine ⟨_, _, _, rfl, rfl, rfl, fun t17 => ?_⟩
        intro _
        refine rd_op2B o_isn ?_
        refine rd_call hec hE ?_
        refine ra_cons ?_
        refine rd_var rfl ?_
        intro _
        refine ra_nil ?_
        refine ⟨(r8.1), _, rfl, rfl, rfl, fun r20 => ?_⟩
        intro _
        refine rd_non ?_
        refine ⟨_, _, _, rfl, rfl, rfl, fun t19 => ?_⟩
        refine ⟨_, _, _, rfl, rfl, rfl, fun t16 => ?_⟩
        refine ⟨_, _, rfl, fun _ => ?_, fun _ => ?_⟩
        · refine rs_ret ?_
          refine rd_bl ?_
          refine ⟨_, rfl, ?_⟩
          exact ⟨_, rfl, ⟨_, rfl, rfl, trivial⟩⟩
        · refine rs_next ?_
          refine rs_at [some (.f x_script), some (.f d1), some (.l r11.2), some (.f r8.1), some (.f (.lst r10)), none, none, some (.f p12.1), some (.f p12.2), none, none] rfl ?_
          refine rs_seq ?_
          refine rs_set ?_ rfl (hpv _ (by decide))
          refine rd_call hec hE ?_
          refine ra_cons ?_
          refine rd_var rfl ?_
          intro _
          refine ra_cons ?_
          refine rd_fz ?_
          refine rd_call hec hE ?_
          refine ra_cons ?_
          refine rd_ali rfl ?_
          intro _
          refine ra_cons ?_
          refine rd_op2 o_add ?_
          refine rd_cb1 o_len ?_
          refine rd_op2 o_ix ?_
          refine rd_var rfl ?_
          intro _
          refine rd_int ?_
          refine ⟨_, _, _, rfl, rfl, rfl, fun t25 => ?_⟩
          refine ⟨_, _, rfl, rfl, fun t24 => ?_⟩
          intro _
          refine rd_cb1 o_len ?_
          refine rd_op2 o_ix ?_
          refine rd_var rfl ?_
          intro _
          refine rd_int ?_
          refine ⟨_, _, _, rfl, rfl, rfl, fun t27 => ?_⟩
          refine ⟨_, _, rfl, rfl, fun t26 => ?_⟩
          refine ⟨_, _, _, rfl, rfl, rfl, fun t23 => ?_⟩
          intro _
          refine ra_nil ?_
          refine ⟨(r11.2, t23), _, rfl, rfl, rfl, fun r22 => ?_⟩
          refine ⟨_, rfl, ?_⟩
          intro _
          refine ra_nil ?_
          refine ⟨(r8.1, (.lst r22.1)), _, rfl, rfl, rfl, fun r21 => ?_⟩
          refine ⟨_, rfl, (by show (5 : Nat) < 11; decide), ?_⟩
          refine rs_at [some (.f x_script), some (.f d1), some (.l r22.2), some (.f r8.1), some (.f (.lst r10)), some (.f r21), none, some (.f p12.1), some (.f p12.2), none, none] rfl ?_
          refine rs_seq ?_
          refine rs_if ?_
          refine rt_or (Z := Unit) ?_
          refine rt_op2B o_ne ?_
          refine rd_call hec hE ?_
          refine ra_cons ?_
          refine rd_var rfl ?_
          intro _
          refine ra_nil ?_
          refine ⟨(r21), _, rfl, rfl, rfl, fun r30 => ?_⟩
          intro _
          refine rd_var rfl ?_
          refine ⟨_, _, _, rfl, rfl, rfl, fun t29 => ?_⟩
          refine ⟨fun z => [some (.f x_script), some (.f d1), some (.l r22.2), some (.f r8.1), some (.f (.lst r10)), some (.f r21), none, some (.f p12.1), some (.f p12.2), none, none], (), _, _, rfl, ⟨.inr rfl, ⟨.inr rfl, ⟨.inr rfl, ⟨.inr rfl, ⟨.inr rfl, ⟨.inr rfl, ⟨.inl rfl, ⟨.inr rfl, ⟨.inr rfl, ⟨.inl rfl, ⟨.inl rfl, trivial⟩⟩⟩⟩⟩⟩⟩⟩⟩⟩⟩, fun _ => ?_, fun p28 => ?_⟩
          · refine rt_op2B o_ne ?_
            refine rd_call hec hE ?_
            refine ra_cons ?_
            refine rd_var rfl ?_
            intro _
            refine ra_nil ?_
            refine ⟨(r8.1), _, rfl, rfl, rfl, fun r32 => ?_⟩
            intro _
            refine rd_op2B o_eq ?_
            refine rd_var rfl ?_
            intro _
            refine rd_lst ?_
            refine ra_nil ?_
            refine ⟨[], rfl, (by show (0 : Nat) ≤ 1000; decide), ?_⟩
            refine ⟨_, _, _, rfl, rfl, rfl, fun t33 => ?_⟩
            refine ⟨_, _, _, rfl, rfl, rfl, fun t31 => ?_⟩
            exact ⟨_, rfl, ⟨.inr rfl, ⟨.inr rfl, ⟨.inr rfl, ⟨.inr rfl, ⟨.inr rfl, ⟨.inr rfl, ⟨.inl rfl, ⟨.inr rfl, ⟨.inr rfl, ⟨.inl rfl, ⟨.inl rfl, trivial⟩⟩⟩⟩⟩⟩⟩⟩⟩⟩⟩⟩
          · refine ⟨_, _, rfl, fun _ => ?_, fun _ => ?_⟩
            · refine rs_ret ?_
              refine rd_bl ?_
              refine ⟨_, rfl, ?_⟩
              exact ⟨_, rfl, ⟨_, rfl, rfl, trivial⟩⟩
            · refine rs_next ?_
              refine rs_at [some (.f x_script), some (.f d1), some (.l r22.2), some (.f r8.1), some (.f (.lst r10)), some (.f r21), none, some (.f p12.1), some (.f p12.2), none, none] rfl ?_
              refine rs_seq ?_
              refine rs_set ?_ rfl (hpv _ (by decide))
              refine rd_tup ?_
              refine ra_cons ?_
              refine rd_fz ?_
              refine rd_lst ?_
              refine ra_nil ?_
              refine ⟨[], rfl, (by show (0 : Nat) ≤ 1000; decide), ?_⟩
              refine ⟨_, rfl, ?_⟩
              intro _
              refine ra_cons ?_
              refine rd_fz ?_
              refine rd_op2L o_cat ?_
              refine rd_op2 o_ix ?_
              refine rd_var rfl ?_
              intro _
              refine rd_int ?_
              refine ⟨_, _, _, rfl, rfl, rfl, fun t35 => ?_⟩
              intro _
              refine rd_op2 o_ix ?_
              refine rd_var rfl ?_
              intro _
              refine rd_int ?_
              refine ⟨_, _, _, rfl, rfl, rfl, fun t36 => ?_⟩
              refine ⟨_, _, _, rfl, rfl, rfl, fun t34 => ?_⟩
              refine ⟨_, rfl, ?_⟩
              intro _
              refine ra_cons ?_
              refine rd_op2 o_ix ?_
              refine rd_var rfl ?_
              intro _
              refine rd_int ?_
              refine ⟨_, _, _, rfl, rfl, rfl, fun t37 => ?_⟩
              intro _
              refine ra_cons ?_
              refine rd_op2 o_ix ?_
              refine rd_var rfl ?_
              intro _
              refine rd_int ?_
              refine ⟨_, _, _, rfl, rfl, rfl, fun t38 => ?_⟩
              intro _
              refine ra_nil ?_
              refine ⟨[(.lst []), (.lst t34), t37, t38], rfl, (by show (4 : Nat) ≤ 1000; decide), ?_⟩
              refine ⟨_, rfl, (by show (6 : Nat) < 11; decide), ?_⟩
              refine rs_at [some (.f x_script), some (.f d1), some (.l r22.2), some (.f r8.1), some (.f (.lst r10)), some (.f r21), some (.f (.tup [(.lst []), (.lst t34), t37, t38])), some (.f p12.1), some (.f p12.2), none, none] rfl ?_
              refine rs_seq ?_
              refine rs_if ?_
              refine rt_and (Z := Unit) ?_
              refine rt_op2B o_lt ?_
              refine rd_cb1 o_len ?_
              refine rd_op2 o_ix ?_
              refine rd_var rfl ?_
              intro _
              refine rd_int ?_
              refine ⟨_, _, _, rfl, rfl, rfl, fun t42 => ?_⟩
              refine ⟨_, _, rfl, rfl, fun t41 => ?_⟩
              intro _
              refine rd_int ?_
              refine ⟨_, _, _, rfl, rfl, rfl, fun t40 => ?_⟩
              refine ⟨fun z => [some (.f x_script), some (.f d1), some (.l r22.2), some (.f r8.1), some (.f (.lst r10)), some (.f r21), some (.f (.tup [(.lst []), (.lst t34), t37, t38])), some (.f p12.1), some (.f p12.2), none, none], (), _, _, rfl, ⟨.inr rfl, ⟨.inr rfl, ⟨.inr rfl, ⟨.inr rfl, ⟨.inr rfl, ⟨.inr rfl, ⟨.inr rfl, ⟨.inr rfl, ⟨.inr rfl, ⟨.inl rfl, ⟨.inl rfl, trivial⟩⟩⟩⟩⟩⟩⟩⟩⟩⟩⟩, fun _ => ?_, fun p39 => ?_⟩
              · refine rt_op2B o_ne ?_
                refine rd_lcR [10] (fun i hi => hi) (all1 (hpv _ (by decide))) ?_
                refine ri_lst ?_
                refine rd_var rfl ?_
                refine ⟨_, _, rfl, rfl, fun ds46 _ => ?_⟩
                refine ⟨[some (.f x_script), some (.f d1), some (.l r22.2), some (.f r8.1), some (.f (.lst r10)), some (.f r21), some (.f (.tup [(.lst []), (.lst t34), t37, t38])), some (.f p12.1), some (.f p12.2), none, none], _, _, rfl, ⟨.inr rfl, ⟨.inr rfl, ⟨.inr rfl, ⟨.inr rfl, ⟨.inr rfl, ⟨.inr rfl, ⟨.inr rfl, ⟨.inr rfl, ⟨.inr rfl, ⟨.inl rfl, ⟨.inl rfl, trivial⟩⟩⟩⟩⟩⟩⟩⟩⟩⟩⟩, (by first | exact trivial | rfl | exact ⟨rfl, rfl⟩), (all1 rfl), rfl, fun d44 _ _ => ?_, fun ys45 => ?_⟩
                · refine rg_name (by show (10 : Nat) < 11; decide) rfl (hpv _ (by decide)) ?_
                  refine rt_op2B o_notInE ?_
                  refine rd_var rfl ?_
                  intro _
                  refine rd_call hec hE ?_
                  refine ra_cons ?_
                  refine rd_var rfl ?_
                  intro _
                  refine ra_nil ?_
                  refine ⟨((.tup [(.lst []), (.lst t34), t37, t38])), _, rfl, rfl, rfl, fun r48 => ?_⟩
                  refine ⟨_, _, _, rfl, rfl, rfl, fun t47 => ?_⟩
                  refine ⟨_, _, rfl, fun _ => ?_, fun _ => ⟨rfl, ⟨.inr rfl, ⟨.inr rfl, ⟨.inr rfl, ⟨.inr rfl, ⟨.inr rfl, ⟨.inr rfl, ⟨.inr rfl, ⟨.inr rfl, ⟨.inr rfl, ⟨.inl rfl, ⟨.inl rfl, trivial⟩⟩⟩⟩⟩⟩⟩⟩⟩⟩⟩⟩⟩
                  refine rd_var rfl ?_
                  exact ⟨_, rfl, rfl, ⟨.inr rfl, ⟨.inr rfl, ⟨.inr rfl, ⟨.inr rfl, ⟨.inr rfl, ⟨.inr rfl, ⟨.inr rfl, ⟨.inr rfl, ⟨.inr rfl, ⟨.inl rfl, ⟨.inl rfl, trivial⟩⟩⟩⟩⟩⟩⟩⟩⟩⟩⟩⟩
                · intro _
                  refine rd_lst ?_
                  refine ra_nil ?_
                  refine ⟨[], rfl, (by show (0 : Nat) ≤ 1000; decide), ?_⟩
                  refine ⟨_, _, _, rfl, rfl, rfl, fun t43 => ?_⟩
                  exact ⟨_, rfl, ⟨.inr rfl, ⟨.inr rfl, ⟨.inr rfl, ⟨.inr rfl, ⟨.inr rfl, ⟨.inr rfl, ⟨.inr rfl, ⟨.inr rfl, ⟨.inr rfl, ⟨.inl rfl, ⟨.inl rfl, trivial⟩⟩⟩⟩⟩⟩⟩⟩⟩⟩⟩⟩
              · refine ⟨_, _, rfl, fun _ => ?_, fun _ => ?_⟩
                · refine rs_ret ?_
                  refine rd_bl ?_
                  refine ⟨_, rfl, ?_⟩
                  exact ⟨_, rfl, ⟨_, rfl, rfl, trivial⟩⟩
                · refine rs_next ?_
                  refine rs_at [some (.f x_script), some (.f d1), some (.l r22.2), some (.f r8.1), some (.f (.lst r10)), some (.f r21), some (.f (.tup [(.lst []), (.lst t34), t37, t38])), some (.f p12.1), some (.f p12.2), none, none] rfl ?_
                  refine rs_seq ?_
                  refine rs_joinF (Z := Unit) (fun z72 => [some (.f x_script), some (.f d1), some (.l r22.2), some (.f r8.1), some (.f (.lst r10)), some (.f r21), some (.f (.tup [(.lst []), (.lst t34), t37, t38])), some (.f p12.1), some (.f p12.2), none, none]) _ _ rfl ?_ (fun z72 => ?_)
                  · refine rs_if ?_
                    refine rt_and (Z := Unit) ?_
                    refine rt_op2B o_gt ?_
                    refine rd_cb1 o_len ?_
                    refine rd_op2 o_ix ?_
                    refine rd_var rfl ?_
                    intro _
                    refine rd_int ?_
                    refine ⟨_, _, _, rfl, rfl, rfl, fun t76 => ?_⟩
                    refine ⟨_, _, rfl, rfl, fun t75 => ?_⟩
                    intro _
                    refine rd_int ?_
                    refine ⟨_, _, _, rfl, rfl, rfl, fun t74 => ?_⟩
                    refine ⟨fun z => [some (.f x_script), some (.f d1), some (.l r22.2), some (.f r8.1), some (.f (.lst r10)), some (.f r21), some (.f (.tup [(.lst []), (.lst t34), t37, t38])), some (.f p12.1), some (.f p12.2), none, none], (), _, _, rfl, ⟨.inr rfl, ⟨.inr rfl, ⟨.inr rfl, ⟨.inr rfl, ⟨.inr rfl, ⟨.inr rfl, ⟨.inr rfl, ⟨.inr rfl, ⟨.inr rfl, ⟨.inl rfl, ⟨.inl rfl, trivial⟩⟩⟩⟩⟩⟩⟩⟩⟩⟩⟩, fun _ => ?_, fun p73 => ?_⟩
                    · refine rt_op2B o_lt ?_
                      refine rd_cb1 o_len ?_
                      refine rd_op2 o_ix ?_
                      refine rd_var rfl ?_
                      intro _
                      refine rd_int ?_
                      refine ⟨_, _, _, rfl, rfl, rfl, fun t79 => ?_⟩
                      refine ⟨_, _, rfl, rfl, fun t78 => ?_⟩
                      intro _
                      refine rd_int ?_
                      refine ⟨_, _, _, rfl, rfl, rfl, fun t77 => ?_⟩
                      exact ⟨_, rfl, ⟨.inr rfl, ⟨.inr rfl, ⟨.inr rfl, ⟨.inr rfl, ⟨.inr rfl, ⟨.inr rfl, ⟨.inr rfl, ⟨.inr rfl, ⟨.inr rfl, ⟨.inl rfl, ⟨.inl rfl, trivial⟩⟩⟩⟩⟩⟩⟩⟩⟩⟩⟩⟩
                    · refine ⟨_, _, rfl, fun _ => ?_, fun _ => ?_⟩
                      · refine rs_seq ?_
                        refine rs_set ?_ rfl (hpv _ (by decide))
                        refine rd_tup ?_
                        refine ra_cons ?_
                        refine rd_fz ?_
                        refine rd_op2L o_cat ?_
                        refine rd_op2 o_ix ?_
                        refine rd_var rfl ?_
                        intro _
                        refine rd_int ?_
                        refine ⟨_, _, _, rfl, rfl, rfl, fun t81 => ?_⟩
                        intro _
                        refine rd_slL ?_
                        refine rd_op2 o_ix ?_
                        refine rd_var rfl ?_
                        intro _
                        refine rd_int ?_
                        refine ⟨_, _, _, rfl, rfl, rfl, fun t83 => ?_⟩
                        intro _
                        refine ro_none ?_
                        refine ro_some ?_
                        refine rd_int ?_
                        refine ⟨_, _, rfl, rfl, fun t84 => ?_⟩
                        refine ⟨_, _, rfl, rfl, fun t82 => ?_⟩
                        refine ⟨_, _, _, rfl, rfl, rfl, fun t80 => ?_⟩
                        refine ⟨_, rfl, ?_⟩
                        intro _
                        refine ra_cons ?_
                        refine rd_fz ?_
                        refine rd_slL ?_
                        refine rd_op2 o_ix ?_
                        refine rd_var rfl ?_
                        intro _
                        refine rd_int ?_
                        refine ⟨_, _, _, rfl, rfl, rfl, fun t86 => ?_⟩
                        intro _
                        refine ro_some ?_
                        refine rd_int ?_
                        refine ⟨_, _, rfl, rfl, fun t87 => ?_⟩
                        refine ro_none ?_
                        refine ⟨_, _, rfl, rfl, fun t85 => ?_⟩
                        refine ⟨_, rfl, ?_⟩
                        intro _
                        refine ra_cons ?_
                        refine rd_op2 o_ix ?_
                        refine rd_var rfl ?_
                        intro _
                        refine rd_int ?_
                        refine ⟨_, _, _, rfl, rfl, rfl, fun t88 => ?_⟩
                        intro _
                        refine ra_cons ?_
                        refine rd_op2 o_ix ?_
                        refine rd_var rfl ?_
                        intro _
                        refine rd_int ?_
                        refine ⟨_, _, _, rfl, rfl, rfl, fun t89 => ?_⟩
                        intro _
                        refine ra_nil ?_
                        refine ⟨[(.lst t80), (.lst t85), t88, t89], rfl, (by show (4 : Nat) ≤ 1000; decide), ?_⟩
                        refine ⟨_, rfl, (by show (9 : Nat) < 11; decide), ?_⟩
                        refine rs_at [some (.f x_script), some (.f d1), some (.l r22.2), some (.f r8.1), some (.f (.lst r10)), some (.f r21), some (.f (.tup [(.lst []), (.lst t34), t37, t38])), some (.f p12.1), some (.f p12.2), some (.f (.tup [(.lst t80), (.lst t85), t88, t89])), none] rfl ?_
                        refine rs_if ?_
                        refine rt_op2B o_ne ?_
                        refine rd_lcR [10] (fun i hi => hi) (all1 (hpv _ (by decide))) ?_
                        refine ri_lst ?_
                        refine rd_call hec hE ?_
                        refine ra_cons ?_
                        refine rd_var rfl ?_
                        intro _
                        refine ra_nil ?_
                        refine ⟨((.tup [(.lst t80), (.lst t85), t88, t89])), _, rfl, rfl, rfl, fun r94 => ?_⟩
                        refine ⟨_, _, rfl, rfl, fun ds93 _ => ?_⟩
                        refine ⟨[some (.f x_script), some (.f d1), some (.l r22.2), some (.f r8.1), some (.f (.lst r10)), some (.f r21), some (.f (.tup [(.lst []), (.lst t34), t37, t38])), some (.f p12.1), some (.f p12.2), some (.f (.tup [(.lst t80), (.lst t85), t88, t89])), none], _, _, rfl, ⟨.inr rfl, ⟨.inr rfl, ⟨.inr rfl, ⟨.inr rfl, ⟨.inr rfl, ⟨.inr rfl, ⟨.inr rfl, ⟨.inr rfl, ⟨.inr rfl, ⟨.inr rfl, ⟨.inl rfl, trivial⟩⟩⟩⟩⟩⟩⟩⟩⟩⟩⟩, (by first | exact trivial | rfl | exact ⟨rfl, rfl⟩), (all1 rfl), rfl, fun d91 _ _ => ?_, fun ys92 => ?_⟩
                        · refine rg_name (by show (10 : Nat) < 11; decide) rfl (hpv _ (by decide)) ?_
                          refine rt_op2B o_notInE ?_
                          refine rd_var rfl ?_
                          intro _
                          refine rd_var rfl ?_
                          refine ⟨_, _, _, rfl, rfl, rfl, fun t95 => ?_⟩
                          refine ⟨_, _, rfl, fun _ => ?_, fun _ => ⟨rfl, ⟨.inr rfl, ⟨.inr rfl, ⟨.inr rfl, ⟨.inr rfl, ⟨.inr rfl, ⟨.inr rfl, ⟨.inr rfl, ⟨.inr rfl, ⟨.inr rfl, ⟨.inr rfl, ⟨.inl rfl, trivial⟩⟩⟩⟩⟩⟩⟩⟩⟩⟩⟩⟩⟩
                          refine rd_var rfl ?_
                          exact ⟨_, rfl, rfl, ⟨.inr rfl, ⟨.inr rfl, ⟨.inr rfl, ⟨.inr rfl, ⟨.inr rfl, ⟨.inr rfl, ⟨.inr rfl, ⟨.inr rfl, ⟨.inr rfl, ⟨.inr rfl, ⟨.inl rfl, trivial⟩⟩⟩⟩⟩⟩⟩⟩⟩⟩⟩⟩
                        · intro _
                          refine rd_lst ?_
                          refine ra_nil ?_
                          refine ⟨[], rfl, (by show (0 : Nat) ≤ 1000; decide), ?_⟩
                          refine ⟨_, _, _, rfl, rfl, rfl, fun t90 => ?_⟩
                          refine ⟨_, _, rfl, fun _ => ?_, fun _ => ?_⟩
                          · refine rs_ret ?_
                            refine rd_bl ?_
                            refine ⟨_, rfl, ?_⟩
                            exact ⟨_, rfl, ⟨_, rfl, ⟨_, rfl, rfl, trivial⟩⟩⟩
                          · refine rs_next ?_
                            exact ⟨_, rfl, ⟨.inr rfl, ⟨.inr rfl, ⟨.inr rfl, ⟨.inr rfl, ⟨.inr rfl, ⟨.inr rfl, ⟨.inr rfl, ⟨.inr rfl, ⟨.inr rfl, ⟨.inl rfl, ⟨.inl rfl, trivial⟩⟩⟩⟩⟩⟩⟩⟩⟩⟩⟩⟩
                      · refine rs_next ?_
                        exact ⟨_, rfl, ⟨.inr rfl, ⟨.inr rfl, ⟨.inr rfl, ⟨.inr rfl, ⟨.inr rfl, ⟨.inr rfl, ⟨.inr rfl, ⟨.inr rfl, ⟨.inr rfl, ⟨.inl rfl, ⟨.inl rfl, trivial⟩⟩⟩⟩⟩⟩⟩⟩⟩⟩⟩⟩
                  · refine rs_at [some (.f x_script), some (.f d1), some (.l r22.2), some (.f r8.1), some (.f (.lst r10)), some (.f r21), some (.f (.tup [(.lst []), (.lst t34), t37, t38])), some (.f p12.1), some (.f p12.2), none, none] rfl ?_
                    refine rs_onN ?_
                    refine rs_if ?_
                    refine rt_not ?_
                    refine rt_val ?_
                    refine rd_call hec hE ?_
                    refine ra_cons ?_
                    refine rd_var rfl ?_
                    intro _
                    refine ra_nil ?_
                    refine ⟨(r8.1), _, rfl, rfl, rfl, fun r97 => ?_⟩
                    refine ⟨_, _, rfl, rfl, fun t96 => ?_⟩
                    refine ⟨_, _, rfl, fun _ => ?_, fun _ => ?_⟩
                    · refine rs_ret ?_
                      refine rd_bl ?_
                      refine ⟨_, rfl, ?_⟩
                      exact ⟨_, rfl, ⟨_, rfl, rfl, trivial⟩⟩
                    · refine rs_next ?_
                      exact ⟨_, rfl, ⟨.inr rfl, ⟨.inl rfl, ⟨.inl rfl, ⟨.inl rfl, ⟨.inl rfl, ⟨.inl rfl, ⟨.inl rfl, ⟨.inl rfl, ⟨.inl rfl, ⟨.inl rfl, ⟨.inl rfl, trivial⟩⟩⟩⟩⟩⟩⟩⟩⟩⟩⟩⟩
    · refine rs_at [some (.f x_script), none, none, none, none, none, none, none, none, none, none] rfl ?_
      refine rs_onN ?_
      refine rs_ret ?_
      refine rd_bl ?_
      refine ⟨_, rfl, ?_⟩
      exact ⟨_, rfl, rfl, trivial⟩
end
theorem all_mk {l : PySem.W.OpenLaw} {w : World} {K : PySem.W.Frag} {h : Heap} {mg : Str → Option Value} {fa : Addr} (X : K.In h) (G : h.Ns mainGlobals mg) (hfa : mg "law" = some (.ref fa))
    {f0 : Addr} {od0 an0 : Option Addr} {sl0 : Array (Option Value)} {oc0 kV0 dc0 pm0 cd0 ct0 : Value}
    (a0 : PySem.W.nsIn K mainGlobals "_law_pool" = some (some (.ref f0))) (l0 : K.lookup f0 = some ⟨oc0, od0, .func (PySem.W.fnOf "_law_pool" "_law_pool" (defArgs s__law_pool) (defBody s__law_pool) (defScope s__law_pool) .none kV0 dc0 pm0 an0 cd0 ct0), sl0⟩) (c0 : PySem.W.codeIn K cd0 "_law_pool" = true) (k0 : PySem.W.keepIn K (.ref f0) = true)
    {f1 : Addr} {od1 an1 : Option Addr} {sl1 : Array (Option Value)} {oc1 kV1 dc1 pm1 cd1 ct1 : Value}
    (a1 : PySem.W.nsIn K mainGlobals "_law_take" = some (some (.ref f1))) (l1 : K.lookup f1 = some ⟨oc1, od1, .func (PySem.W.fnOf "_law_take" "_law_take" (defArgs s__law_take) (defBody s__law_take) (defScope s__law_take) .none kV1 dc1 pm1 an1 cd1 ct1), sl1⟩) (c1 : PySem.W.codeIn K cd1 "_law_take" = true) (k1 : PySem.W.keepIn K (.ref f1) = true)
    {f2 : Addr} {od2 an2 : Option Addr} {sl2 : Array (Option Value)} {oc2 kV2 dc2 pm2 cd2 ct2 : Value}
    (a2 : PySem.W.nsIn K mainGlobals "_law_names" = some (some (.ref f2))) (l2 : K.lookup f2 = some ⟨oc2, od2, .func (PySem.W.fnOf "_law_names" "_law_names" (defArgs s__law_names) (defBody s__law_names) (defScope s__law_names) .none kV2 dc2 pm2 an2 cd2 ct2), sl2⟩) (c2 : PySem.W.codeIn K cd2 "_law_names" = true) (k2 : PySem.W.keepIn K (.ref f2) = true)
    {f3 : Addr} {od3 an3 : Option Addr} {sl3 : Array (Option Value)} {oc3 kV3 dc3 pm3 cd3 ct3 : Value}
    (a3 : PySem.W.nsIn K mainGlobals "_law_turned" = some (some (.ref f3))) (l3 : K.lookup f3 = some ⟨oc3, od3, .func (PySem.W.fnOf "_law_turned" "_law_turned" (defArgs s__law_turned) (defBody s__law_turned) (defScope s__law_turned) .none kV3 dc3 pm3 an3 cd3 ct3), sl3⟩) (c3 : PySem.W.codeIn K cd3 "_law_turned" = true) (k3 : PySem.W.keepIn K (.ref f3) = true)
    {f4 : Addr} {od4 an4 : Option Addr} {sl4 : Array (Option Value)} {oc4 kV4 dc4 pm4 cd4 ct4 : Value}
    (a4 : PySem.W.nsIn K mainGlobals "_law_order" = some (some (.ref f4))) (l4 : K.lookup f4 = some ⟨oc4, od4, .func (PySem.W.fnOf "_law_order" "_law_order" (defArgs s__law_order) (defBody s__law_order) (defScope s__law_order) .none kV4 dc4 pm4 an4 cd4 ct4), sl4⟩) (c4 : PySem.W.codeIn K cd4 "_law_order" = true) (k4 : PySem.W.keepIn K (.ref f4) = true)
    {f5 : Addr} {od5 an5 : Option Addr} {sl5 : Array (Option Value)} {oc5 kV5 dc5 pm5 cd5 ct5 : Value}
    (a5 : PySem.W.nsIn K mainGlobals "_law_sheet" = some (some (.ref f5))) (l5 : K.lookup f5 = some ⟨oc5, od5, .func (PySem.W.fnOf "_law_sheet" "_law_sheet" (defArgs s__law_sheet) (defBody s__law_sheet) (defScope s__law_sheet) .none kV5 dc5 pm5 an5 cd5 ct5), sl5⟩) (c5 : PySem.W.codeIn K cd5 "_law_sheet" = true) (k5 : PySem.W.keepIn K (.ref f5) = true)
    {f6 : Addr} {od6 an6 : Option Addr} {sl6 : Array (Option Value)} {oc6 kV6 dc6 pm6 cd6 ct6 : Value}
    (a6 : PySem.W.nsIn K mainGlobals "behind_turn" = some (some (.ref f6))) (l6 : K.lookup f6 = some ⟨oc6, od6, .func (PySem.W.fnOf "behind_turn" "behind_turn" (defArgs s_behind_turn) (defBody s_behind_turn) (defScope s_behind_turn) .none kV6 dc6 pm6 an6 cd6 ct6), sl6⟩) (c6 : PySem.W.codeIn K cd6 "behind_turn" = true) (k6 : PySem.W.keepIn K (.ref f6) = true)
    {f7 : Addr} {od7 an7 : Option Addr} {sl7 : Array (Option Value)} {oc7 kV7 dc7 pm7 cd7 ct7 : Value}
    (a7 : PySem.W.nsIn K mainGlobals "rows_of" = some (some (.ref f7))) (l7 : K.lookup f7 = some ⟨oc7, od7, .func (PySem.W.fnOf "rows_of" "rows_of" (defArgs s_rows_of) (defBody s_rows_of) (defScope s_rows_of) .none kV7 dc7 pm7 an7 cd7 ct7), sl7⟩) (c7 : PySem.W.codeIn K cd7 "rows_of" = true) (k7 : PySem.W.keepIn K (.ref f7) = true)
    {f8 : Addr} {od8 an8 : Option Addr} {sl8 : Array (Option Value)} {oc8 kV8 dc8 pm8 cd8 ct8 : Value}
    (a8 : PySem.W.nsIn K mainGlobals "signs_of" = some (some (.ref f8))) (l8 : K.lookup f8 = some ⟨oc8, od8, .func (PySem.W.fnOf "signs_of" "signs_of" (defArgs s_signs_of) (defBody s_signs_of) (defScope s_signs_of) .none kV8 dc8 pm8 an8 cd8 ct8), sl8⟩) (c8 : PySem.W.codeIn K cd8 "signs_of" = true) (k8 : PySem.W.keepIn K (.ref f8) = true)
    {f9 : Addr} {od9 an9 : Option Addr} {sl9 : Array (Option Value)} {oc9 kV9 dc9 pm9 cd9 ct9 : Value}
    (a9 : PySem.W.nsIn K mainGlobals "wanted_at" = some (some (.ref f9))) (l9 : K.lookup f9 = some ⟨oc9, od9, .func (PySem.W.fnOf "wanted_at" "wanted_at" (defArgs s_wanted_at) (defBody s_wanted_at) (defScope s_wanted_at) .none kV9 dc9 pm9 an9 cd9 ct9), sl9⟩) (c9 : PySem.W.codeIn K cd9 "wanted_at" = true) (k9 : PySem.W.keepIn K (.ref f9) = true)
    {f10 : Addr} {od10 an10 : Option Addr} {sl10 : Array (Option Value)} {oc10 kV10 dc10 pm10 cd10 ct10 : Value}
    (a10 : PySem.W.nsIn K mainGlobals "clash_pairs" = some (some (.ref f10))) (l10 : K.lookup f10 = some ⟨oc10, od10, .func (PySem.W.fnOf "clash_pairs" "clash_pairs" (defArgs s_clash_pairs) (defBody s_clash_pairs) (defScope s_clash_pairs) .none kV10 dc10 pm10 an10 cd10 ct10), sl10⟩) (c10 : PySem.W.codeIn K cd10 "clash_pairs" = true) (k10 : PySem.W.keepIn K (.ref f10) = true)
    {f11 : Addr} {od11 an11 : Option Addr} {sl11 : Array (Option Value)} {oc11 kV11 dc11 pm11 cd11 ct11 : Value}
    (a11 : PySem.W.nsIn K mainGlobals "_law_anew" = some (some (.ref f11))) (l11 : K.lookup f11 = some ⟨oc11, od11, .func (PySem.W.fnOf "_law_anew" "_law_anew" (defArgs s__law_anew) (defBody s__law_anew) (defScope s__law_anew) .none kV11 dc11 pm11 an11 cd11 ct11), sl11⟩) (c11 : PySem.W.codeIn K cd11 "_law_anew" = true) (k11 : PySem.W.keepIn K (.ref f11) = true)
    {f12 : Addr} {od12 an12 : Option Addr} {sl12 : Array (Option Value)} {oc12 kV12 dc12 pm12 cd12 ct12 : Value}
    (a12 : PySem.W.nsIn K mainGlobals "_law_named" = some (some (.ref f12))) (l12 : K.lookup f12 = some ⟨oc12, od12, .func (PySem.W.fnOf "_law_named" "_law_named" (defArgs s__law_named) (defBody s__law_named) (defScope s__law_named) .none kV12 dc12 pm12 an12 cd12 ct12), sl12⟩) (c12 : PySem.W.codeIn K cd12 "_law_named" = true) (k12 : PySem.W.keepIn K (.ref f12) = true)
    {f13 : Addr} {od13 an13 : Option Addr} {sl13 : Array (Option Value)} {oc13 kV13 dc13 pm13 cd13 ct13 : Value}
    (a13 : PySem.W.nsIn K mainGlobals "_law_size" = some (some (.ref f13))) (l13 : K.lookup f13 = some ⟨oc13, od13, .func (PySem.W.fnOf "_law_size" "_law_size" (defArgs s__law_size) (defBody s__law_size) (defScope s__law_size) .none kV13 dc13 pm13 an13 cd13 ct13), sl13⟩) (c13 : PySem.W.codeIn K cd13 "_law_size" = true) (k13 : PySem.W.keepIn K (.ref f13) = true)
    {f14 : Addr} {od14 an14 : Option Addr} {sl14 : Array (Option Value)} {oc14 kV14 dc14 pm14 cd14 ct14 : Value}
    (a14 : PySem.W.nsIn K mainGlobals "_law_pairs" = some (some (.ref f14))) (l14 : K.lookup f14 = some ⟨oc14, od14, .func (PySem.W.fnOf "_law_pairs" "_law_pairs" (defArgs s__law_pairs) (defBody s__law_pairs) (defScope s__law_pairs) .none kV14 dc14 pm14 an14 cd14 ct14), sl14⟩) (c14 : PySem.W.codeIn K cd14 "_law_pairs" = true) (k14 : PySem.W.keepIn K (.ref f14) = true)
    {f15 : Addr} {od15 an15 : Option Addr} {sl15 : Array (Option Value)} {oc15 kV15 dc15 pm15 cd15 ct15 : Value}
    (a15 : PySem.W.nsIn K mainGlobals "_law_twin" = some (some (.ref f15))) (l15 : K.lookup f15 = some ⟨oc15, od15, .func (PySem.W.fnOf "_law_twin" "_law_twin" (defArgs s__law_twin) (defBody s__law_twin) (defScope s__law_twin) .none kV15 dc15 pm15 an15 cd15 ct15), sl15⟩) (c15 : PySem.W.codeIn K cd15 "_law_twin" = true) (k15 : PySem.W.keepIn K (.ref f15) = true)
    {f16 : Addr} {od16 an16 : Option Addr} {sl16 : Array (Option Value)} {oc16 kV16 dc16 pm16 cd16 ct16 : Value}
    (a16 : PySem.W.nsIn K mainGlobals "is_name" = some (some (.ref f16))) (l16 : K.lookup f16 = some ⟨oc16, od16, .func (PySem.W.fnOf "is_name" "is_name" (defArgs s_is_name) (defBody s_is_name) (defScope s_is_name) .none kV16 dc16 pm16 an16 cd16 ct16), sl16⟩) (c16 : PySem.W.codeIn K cd16 "is_name" = true) (k16 : PySem.W.keepIn K (.ref f16) = true)
    {f17 : Addr} {od17 an17 : Option Addr} {sl17 : Array (Option Value)} {oc17 kV17 dc17 pm17 cd17 ct17 : Value}
    (a17 : PySem.W.nsIn K mainGlobals "are_names" = some (some (.ref f17))) (l17 : K.lookup f17 = some ⟨oc17, od17, .func (PySem.W.fnOf "are_names" "are_names" (defArgs s_are_names) (defBody s_are_names) (defScope s_are_names) .none kV17 dc17 pm17 an17 cd17 ct17), sl17⟩) (c17 : PySem.W.codeIn K cd17 "are_names" = true) (k17 : PySem.W.keepIn K (.ref f17) = true)
    {f18 : Addr} {od18 an18 : Option Addr} {sl18 : Array (Option Value)} {oc18 kV18 dc18 pm18 cd18 ct18 : Value}
    (a18 : PySem.W.nsIn K mainGlobals "are_signs" = some (some (.ref f18))) (l18 : K.lookup f18 = some ⟨oc18, od18, .func (PySem.W.fnOf "are_signs" "are_signs" (defArgs s_are_signs) (defBody s_are_signs) (defScope s_are_signs) .none kV18 dc18 pm18 an18 cd18 ct18), sl18⟩) (c18 : PySem.W.codeIn K cd18 "are_signs" = true) (k18 : PySem.W.keepIn K (.ref f18) = true)
    {f19 : Addr} {od19 an19 : Option Addr} {sl19 : Array (Option Value)} {oc19 kV19 dc19 pm19 cd19 ct19 : Value}
    (a19 : PySem.W.nsIn K mainGlobals "is_whole" = some (some (.ref f19))) (l19 : K.lookup f19 = some ⟨oc19, od19, .func (PySem.W.fnOf "is_whole" "is_whole" (defArgs s_is_whole) (defBody s_is_whole) (defScope s_is_whole) .none kV19 dc19 pm19 an19 cd19 ct19), sl19⟩) (c19 : PySem.W.codeIn K cd19 "is_whole" = true) (k19 : PySem.W.keepIn K (.ref f19) = true)
    {f20 : Addr} {od20 an20 : Option Addr} {sl20 : Array (Option Value)} {oc20 kV20 dc20 pm20 cd20 ct20 : Value}
    (a20 : PySem.W.nsIn K mainGlobals "is_turn" = some (some (.ref f20))) (l20 : K.lookup f20 = some ⟨oc20, od20, .func (PySem.W.fnOf "is_turn" "is_turn" (defArgs s_is_turn) (defBody s_is_turn) (defScope s_is_turn) .none kV20 dc20 pm20 an20 cd20 ct20), sl20⟩) (c20 : PySem.W.codeIn K cd20 "is_turn" = true) (k20 : PySem.W.keepIn K (.ref f20) = true)
    {f21 : Addr} {od21 an21 : Option Addr} {sl21 : Array (Option Value)} {oc21 kV21 dc21 pm21 cd21 ct21 : Value}
    (a21 : PySem.W.nsIn K mainGlobals "is_node" = some (some (.ref f21))) (l21 : K.lookup f21 = some ⟨oc21, od21, .func (PySem.W.fnOf "is_node" "is_node" (defArgs s_is_node) (defBody s_is_node) (defScope s_is_node) .none kV21 dc21 pm21 an21 cd21 ct21), sl21⟩) (c21 : PySem.W.codeIn K cd21 "is_node" = true) (k21 : PySem.W.keepIn K (.ref f21) = true)
    {f22 : Addr} {od22 an22 : Option Addr} {sl22 : Array (Option Value)} {oc22 kV22 dc22 pm22 cd22 ct22 : Value}
    (a22 : PySem.W.nsIn K mainGlobals "is_sheet" = some (some (.ref f22))) (l22 : K.lookup f22 = some ⟨oc22, od22, .func (PySem.W.fnOf "is_sheet" "is_sheet" (defArgs s_is_sheet) (defBody s_is_sheet) (defScope s_is_sheet) .none kV22 dc22 pm22 an22 cd22 ct22), sl22⟩) (c22 : PySem.W.codeIn K cd22 "is_sheet" = true) (k22 : PySem.W.keepIn K (.ref f22) = true)
    {f23 : Addr} {od23 an23 : Option Addr} {sl23 : Array (Option Value)} {oc23 kV23 dc23 pm23 cd23 ct23 : Value}
    (a23 : PySem.W.nsIn K mainGlobals "_law_twin_right" = some (some (.ref f23))) (l23 : K.lookup f23 = some ⟨oc23, od23, .func (PySem.W.fnOf "_law_twin_right" "_law_twin_right" (defArgs s__law_twin_right) (defBody s__law_twin_right) (defScope s__law_twin_right) .none kV23 dc23 pm23 an23 cd23 ct23), sl23⟩) (c23 : PySem.W.codeIn K cd23 "_law_twin_right" = true) (k23 : PySem.W.keepIn K (.ref f23) = true)
    {f24 : Addr} {od24 an24 : Option Addr} {sl24 : Array (Option Value)} {oc24 kV24 dc24 pm24 cd24 ct24 : Value}
    (a24 : PySem.W.nsIn K mainGlobals "first_unsteady" = some (some (.ref f24))) (l24 : K.lookup f24 = some ⟨oc24, od24, .func (PySem.W.fnOf "first_unsteady" "first_unsteady" (defArgs s_first_unsteady) (defBody s_first_unsteady) (defScope s_first_unsteady) .none kV24 dc24 pm24 an24 cd24 ct24), sl24⟩) (c24 : PySem.W.codeIn K cd24 "first_unsteady" = true) (k24 : PySem.W.keepIn K (.ref f24) = true)
    {f25 : Addr} {od25 an25 : Option Addr} {sl25 : Array (Option Value)} {oc25 kV25 dc25 pm25 cd25 ct25 : Value}
    (a25 : PySem.W.nsIn K mainGlobals "_law_by_signs" = some (some (.ref f25))) (l25 : K.lookup f25 = some ⟨oc25, od25, .func (PySem.W.fnOf "_law_by_signs" "_law_by_signs" (defArgs s__law_by_signs) (defBody s__law_by_signs) (defScope s__law_by_signs) .none kV25 dc25 pm25 an25 cd25 ct25), sl25⟩) (c25 : PySem.W.codeIn K cd25 "_law_by_signs" = true) (k25 : PySem.W.keepIn K (.ref f25) = true)
    {f26 : Addr} {od26 an26 : Option Addr} {sl26 : Array (Option Value)} {oc26 kV26 dc26 pm26 cd26 ct26 : Value}
    (a26 : PySem.W.nsIn K mainGlobals "law" = some (some (.ref f26))) (l26 : K.lookup f26 = some ⟨oc26, od26, .func (PySem.W.fnOf "law" "law" (defArgs s_law) (defBody s_law) (defScope s_law) .none kV26 dc26 pm26 an26 cd26 ct26), sl26⟩) (c26 : PySem.W.codeIn K cd26 "law" = true) (k26 : PySem.W.keepIn K (.ref f26) = true)
    (z_bool : PySem.W.nsIn K mainGlobals "bool" = some none)
    (z_dict : PySem.W.nsIn K mainGlobals "dict" = some none)
    (z_enumerate : PySem.W.nsIn K mainGlobals "enumerate" = some none)
    (z_int : PySem.W.nsIn K mainGlobals "int" = some none)
    (z_isinstance : PySem.W.nsIn K mainGlobals "isinstance" = some none)
    (z_len : PySem.W.nsIn K mainGlobals "len" = some none)
    (z_list : PySem.W.nsIn K mainGlobals "list" = some none)
    (z_max : PySem.W.nsIn K mainGlobals "max" = some none)
    (z_min : PySem.W.nsIn K mainGlobals "min" = some none)
    (z_range : PySem.W.nsIn K mainGlobals "range" = some none)
    (z_set : PySem.W.nsIn K mainGlobals "set" = some none)
    (z_sorted : PySem.W.nsIn K mainGlobals "sorted" = some none)
    (z_str : PySem.W.nsIn K mainGlobals "str" = some none)
    (z_tuple : PySem.W.nsIn K mainGlobals "tuple" = some none)
    (z_zip : PySem.W.nsIn K mainGlobals "zip" = some none)
    {ct_LETTERS : Tok} (cg_LETTERS : PySem.W.nsIn K mainGlobals "LETTERS" = some (some (.str (PySem.Str.ofString "abcdefghijklmnopqrstuvwxyz") ct_LETTERS)))
    {ct_MOST_NODES : Tok} (cg_MOST_NODES : PySem.W.nsIn K mainGlobals "MOST_NODES" = some (some (.int 40 ct_MOST_NODES)))
    : ∃ fd : FuncData, (∀ (s : Shared) (v : Value), BindsTo s fd ⟨[v], []⟩ [("script", v)]) ∧ ∀ base : Heap, K.In base → base.Ns mainGlobals mg → FnOk l.prog w K mg base CX0 6 fa fd ["script"] (@spOf (ecOf l.prog w K) D D (@EC.ec (ecOf l.prog w K)) (fun a => [.f a]) (fun a => m_law a) (fun r => .f r) (fun r => [none])) := by
  letI : EC := ecOf l.prog w K
  have e := hfa.symm.trans (PySem.W.mg_of X G a26)
  cases e
  have F0 := fun_mk (st := s__law_pool) l0 c0 k0
  have b0 := F0.binds (ps := ["script", "k"]) fun _ _ _ _ _ _ us hl => match us, hl with | [_, _], _ => rfl
  have F1 := fun_mk (st := s__law_take) l1 c1 k1
  have b1 := F1.binds (ps := ["pool", "many"]) fun _ _ _ _ _ _ us hl => match us, hl with | [_, _], _ => rfl
  have F2 := fun_mk (st := s__law_names) l2 c2 k2
  have b2 := F2.binds (ps := ["pool", "many"]) fun _ _ _ _ _ _ us hl => match us, hl with | [_, _], _ => rfl
  have F3 := fun_mk (st := s__law_turned) l3 c3 k3
  have b3 := F3.binds (ps := ["signs", "at"]) fun _ _ _ _ _ _ us hl => match us, hl with | [_, _], _ => rfl
  have F4 := fun_mk (st := s__law_order) l4 c4 k4
  have b4 := F4.binds (ps := ["pool", "things"]) fun _ _ _ _ _ _ us hl => match us, hl with | [_, _], _ => rfl
  have F5 := fun_mk (st := s__law_sheet) l5 c5 k5
  have b5 := F5.binds (ps := ["pool", "most"]) fun _ _ _ _ _ _ us hl => match us, hl with | [_, _], _ => rfl
  have F6 := fun_mk (st := s_behind_turn) l6 c6 k6
  have b6 := F6.binds (ps := ["names", "signs", "name"]) fun _ _ _ _ _ _ us hl => match us, hl with | [_, _, _], _ => rfl
  have F7 := fun_mk (st := s_rows_of) l7 c7 k7
  have b7 := F7.binds (ps := ["names", "first", "nodes"]) fun _ _ _ _ _ _ us hl => match us, hl with | [_, _, _], _ => rfl
  have F8 := fun_mk (st := s_signs_of) l8 c8 k8
  have b8 := F8.binds (ps := ["sheet"]) fun _ _ _ _ _ _ us hl => match us, hl with | [_], _ => rfl
  have F9 := fun_mk (st := s_wanted_at) l9 c9 k9
  have b9 := F9.binds (ps := ["sheet", "node"]) fun _ _ _ _ _ _ us hl => match us, hl with | [_, _], _ => rfl
  have F10 := fun_mk (st := s_clash_pairs) l10 c10 k10
  have b10 := F10.binds (ps := ["sheet"]) fun _ _ _ _ _ _ us hl => match us, hl with | [_], _ => rfl
  have F11 := fun_mk (st := s__law_anew) l11 c11 k11
  have b11 := F11.binds (ps := ["pool", "sheet"]) fun _ _ _ _ _ _ us hl => match us, hl with | [_, _], _ => rfl
  have F12 := fun_mk (st := s__law_named) l12 c12 k12
  have b12 := F12.binds (ps := ["sheet", "names"]) fun _ _ _ _ _ _ us hl => match us, hl with | [_, _], _ => rfl
  have F13 := fun_mk (st := s__law_size) l13 c13 k13
  have b13 := F13.binds (ps := ["pool"]) fun _ _ _ _ _ _ us hl => match us, hl with | [_], _ => rfl
  have F14 := fun_mk (st := s__law_pairs) l14 c14 k14
  have b14 := F14.binds (ps := ["pairs", "numbers"]) fun _ _ _ _ _ _ us hl => match us, hl with | [_, _], _ => rfl
  have F15 := fun_mk (st := s__law_twin) l15 c15 k15
  have b15 := F15.binds (ps := ["sheet"]) fun _ _ _ _ _ _ us hl => match us, hl with | [_], _ => rfl
  have F16 := fun_mk (st := s_is_name) l16 c16 k16
  have b16 := F16.binds (ps := ["thing"]) fun _ _ _ _ _ _ us hl => match us, hl with | [_], _ => rfl
  have F17 := fun_mk (st := s_are_names) l17 c17 k17
  have b17 := F17.binds (ps := ["thing"]) fun _ _ _ _ _ _ us hl => match us, hl with | [_], _ => rfl
  have F18 := fun_mk (st := s_are_signs) l18 c18 k18
  have b18 := F18.binds (ps := ["thing", "many"]) fun _ _ _ _ _ _ us hl => match us, hl with | [_, _], _ => rfl
  have F19 := fun_mk (st := s_is_whole) l19 c19 k19
  have b19 := F19.binds (ps := ["thing"]) fun _ _ _ _ _ _ us hl => match us, hl with | [_], _ => rfl
  have F20 := fun_mk (st := s_is_turn) l20 c20 k20
  have b20 := F20.binds (ps := ["thing", "names", "many"]) fun _ _ _ _ _ _ us hl => match us, hl with | [_, _, _], _ => rfl
  have F21 := fun_mk (st := s_is_node) l21 c21 k21
  have b21 := F21.binds (ps := ["thing", "names", "many"]) fun _ _ _ _ _ _ us hl => match us, hl with | [_, _, _], _ => rfl
  have F22 := fun_mk (st := s_is_sheet) l22 c22 k22
  have b22 := F22.binds (ps := ["thing"]) fun _ _ _ _ _ _ us hl => match us, hl with | [_], _ => rfl
  have F23 := fun_mk (st := s__law_twin_right) l23 c23 k23
  have b23 := F23.binds (ps := ["sheet"]) fun _ _ _ _ _ _ us hl => match us, hl with | [_], _ => rfl
  have F24 := fun_mk (st := s_first_unsteady) l24 c24 k24
  have b24 := F24.binds (ps := ["sheet"]) fun _ _ _ _ _ _ us hl => match us, hl with | [_], _ => rfl
  have F25 := fun_mk (st := s__law_by_signs) l25 c25 k25
  have b25 := F25.binds (ps := ["sheet"]) fun _ _ _ _ _ _ us hl => match us, hl with | [_], _ => rfl
  have F26 := fun_mk (st := s_law) l26 c26 k26
  exact ⟨PySem.W.fnOf "law" "law" (defArgs s_law) (defBody s_law) (defScope s_law) .none kV26 dc26 pm26 an26 cd26 ct26, fun s v => .of_eq rfl, fun base _ _ => ok_law ⟨_, _, F0, b0, PySem.W.mg_of X G a0, _, _, F1, b1, PySem.W.mg_of X G a1, _, _, F2, b2, PySem.W.mg_of X G a2, _, _, F3, b3, PySem.W.mg_of X G a3, _, _, F4, b4, PySem.W.mg_of X G a4, _, _, F5, b5, PySem.W.mg_of X G a5, _, _, F6, b6, PySem.W.mg_of X G a6, _, _, F7, b7, PySem.W.mg_of X G a7, _, _, F8, b8, PySem.W.mg_of X G a8, _, _, F9, b9, PySem.W.mg_of X G a9, _, _, F10, b10, PySem.W.mg_of X G a10, _, _, F11, b11, PySem.W.mg_of X G a11, _, _, F12, b12, PySem.W.mg_of X G a12, _, _, F13, b13, PySem.W.mg_of X G a13, _, _, F14, b14, PySem.W.mg_of X G a14, _, _, F15, b15, PySem.W.mg_of X G a15, _, _, F16, b16, PySem.W.mg_of X G a16, _, _, F17, b17, PySem.W.mg_of X G a17, _, _, F18, b18, PySem.W.mg_of X G a18, _, _, F19, b19, PySem.W.mg_of X G a19, _, _, F20, b20, PySem.W.mg_of X G a20, _, _, F21, b21, PySem.W.mg_of X G a21, _, _, F22, b22, PySem.W.mg_of X G a22, _, _, F23, b23, PySem.W.mg_of X G a23, _, _, F24, b24, PySem.W.mg_of X G a24, _, _, F25, b25, PySem.W.mg_of X G a25, _, _, F26, PySem.W.mg_none_of X G z_bool, PySem.W.mg_none_of X G z_dict, PySem.W.mg_none_of X G z_enumerate, PySem.W.mg_none_of X G z_int, PySem.W.mg_none_of X G z_isinstance, PySem.W.mg_none_of X G z_len, PySem.W.mg_none_of X G z_list, PySem.W.mg_none_of X G z_max, PySem.W.mg_none_of X G z_min, PySem.W.mg_none_of X G z_range, PySem.W.mg_none_of X G z_set, PySem.W.mg_none_of X G z_sorted, PySem.W.mg_none_of X G z_str, PySem.W.mg_none_of X G z_tuple, PySem.W.mg_none_of X G z_zip, rfl, ct_LETTERS, PySem.W.mg_of X G cg_LETTERS, ct_MOST_NODES, PySem.W.mg_of X G cg_MOST_NODES⟩⟩
end W

namespace W
open PySem VL
/-! steps -/
section
variable {α β : Type}
@[simp] theorem sx_ob (a : α) (k : α → Res β) : ob (some a) k = k a := rfl
@[simp] theorem sx_rb (a : α) (k : α → Res β) : rb (.ok a) k = k a := rfl
@[simp] theorem sx_on1 {Z R Q : Type} (z : Z) (a : Z → Res Q) (b : R → Res Q) : Fl.on (.nx z) a b = a z := rfl
@[simp] theorem sx_on2 {Z R Q : Type} (z : R) (a : Z → Res Q) (b : R → Res Q) : Fl.on (.rt z) a b = b z := rfl
end
@[simp] theorem sx_t0 {a : D} {l : List D} : ixD (.tup (a :: l)) (.int 0) = some a := ix_t (i := 0) rfl
@[simp] theorem sx_t1 {a b : D} {l : List D} : ixD (.tup (a :: b :: l)) (.int 1) = some b := ix_t (i := 1) rfl
@[simp] theorem sx_t2 {a b c : D} {l : List D} : ixD (.tup (a :: b :: c :: l)) (.int 2) = some c := ix_t (i := 2) rfl
@[simp] theorem sx_t3 {a b c d : D} {l : List D} : ixD (.tup (a :: b :: c :: d :: l)) (.int 3) = some d := ix_t (i := 3) rfl
@[simp] theorem sx_l0 {a : D} {l : List D} : ixD (.lst (a :: l)) (.int 0) = some a := ix_l (i := 0) rfl
@[simp] theorem sx_l1 {a b : D} {l : List D} : ixD (.lst (a :: b :: l)) (.int 1) = some b := ix_l (i := 1) rfl
@[simp] theorem sx_l2 {a b c : D} {l : List D} : ixD (.lst (a :: b :: c :: l)) (.int 2) = some c := ix_l (i := 2) rfl
@[simp] theorem sx_eqs (a b : List Nat) : eqD (.str a) (.str b) = some (a == b) := eq_str
@[simp] theorem sx_nes (a b : List Nat) : neD (.str a) (.str b) = some (!(a == b)) := ne_str
theorem eq_int {a b : Int} : eqD (.int a) (.int b) = some (a == b) := by
  unfold eqD
  rw [if_pos ⟨rfl, rfl, Nat.zero_le _⟩]
  simp [D.eqv]
@[simp] theorem sx_eqi (a b : Int) : eqD (.int a) (.int b) = some (a == b) := eq_int
@[simp] theorem sx_nei (a b : Int) : neD (.int a) (.int b) = some (!(a == b)) := by unfold neD; rw [eq_int]; rfl
@[simp] theorem sx_asL (l : List D) : asLst (.lst l) = some l := rfl
@[simp] theorem sx_asS (l : List Nat) : asStr (.str l) = some l := rfl
@[simp] theorem sx_asB (b : Bool) : asB (.bl b) = some b := rfl
@[simp] theorem sx_asI (b : Int) : asI (.int b) = some b := rfl
@[simp] theorem sx_len (l : List D) : lenD (.lst l) = some (.int l.length) := rfl
@[simp] theorem sx_lent (l : List D) : lenD (.tup l) = some (.int l.length) := rfl
@[simp] theorem sx_add (a b : Int) : addD (.int a) (.int b) = some (.int (a + b)) := rfl
@[simp] theorem sx_sub (a b : Int) : subD (.int a) (.int b) = some (.int (a - b)) := rfl
@[simp] theorem sx_neg (a : Int) : negD (.int a) = some (.int (-a)) := rfl
@[simp] theorem sx_lt (a b : Int) : ltD (.int a) (.int b) = some (decide (a < b)) := rfl
@[simp] theorem sx_le (a b : Int) : leD (.int a) (.int b) = some (decide (a ≤ b)) := rfl
@[simp] theorem sx_gt (a b : Int) : gtD (.int a) (.int b) = some (decide (b < a)) := rfl
@[simp] theorem sx_ge (a b : Int) : geD (.int a) (.int b) = some (decide (b ≤ a)) := rfl
@[simp] theorem sx_min (a b : Int) : minD (.int a) (.int b) = some (.int (if b < a then b else a)) := rfl
@[simp] theorem sx_max (a b : Int) : maxD (.int a) (.int b) = some (.int (if b > a then b else a)) := rfl
@[simp] theorem sx_list (l : List D) : listD (.lst l) = some l := rfl
@[simp] theorem sx_listT (l : List D) : listD (.tup l) = some l := rfl
@[simp] theorem sx_un2 (a b : D) : un2 (.tup [a, b]) = some (a, b) := rfl
@[simp] theorem sx_un3 (a b c : D) : un3 (.tup [a, b, c]) = some (a, b, c) := rfl
@[simp] theorem sx_un4 (a b c d : D) : un4 (.tup [a, b, c, d]) = some (a, b, c, d) := rfl
@[simp] theorem sx_isKs (a : List Nat) : isK (.str a) .str = some true := rfl
@[simp] theorem sx_isKl (a : List D) : isK (.lst a) .list = some true := rfl
@[simp] theorem sx_isKt (a : List D) : isK (.tup a) .tuple = some true := rfl
@[simp] theorem sx_intB (b : Bool) : intD (.bl b) = some (.int (if b then 1 else 0)) := rfl
@[simp] theorem sx_intI (b : Int) : intD (.int b) = some (.int b) := rfl
/-! small lists -/
theorem pigeon {α : Type} [DecidableEq α] : ∀ {a b : List α}, a.Nodup → (∀ x ∈ a, x ∈ b) → a.length ≤ b.length
  | [], _, _, _ => Nat.zero_le _
  | x :: r, b, nd, h => by
    have hx : x ∈ b := h x List.mem_cons_self
    rw [List.nodup_cons] at nd
    have := pigeon (a := r) (b := b.erase x) nd.2 fun y hy => by
      have : y ≠ x := fun e => nd.1 (e ▸ hy)
      exact (List.mem_erase_of_ne this).mpr (h y (List.mem_cons_of_mem _ hy))
    rw [List.length_erase_of_mem hx] at this
    have : 0 < b.length := List.length_pos_of_mem hx
    simp only [List.length_cons]; omega
theorem ix_neg1 {l : List D} {d : D} (h : l[l.length - 1]? = some d) (hl : 0 < l.length) : ixD (.lst l) (.int (-1)) = some d := by
  show L2.atI l _ = _
  unfold L2.atI L2.ixN
  rw [if_neg (by omega), if_pos (by omega), show ((-1 : Int) + l.length).toNat = l.length - 1 by omega]
  exact h
theorem ix_sn {s : List Nat} {i c : Nat} (h : s[i]? = some c) (hl : s.length ≤ 1000) : ixD (.str s) (.int (i : Nat)) = some (.str [c]) := ix_s h (by omega)
theorem slS_to {s : List Nat} {n : Nat} (h : n ≤ s.length) (hl : s.length ≤ 1000) : slS none (some (n : Nat)) (.str s) = some (.str (s.take n)) := by
  show (if s.length ≤ 16777216 then _ else none) = _
  rw [if_pos (by omega), cut_to _ _ h]
theorem slS_from {s : List Nat} {n : Nat} (h : n ≤ s.length) (hl : s.length ≤ 1000) : slS (some (n : Nat)) none (.str s) = some (.str (s.drop n)) := by
  show (if s.length ≤ 16777216 then _ else none) = _
  rw [if_pos (by omega), cut_from _ _ h]
theorem strsD_map : ∀ l : List (List Nat), strsD (l.map D.str) = some l
  | [] => rfl
  | x :: r => by
    show (strsD (r.map D.str)).map (x :: ·) = _
    rw [strsD_map r]; rfl
theorem joinS_nil : ∀ l : List (List Nat), joinS [] l = l.flatten
  | [] => rfl
  | [x] => by simp [joinS]
  | x :: y :: r => by
    show x ++ [] ++ joinS [] (y :: r) = _
    rw [joinS_nil (y :: r)]; simp
/-! draws out of a deck -/
def St3 (l : List D) : Prop := ∃ a b c : Int, l = [.int a, .int b, .int c]
structure Dk (d : List (List D) × D) : Prop where
  n0 : 0 < d.1.length
  n1 : d.1.length ≤ 1000
  c : ∃ c : Int, d.2 = .int c
  p : ∀ l ∈ d.1, St3 l
theorem Dk.set {d : List (List D) × D} (h : Dk d) (j : Nat) {l : List D} (hl : St3 l) (c : Int) : Dk (d.1.set j l, .int c) :=
  ⟨by simpa using h.n0, by simpa using h.n1, ⟨c, rfl⟩, fun x hx => by
    rcases List.mem_or_eq_of_mem_set hx with h1 | h1
    · exact h.p x h1
    · exact h1 ▸ hl⟩
end W
namespace W
open PySem VL
/-! a comprehension with its turn -/
theorem sat_fmSn {Z : Type} {f : Z → D → Res (Option D × Z)} {I : Nat → Z → List D → Prop} : ∀ (ds : List D) (z0 : Z) (acc : List D) (n : Nat), I n z0 acc → (∀ i z d acc, ds[i]? = some d → I (n + i) z acc → Sat (f z d) (fun o => I (n + i + 1) o.2 (accD acc o.1))) → Sat (fmS ds z0 f) (fun p => I (n + ds.length) p.2 (acc ++ p.1))
  | [], z0, acc, n, h0, _ => ⟨_, rfl, by show I (n + 0) z0 (acc ++ []); rw [List.append_nil]; exact h0⟩
  | d :: r, z0, acc, n, h0, h => by
    refine sat_rb (h 0 z0 d acc rfl h0) fun o ho => ?_
    have := sat_fmSn r o.2 (accD acc o.1) (n + 1) ho fun i z d acc e hi => by
      have := h (i + 1) z d acc (by simpa using e) (by rw [show n + (i + 1) = n + 1 + i by omega]; exact hi)
      rwa [show n + (i + 1) = n + 1 + i by omega] at this
    refine sat_rb this fun q hq => ⟨_, rfl, ?_⟩
    rw [show n + 1 + r.length = n + (d :: r).length by simp; omega] at hq
    cases e : o.1 with
    | none => rw [e] at hq; exact hq
    | some y =>
      rw [e] at hq
      have : acc ++ [y] ++ q.1 = acc ++ (y :: q.1) := by simp
      rw [← this]; exact hq
def rngL (n : Nat) : List D := (List.range n).map fun k => .int (k : Nat)
theorem rng_n {n : Nat} (h : n ≤ 16777216) : rngD (.int 0) (.int (n : Nat)) = some (rngL n) := rng0 h
theorem rngL_len (n : Nat) : (rngL n).length = n := by simp [rngL]
theorem rngL_get {n i : Nat} {d : D} (h : (rngL n)[i]? = some d) : i < n ∧ d = .int (i : Nat) := by
  have hi : i < n := by
    have := (List.getElem?_eq_some_iff.mp h).1
    simpa [rngL] using this
  refine ⟨hi, ?_⟩
  rw [rngL, List.getElem?_map, List.getElem?_range hi] at h
  cases h; rfl
/-! texts -/
def chD (c : Nat) : D := .str [c]
theorem strLD_eq {s : List Nat} (h : s.length ≤ 1000) : strLD (.str s) = some (s.map chD) := by
  show (if s.length ≤ 16777216 then _ else none) = _
  rw [if_pos (by omega)]; rfl
theorem strsD_ch : ∀ s : List Nat, strsD (s.map chD) = some (s.map fun c => [c])
  | [] => rfl
  | c :: r => by
    show (strsD (r.map chD)).map ([c] :: ·) = _
    rw [strsD_ch r]; rfl
theorem join_ch {s : List Nat} (h : s.length ≤ 1000) : joinD (.str []) (.lst (s.map chD)) = some (.str s) := by
  show (match strsD (s.map chD) with | some ys => _ | none => none) = _
  rw [strsD_ch]
  have e1 : ((s.map fun c => [c]).map List.length).sum = s.length := by
    clear h
    induction s with
    | nil => rfl
    | cons c r ih => simp at ih ⊢; omega
  have e2 : (s.map fun c => [c]).flatten = s := by
    clear h e1
    induction s with
    | nil => rfl
    | cons c r ih => simp at ih ⊢; exact ih
  simp only
  rw [if_pos (by rw [e1]; simp; omega), joinS_nil, e2]
def Low (s : List Nat) : Prop := ∀ c ∈ s, 97 ≤ c ∧ c ≤ 122
structure Word (w : List Nat) : Prop where
  l0 : 1 ≤ w.length
  l1 : w.length ≤ 8
  lo : Low w
theorem Low.app {a b : List Nat} (h : Low a) (k : Low b) : Low (a ++ b) := fun c hc => (List.mem_append.mp hc).elim (h c) (k c)
theorem Low.take {a : List Nat} (h : Low a) (n : Nat) : Low (a.take n) := fun c hc => h c (List.mem_of_mem_take hc)
theorem Low.drop {a : List Nat} (h : Low a) (n : Nat) : Low (a.drop n) := fun c hc => h c (List.mem_of_mem_drop hc)
theorem Low.one {c : Nat} (h : 97 ≤ c ∧ c ≤ 122) : Low [c] := fun x hx => by
  rw [List.mem_singleton] at hx; subst hx; exact h
def dn (l : List (List Nat)) : List D := l.map .str
theorem dn_len (l : List (List Nat)) : (dn l).length = l.length := by simp [dn]
theorem dn_get {l : List (List Nat)} {i : Nat} {w : List Nat} (h : l[i]? = some w) : (dn l)[i]? = some (.str w) := by simp [dn, h]
theorem dn_flat (l : List (List Nat)) : (dn l).all D.flat = true := by
  simp [dn, List.all_eq_true]; intro x _; rfl
theorem dn_plain (l : List (List Nat)) : D.plains (dn l) = true := by
  rw [plains_iff]
  intro d hd
  simp only [dn, List.mem_map] at hd
  obtain ⟨_, _, rfl⟩ := hd; rfl
theorem dn_dep (l : List (List Nat)) : D.deps (dn l) = 0 := by
  have := deps_le (l := dn l) (n := 0) fun d hd => by
    simp only [dn, List.mem_map] at hd
    obtain ⟨_, _, rfl⟩ := hd; exact Nat.zero_le _
  omega
theorem in_dn (w : List Nat) (l : List (List Nat)) : inD (.str w) (.lst (dn l)) = some (decide (w ∈ l)) := by
  show (if _ then _ else none) = _
  rw [if_pos ⟨rfl, dn_flat l⟩]
  congr 1
  rw [Bool.eq_iff_iff, List.any_eq_true, decide_eq_true_iff]
  constructor
  · rintro ⟨d, hd, e⟩
    simp only [dn, List.mem_map] at hd
    obtain ⟨v, hv, rfl⟩ := hd
    simp only [D.eqv, beq_iff_eq] at e
    exact e ▸ hv
  · intro h
    exact ⟨.str w, by simp only [dn, List.mem_map]; exact ⟨w, h, rfl⟩, by simp [D.eqv]⟩
theorem addS {a b : List Nat} (h : a.length + b.length ≤ 1000) : addD (.str a) (.str b) = some (.str (a ++ b)) := add_s (by omega)
end W
namespace W
open PySem VL
theorem fmR_xs {α : Type} {e : α → D} {f : D → Res (Option D)} {g : α → Option D} : ∀ (xs : List α), (∀ x ∈ xs, f (e x) = .ok (g x)) → fmR (xs.map e) f = .ok (xs.filterMap g)
  | [], _ => rfl
  | x :: r, h => by
    show rb (f (e x)) _ = _
    rw [h x List.mem_cons_self]
    show rb (fmR (r.map e) f) _ = _
    rw [fmR_xs r fun y hy => h y (List.mem_cons_of_mem _ hy)]
    rw [List.filterMap_cons]
    cases g x <;> rfl
theorem filterMap_if {α β : Type} (p : α → Bool) (f : α → β) : ∀ xs : List α, xs.filterMap (fun x => if p x = true then some (f x) else none) = (xs.filter p).map f
  | [] => rfl
  | x :: r => by
    rw [List.filterMap_cons, List.filter_cons, filterMap_if p f r]
    cases p x <;> rfl
theorem eq_bl (a b : Bool) : eqD (.bl a) (.bl b) = some (a == b) := by
  unfold eqD
  rw [if_pos ⟨rfl, rfl, Nat.zero_le _⟩]
  simp [D.eqv]
@[simp] theorem sx_eqb (a b : Bool) : eqD (.bl a) (.bl b) = some (a == b) := eq_bl a b
@[simp] theorem sx_neb (a b : Bool) : neD (.bl a) (.bl b) = some (!(a == b)) := by unfold neD; rw [eq_bl]; rfl
theorem dnp (l : List (List Nat)) : (D.lst (dn l)).plain = true := by simp only [D.plain]; exact dn_plain _
end W

namespace W
open PySem VL
abbrev abc : List Nat := [97, 98, 99, 100, 101, 102, 103, 104, 105, 106, 107, 108, 109, 110, 111, 112, 113, 114, 115, 116, 117, 118, 119, 120, 121, 122]
theorem abc_get {k : Nat} (h : k < 26) : ixD (.str abc) (.int (k : Nat)) = some (.str [97 + k]) := by
  refine ix_sn ?_ (by decide)
  have : ∀ k : Fin 26, abc[k.1]? = some (97 + k.1) := by decide
  exact this ⟨k, h⟩
def rep8 (t : Nat) : List Nat := List.replicate 8 (97 + t)
theorem rep8_word {t : Nat} (h : t < 26) : Word (rep8 t) := ⟨by simp [rep8], by simp [rep8], fun c hc => by
  simp only [rep8, List.mem_replicate] at hc
  omega⟩
theorem rep8_inj {a b : Nat} (h : rep8 a = rep8 b) : a = b := by
  have := congrArg (fun l : List Nat => l.getD 0 0) h
  simp [rep8] at this
  exact this
theorem mulS_8 (t : Nat) : mulS (.str [97 + t]) (.int 8) = some (.str (rep8 t)) := by
  show (if 0 ≤ (8 : Int) ∧ (8 : Int) ≤ 1000000 ∧ [97 + t].length * (8 : Int).toNat ≤ 16777216 then some (D.str (List.replicate (8 : Int).toNat [97 + t]).flatten) else none) = _
  rw [if_pos ⟨by decide, by decide, by simp⟩]
  rfl
/-- a name that is not among the found ones -/
theorem fresh_ok (found : List (List Nat)) (hl : found.length ≤ 20) (w : List Nat) (hw : Word w) :
    Sat (whileN (Z := (D × D)) FU (.str w, .int 0) (fun z => ob (inD z.1 (.lst (dn found))) fun t => .ok t) fun z => ob (ixD (.str q_abcdefghijklmnopqrstuvwxyz) z.2) fun t89 => ob (mulS t89 (.int 8)) fun t88 => ob (addD z.2 (.int 1)) fun t90 => .ok (t88, t90))
      (fun z => ∃ v, z.1 = .str v ∧ Word v ∧ v ∉ found) := by
  let I : D × D → Prop := fun z => ∃ (v : List Nat) (t : Nat), z = (.str v, .int (t : Nat)) ∧ Word v ∧ (∀ j, j + 1 < t → rep8 j ∈ found) ∧ (0 < t → v = rep8 (t - 1)) ∧ t ≤ 21
  let μ : D × D → Nat := fun z => match z.2 with | .int t => 30 - t.toNat | _ => 0
  refine Sat.mono (sat_whileN (I := I) (E := fun z => ∀ v, z.1 = .str v → v ∉ found) (μ := μ) (fun z ⟨v, t, e, wv, hj, ht, hb⟩ => ?_) FU _ ⟨w, 0, rfl, hw, fun j hj => absurd hj (by omega), fun h => absurd h (by omega), by omega⟩ (by show 30 - _ < FU; unfold FU; omega)) fun z ⟨⟨v, t, e, wv, _⟩, hE⟩ => ⟨v, by rw [e], wv, hE v (by rw [e])⟩
  subst e
  by_cases hin : v ∈ found
  · refine .inr ⟨by show ob (inD (.str v) (.lst (dn found))) _ = _; rw [in_dn]; simp [hin], ?_⟩
    have all : ∀ j, j < t → rep8 j ∈ found := fun j hj' => by
      by_cases h : j + 1 < t
      · exact hj j h
      · have : j = t - 1 := by omega
        rw [this, ← ht (by omega)]; exact hin
    have tb : t ≤ found.length := by
      have := pigeon (a := (List.range t).map rep8) (b := found) (by
        rw [List.nodup_iff_pairwise_ne, List.pairwise_map]
        exact List.Pairwise.imp (fun h e => h (rep8_inj e)) List.nodup_range) fun x hx => by
          simp only [List.mem_map, List.mem_range] at hx
          obtain ⟨j, hj', rfl⟩ := hx
          exact all j hj'
      simpa using this
    refine sat_ob (abc_get (by omega)) (sat_ob (mulS_8 t) ?_)
    · refine sat_ok ⟨⟨rep8 t, t + 1, rfl, rep8_word (by omega), fun j hj' => all j (by omega), fun _ => rfl, by omega⟩, ?_⟩
      show 30 - ((t : Int) + 1).toNat < 30 - ((t : Nat) : Int).toNat
      omega
  · refine .inl ⟨by show ob (inD (.str v) (.lst (dn found))) _ = _; rw [in_dn]; simp [hin], fun v' e => by cases e; exact hin⟩
end W

namespace W
open PySem VL
/-! sorted, of names -/
def leN (a b : List Nat) : Bool := decide (a ≤ b)
theorem leD_str (a b : List Nat) : leD' (.str a) (.str b) = leN a b := by
  have h := congrFun (congrFun (PySem.W.dataLe_str (β := List Nat) mkS) a) b
  rw [mkS_cps, mkS_cps] at h
  exact h
theorem sort_dn {l : List (List Nat)} (h : l.length ≤ 1000) : sortD (.lst (dn l)) = some (dn (l.mergeSort leN)) := by
  have hok : sortOk (dn l) = true := by
    simp only [sortOk, Bool.and_eq_true, Bool.or_eq_true, decide_eq_true_eq]
    refine ⟨⟨⟨⟨dn_plain l, by rw [dn_dep]; omega⟩, ?_⟩, .inr ?_⟩, by rw [dn_len]; omega⟩
    · refine List.all_eq_true.mpr fun x hx => List.all_eq_true.mpr fun y hy => ?_
      obtain ⟨a, _, rfl⟩ := List.mem_map.mp hx
      obtain ⟨b, _, rfl⟩ := List.mem_map.mp hy
      rfl
    · refine List.all_eq_true.mpr fun x hx => ?_
      obtain ⟨a, _, rfl⟩ := List.mem_map.mp hx
      rfl
  show (if sortOk (dn l) = true then some ((dn l).mergeSort leD') else none) = _
  rw [if_pos hok]
  congr 1
  exact (List.map_mergeSort fun a _ b _ => (leD_str a b).symm).symm
theorem leN_total (a b : List Nat) : (leN a b || leN b a) = true := by
  simp only [leN, Bool.or_eq_true, decide_eq_true_eq]
  exact List.le_total a b
theorem leN_trans (a b c : List Nat) (h : leN a b = true) (k : leN b c = true) : leN a c = true := by
  simp only [leN, decide_eq_true_eq] at *
  exact List.le_trans h k
theorem leN_anti {a b : List Nat} (h : leN a b = true) (k : leN b a = true) : a = b := by
  simp only [leN, decide_eq_true_eq] at *
  exact List.le_antisymm h k
theorem sort_perm {a b : List (List Nat)} (h : a.Perm b) : a.mergeSort leN = b.mergeSort leN := by
  refine List.Perm.eq_of_pairwise (le := fun x y => leN x y = true) (fun x y _ _ h k => leN_anti h k) ?_ ?_ ?_
  · exact List.pairwise_mergeSort leN_trans leN_total a
  · exact List.pairwise_mergeSort leN_trans leN_total b
  · exact (List.mergeSort_perm a leN).trans (h.trans (List.mergeSort_perm b leN).symm)
end W

namespace W
open PySem VL
/-! dicts by texts -/
section
variable {β : Type}
def dict (e : β → D) (f : List (List Nat × β)) : List (D × D) := f.map fun h => (D.str h.1, e h.2)
def ky (f : List (List Nat × β)) : List (List Nat) := f.map (·.1)
def lk (f : List (List Nat × β)) (w : List Nat) : Option β := (f.find? fun h => h.1 == w).map (·.2)
def stk (f : List (List Nat × β)) (w : List Nat) (b : β) : List (List Nat × β) := if w ∈ ky f then f.map (fun h => if h.1 = w then (h.1, b) else h) else f ++ [(w, b)]
variable {e : β → D}
theorem ky_app (f g : List (List Nat × β)) : ky (f ++ g) = ky f ++ ky g := by simp [ky]
theorem dict_find (w : List Nat) : ∀ f : List (List Nat × β), findD (dict e f) (.str w) = (lk f w).map e
  | [] => rfl
  | h :: r => by
    have ih := dict_find w r
    unfold findD lk dict at *
    rw [List.map_cons, List.find?_cons, List.find?_cons]
    have : D.eqv (D.str h.1) (.str w) = (h.1 == w) := by simp [D.eqv]
    simp only [this]
    cases h.1 == w
    · exact ih
    · rfl
theorem lk_of {f : List (List Nat × β)} (nd : (ky f).Nodup) {w : List Nat} {b : β} (h : (w, b) ∈ f) : lk f w = some b := by
  induction f with
  | nil => cases h
  | cons p r ih =>
    rw [show ky (p :: r) = p.1 :: ky r from rfl, List.nodup_cons] at nd
    unfold lk
    rw [List.find?_cons]
    rcases List.mem_cons.mp h with h1 | h1
    · subst h1; simp
    · have : (p.1 == w) = false := by
        simp
        intro z
        subst z
        exact nd.1 (List.mem_map.mpr ⟨_, h1, rfl⟩)
      rw [this]
      exact ih nd.2 h1
theorem dict_get {w : List Nat} {f : List (List Nat × β)} {b : β} (h : lk f w = some b) : dgetD (.dct false (dict e f)) (.str w) = some (e b) := by
  show (if keyOk false (D.str w) = true then findD (dict e f) (.str w) else none) = _
  rw [if_pos (show keyOk false (D.str w) = true from rfl), dict_find, h]; rfl
theorem dict_any (w : List Nat) (f : List (List Nat × β)) : ((dict e f).any fun kv => D.eqv kv.1 (.str w)) = decide (w ∈ ky f) := by
  rw [Bool.eq_iff_iff, decide_eq_true_iff, ky, List.mem_map]
  simp [dict, D.eqv]
theorem dict_store (w : List Nat) (f : List (List Nat × β)) (b : β) : storeD (dict e f) (.str w) (e b) = dict e (stk f w b) := by
  unfold storeD stk
  rw [dict_any]
  by_cases h : w ∈ ky f
  · rw [if_pos (by simpa using h), if_pos h]
    simp only [dict, List.map_map]
    refine List.map_congr_left fun p _ => ?_
    simp only [Function.comp, D.eqv, beq_iff_eq]
    by_cases e : p.1 = w
    · simp [e]
    · simp [e]
  · rw [if_neg (by simpa using h), if_neg h]
    simp [dict]
theorem stk_new {f : List (List Nat × β)} {w : List Nat} (b : β) (h : w ∉ ky f) : stk f w b = f ++ [(w, b)] := by unfold stk; rw [if_neg h]
end
end W

namespace W
open PySem VL
/-! draws out of a pool -/
theorem popAt_l {l : List D} {i : Nat} {d : D} (h : l[i]? = some d) : popAtL l (.int (i : Nat)) = some (d, l.eraseIdx i) := by
  have hl := (List.getElem?_eq_some_iff.mp h).1
  have e : L2.ixN l.length (i : Int) = some i := by simp [L2.ixN]; omega
  simp only [popAtL, e, h]
def PSt (b : Nat) (l : List D) : Prop := ∃ c f s : Int, l = [.int c, .int f, .int s] ∧ 0 ≤ s ∧ s ≤ b
theorem PSt.up {a b : Nat} {l : List D} (h : PSt a l) (hab : a ≤ b) : PSt b l := by
  obtain ⟨c, f, s, e, h0, h1⟩ := h
  exact ⟨c, f, s, e, h0, by omega⟩
theorem ptake_ok {l : List D} {b n : Nat} (h : PSt b l) (hb : b ≤ 1000000) (h0 : 0 < n) (h1 : n < 1073741824) : Sat (m__law_take l (.int (n : Nat))) (fun r => (∃ k : Nat, r.1 = .int (k : Nat) ∧ k < n) ∧ PSt (b + 1) r.2) := by
  obtain ⟨c, f, s, rfl, s0, s1⟩ := h
  unfold m__law_take
  refine sat_ob (c := D.int f) rfl (sat_ob (sx_eqi _ _) (sat_if (fun hg => ?_) fun hg => ?_))
  · refine sat_ob (c := D.int c) rfl (sat_ob (mod_i (by omega)) (sat_ob (c := D.int c) rfl (sat_ob (fdiv_i (by omega)) (sat_ob (c := [.int (c / n), .int f, .int s]) rfl (sat_ok ⟨⟨(c % n).toNat, ?_, ?_⟩, _, _, _, rfl, s0, by omega⟩)))))
    · have := Int.emod_nonneg c (show (n : Int) ≠ 0 by omega)
      show D.int (c % n) = _
      rw [Int.toNat_of_nonneg this]
    · have := Int.emod_nonneg c (show (n : Int) ≠ 0 by omega)
      have := Int.emod_lt_of_pos c (show (0 : Int) < n by omega)
      omega
  · refine sat_ob (c := D.int s) rfl (sat_ob (c := D.int (s + 1)) rfl (sat_ob (c := [.int c, .int f, .int (s + 1)]) rfl ?_))
    refine sat_ob (c := D.int (s + 1)) rfl (sat_ob (c := D.int c) rfl (sat_ob (mod_i (by decide)) (sat_ob (c := D.int (c % 9999999607 + 991)) rfl (sat_ob (mul_l (by decide)) (sat_ob (c := D.int (29 * (s + 1) + 59)) rfl ?_)))))
    have u0 := Int.emod_nonneg c (show (9999999607 : Int) ≠ 0 by decide)
    have u1 := Int.emod_lt_of_pos c (show (0 : Int) < 9999999607 by decide)
    have u2 : 0 ≤ c % 9999999607 + 991 := by omega
    have u3 : c % 9999999607 + 991 ≤ 10000000598 := by omega
    clear u0 u1
    generalize c % 9999999607 + 991 = u at *
    have v0 : 0 ≤ 29 * (s + 1) + 59 := by omega
    have v1 : 29 * (s + 1) + 59 ≤ 30000000 := by omega
    generalize 29 * (s + 1) + 59 = v at *
    have huv0 : 0 ≤ u * v := Int.mul_nonneg (by omega) v0
    have huv1 : u * v ≤ 10000000598 * 30000000 := Int.mul_le_mul (by omega) v1 v0 (by decide)
    refine sat_ob (mul_l (by omega)) (sat_ob (mul_l (by decide)) (sat_ob (mul_r (by omega)) (sat_ob (c := D.int (u * v + 3517 * (s + 1) * (s + 1))) rfl ?_)))
    have w0 : 0 ≤ 3517 * (s + 1) * (s + 1) := Int.mul_nonneg (by omega) (by omega)
    have w1 : 3517 * (s + 1) * (s + 1) ≤ 3517000000000 * 1000001 := Int.mul_le_mul (by omega) (by omega) (by omega) (by decide)
    generalize 3517 * (s + 1) * (s + 1) = w at *
    generalize u * v = uv at *
    refine sat_ob (mul_l (by omega)) (sat_ob (mod_i (by decide)) ?_)
    have x0 := Int.emod_nonneg ((uv + w) * (uv + w)) (show (99999999647 : Int) ≠ 0 by decide)
    have x1 := Int.emod_lt_of_pos ((uv + w) * (uv + w)) (show (0 : Int) < 99999999647 by decide)
    generalize (uv + w) * (uv + w) % 99999999647 = x at *
    refine sat_ob (c := D.int (x + 41)) rfl (sat_ob (mul_l (by omega)) (sat_ob (mod_i (by decide)) (sat_ob (fdiv_i (by decide)) (sat_ob (mod_i (by omega)) ?_))))
    generalize x * (x + 41) % 99999999923 / 89 = t
    refine sat_ok ⟨⟨(t % n).toNat, ?_, ?_⟩, _, _, _, rfl, by omega, by omega⟩
    · have := Int.emod_nonneg t (show (n : Int) ≠ 0 by omega)
      show D.int (t % n) = _
      rw [Int.toNat_of_nonneg this]
    · have := Int.emod_nonneg t (show (n : Int) ≠ 0 by omega)
      have := Int.emod_lt_of_pos t (show (0 : Int) < n by omega)
      omega
theorem pool_ok (ns : List Int) (h : ns.length ≤ 63) (k : Nat) (hk0 : k ≤ 100) : Sat (m__law_pool (.lst (ns.map .int)) (.int (k : Nat))) (PSt 10000) := by
  unfold m__law_pool
  refine sat_rb (P := fun d => ∃ c : Int, d = .int c) ?_ fun z ⟨c, e⟩ => ?_
  · refine sat_ob (by rw [sx_len, List.length_map]) (sat_ob (sx_lt _ _) (sat_if (fun hk => ?_) fun _ => sat_ok ⟨_, rfl⟩))
    have hk' : k < ns.length := by simpa using hk
    exact sat_ob (ix_l (d := .int ns[k]) (by simp [hk'])) (sat_ok ⟨_, rfl⟩)
  · subst e
    refine sat_ob (c := .int (10 ^ 18)) rfl (sat_ob (c := decide ((10 : Int) ^ 18 ≤ c)) rfl (sat_if (fun _ => ?_) fun _ => ?_))
    · exact sat_ob (c := .int (10 ^ 18)) rfl (sat_ob (c := .int (c - 10 ^ 18)) rfl (sat_ok ⟨_, _, _, rfl, by omega, by omega⟩))
    · exact sat_ob (mul_l (by decide)) (sat_ok ⟨_, _, _, rfl, by omega, by omega⟩)
/-- one drawn letter -/
theorem pletter_ok {d : List D} {b : Nat} (h : PSt b d) (hb : b ≤ 1000000) {β : Type} {g : D → List D → Res β} {Q : β → Prop} (hk : ∀ c d', 97 ≤ c ∧ c ≤ 122 → PSt (b + 1) d' → Sat (g (chD c) d') Q) : Sat (rb (m__law_take d (.int 26)) fun r => ob (ixD (.str q_abcdefghijklmnopqrstuvwxyz) r.1) fun t => g t r.2) Q := by
  refine sat_rb (ptake_ok (n := 26) h hb (by decide) (by decide)) fun r ⟨⟨k, e, hk'⟩, dk⟩ => ?_
  rw [e]
  exact sat_ob (abc_get hk') (hk _ _ ⟨by omega, by omega⟩ dk)
theorem pletters_ok {d : List D} {b : Nat} (h : PSt b d) (n : Nat) (hb : b + n ≤ 1000000) : Sat (fmS (rngL n) d fun z _ => rb (m__law_take z (.int 26)) fun r => ob (ixD (.str q_abcdefghijklmnopqrstuvwxyz) r.1) fun t => .ok (some t, r.2)) (fun p => PSt (b + n) p.2 ∧ ∃ s : List Nat, p.1 = s.map chD ∧ s.length = n ∧ Low s) := by
  have := sat_fmSn (f := fun z _ => rb (m__law_take z (.int 26)) fun r => ob (ixD (.str q_abcdefghijklmnopqrstuvwxyz) r.1) fun t => .ok (some t, r.2)) (I := fun i z acc => i ≤ n → PSt (b + i) z ∧ ∃ s : List Nat, acc = s.map chD ∧ s.length = i ∧ Low s) (rngL n) d [] 0 (fun _ => ⟨h, [], rfl, rfl, fun c hc => by cases hc⟩) fun i z x acc hx hz => by
    rw [Nat.zero_add] at hz ⊢
    have hi := (rngL_get hx).1
    obtain ⟨hz, s, e, hl, lo⟩ := hz (by omega)
    refine pletter_ok (g := fun t d' => .ok (some t, d')) hz (by omega) fun c d' hc hd => sat_ok fun _ => ⟨hd, s ++ [c], ?_, by simp [hl], lo.app (.one hc)⟩
    show acc ++ [chD c] = _
    rw [e]; simp
  refine Sat.mono this fun p q => ?_
  obtain ⟨a, s, e, hl, lo⟩ := q (by rw [rngL_len]; omega)
  rw [rngL_len, Nat.zero_add] at a hl
  exact ⟨a, s, by simpa using e, hl, lo⟩
theorem pnames_ok {d : List D} {b : Nat} (h : PSt b d) (hb : b ≤ 100000) {many : Nat} (hm : many ≤ 20) : Sat (m__law_names d (.int (many : Nat))) (fun r => ∃ ns : List (List Nat), r.1 = dn ns ∧ ns.length = many ∧ ns.Nodup ∧ (∀ w ∈ ns, Word w) ∧ PSt (b + 1000) r.2) := by
  unfold m__law_names
  refine sat_rb (ptake_ok (n := 4) h (by omega) (by decide) (by decide)) fun r2 ⟨⟨k, ek, hk⟩, dk2⟩ => ?_
  rw [ek]
  obtain ⟨stem, estem, l5, lo5⟩ : ∃ w : List Nat, ixD (.lst [(.str q_abcdefg), (.str q_placeof), (.str q_zyxwvut), (.str q_kjqrshn)]) (.int (k : Nat)) = some (.str w) ∧ w.length = 7 ∧ Low w := by
    have key : ∀ k : Fin 4, ∃ w, ([q_abcdefg, q_placeof, q_zyxwvut, q_kjqrshn] : List (List Nat))[k.1]? = some w ∧ (w.length = 7 ∧ ∀ c ∈ w, 97 ≤ c ∧ c ≤ 122) := by
      intro k
      match k with
      | 0 => exact ⟨_, rfl, by decide⟩
      | 1 => exact ⟨_, rfl, by decide⟩
      | 2 => exact ⟨_, rfl, by decide⟩
      | 3 => exact ⟨_, rfl, by decide⟩
    obtain ⟨w, e, h1, h2⟩ := key ⟨k, hk⟩
    exact ⟨w, ix_l (l := dn [q_abcdefg, q_placeof, q_zyxwvut, q_kjqrshn]) (dn_get e), h1, h2⟩
  refine sat_ob estem (sat_ob (rng_n (by omega)) ?_)
  let I : Nat → (List D × List D) → Prop := fun i z => i ≤ many → PSt (b + 1 + 20 * i) z.1 ∧ ∃ ns : List (List Nat), z.2 = dn ns ∧ ns.length = i ∧ ns.Nodup ∧ ∀ w ∈ ns, Word w
  refine sat_rb (sat_forN (I := I) (rngL many) (r2.2, []) 0 (fun _ => ⟨dk2, [], rfl, rfl, List.nodup_nil, fun w hw => by cases hw⟩) fun i z x hx hz => ?_) fun z q => by
    obtain ⟨dk, ns, e, hl, nd, hw⟩ := q (by rw [rngL_len]; omega)
    exact sat_ok ⟨ns, e, by rw [hl, rngL_len]; omega, nd, hw, dk.up (by rw [rngL_len]; omega)⟩
  rw [Nat.zero_add] at hz ⊢
  have hi := (rngL_get hx).1
  obtain ⟨z1, z2⟩ := z
  obtain ⟨dk1, ns, e, hl, nd, hws⟩ := hz (by omega)
  dsimp only at e dk1
  subst e
  dsimp only
  generalize hB : b + 1 + 20 * i = B at dk1
  refine sat_rb (ptake_ok (n := 8) dk1 (by omega) (by decide) (by decide)) fun r9 ⟨⟨a, ea, ha⟩, dk9⟩ => ?_
  rw [ea]
  refine sat_ob rfl (sat_ob (slS_to (by omega) (by omega)) ?_)
  refine sat_rb (ptake_ok (n := 26) dk9 (by omega) (by decide) (by decide)) fun r11 ⟨⟨k11, e11, h11⟩, hd⟩ => ?_
  rw [e11]
  refine sat_ob (abc_get h11) ?_
  have hc : 97 ≤ 97 + k11 ∧ 97 + k11 ≤ 122 := ⟨by omega, by omega⟩
  generalize 97 + k11 = c at hc
  refine sat_ob (addS (by simp; omega)) (sat_rb (ptake_ok (n := 3) hd (by omega) (by decide) (by decide)) fun r12 ⟨⟨way, ew, _⟩, dk12⟩ => ?_)
  have w0 : Word (stem.take a ++ [c]) := ⟨by simp, by simp; omega, (lo5.take a).app (.one hc)⟩
  rw [ew]
  refine sat_rb (P := fun z => PSt (B + 12) z.2 ∧ ∃ w, z.1 = .str w ∧ Word w) ?_ fun z24 ⟨dk24, w24, e24, hw24⟩ => ?_
  · refine sat_ob (sx_eqi _ _) (sat_if (fun _ => ?_) fun _ => sat_ok ⟨dk12.up (by omega), _, rfl, w0⟩)
    refine sat_ob rfl (sat_rb (ptake_ok (n := 8) dk12 (by omega) (by decide) (by decide)) fun r33 ⟨⟨m, em, hm2⟩, dk33⟩ => ?_)
    rw [em]
    refine sat_ob (c := D.int ((m + 1 : Nat) : Int)) (by rw [sx_add]; congr 2; omega) (sat_ob (rng_n (by omega)) (sat_rb (pletters_ok dk33 (m + 1) (by omega)) fun p ⟨dk4, s, es, ls, lo⟩ => ?_))
    rw [es]
    exact sat_ob (join_ch (by omega)) (sat_ok ⟨dk4.up (by omega), s, rfl, by omega, by omega, lo⟩)
  -- the last one, changed
  refine sat_rb (P := fun z => PSt (B + 14) z.1 ∧ ∃ w, z.2 = .str w ∧ Word w) ?_ fun z58 ⟨dk58, w58, e58, hw58⟩ => ?_
  · refine sat_ob (sx_eqi _ _) ?_
    refine sat_rb (P := fun p => p.1 = true → 0 < ns.length) (sat_if (fun _ => ?_) fun _ => sat_ok fun h => by cases h) fun p59 hp59 => sat_if (fun hp => ?_) fun _ => sat_ok ⟨dk24.up (by omega), w24, e24, hw24⟩
    · refine sat_ob (ne_nil (dn_plain ns) (by rw [dn_dep]; omega)) (sat_ok fun h => ?_)
      cases ns with
      | nil => cases h
      | cons _ _ => simp
    · have hpos := hp59 hp
      obtain ⟨last, hlast⟩ : ∃ last, ns[ns.length - 1]? = some last := ⟨_, List.getElem?_eq_getElem (by omega)⟩
      have hwl := hws last (List.mem_of_getElem? hlast)
      have ixl : ixD (.lst (dn ns)) (.int (-1)) = some (.str last) := ix_neg1 (by rw [dn_len]; exact dn_get hlast) (by rw [dn_len]; exact hpos)
      have l0 := hwl.l0
      have l1 := hwl.l1
      simp only [sx_neg, sx_ob, ixl]
      refine sat_ob (len_s (by omega)) (sat_rb (ptake_ok dk24 (by omega) hwl.l0 (by omega)) fun r ⟨⟨a, ea, ha⟩, dk⟩ => ?_)
      rw [ea]
      refine sat_ob rfl (sat_ob (slS_to (by omega) (by omega)) ?_)
      refine pletter_ok (g := fun t72 d' => ob (addD (.str (last.take a)) t72) fun t67 => ob (addD (.int (a : Nat)) (.int 1)) fun t78 => ob (asI t78) fun t77 => ob (slS (some t77) none (.str last)) fun t74 => ob (addD t67 t74) fun t66 => .ok (d', t66)) dk (by omega) fun c d' hc hd => ?_
      refine sat_ob (addS (by simp; omega)) ?_
      simp only [sx_add, sx_ob, sx_asI]
      rw [show ((a : Int) + 1) = ((a + 1 : Nat) : Int) by omega]
      refine sat_ob (slS_from (by omega) (by omega)) (sat_ob (addS (by simp; omega)) (sat_ok ⟨hd, _, rfl, by simp; omega, by simp; omega, ((hwl.lo.take a).app (.one hc)).app (hwl.lo.drop _)⟩))
  rw [e58]
  refine sat_rb (fresh_ok ns (by omega) w58 hw58) fun z ⟨v, ev, hv, hn⟩ => ?_
  rw [ev]
  refine sat_ob (ap_l (by rw [dn_len]; omega)) (sat_ok fun _ => ⟨dk58.up (by omega), ns ++ [v], by simp [dn], by simp [hl], ?_, fun w hw => ?_⟩)
  · rw [List.nodup_append]
    exact ⟨nd, by simp, fun x hx y hy => by simp at hy; subst hy; intro e; subst e; exact hn hx⟩
  · rcases List.mem_append.mp hw with h | h
    · exact hws w h
    · rw [List.mem_singleton.mp h]; exact hv
theorem erase_permD {α : Type} {l : List α} {k : Nat} (h : k < l.length) : List.Perm l (l[k] :: l.eraseIdx k) := by
  rw [List.eraseIdx_eq_take_drop_succ]
  have e : l = l.take k ++ l[k] :: l.drop (k + 1) := by rw [List.getElem_cons_drop, List.take_append_drop]
  refine List.Perm.trans ?_ List.perm_middle
  rw [← e]
/-- things in a drawn order -/
theorem porder_ok {d : List D} {b : Nat} (h : PSt b d) {row : List D} (hl : row.length ≤ 1000) (hp : D.plains row = true) (hdp : ∀ x ∈ row, x.dep ≤ 60) (hb : b + row.length ≤ 900000) : Sat (m__law_order d (.lst row)) (fun r => r.1.Perm row ∧ PSt (b + row.length) r.2) := by
  unfold m__law_order
  refine sat_ob (sx_list _) ?_
  let I : (List D × List D × List D) → Prop := fun z => (z.1 ++ z.2.1).Perm row ∧ PSt (b + z.1.length) z.2.2
  refine sat_rb (sat_whileN (I := I) (E := fun z => z.2.1 = []) (μ := fun z => z.2.1.length) (fun z ⟨hz1, hz2⟩ => ?_) FU _ ⟨by simp, h⟩ (by show row.length < FU; unfold FU; omega)) fun z ⟨⟨hz1, hz2⟩, hE⟩ => ?_
  · have pz : D.plains z.2.1 = true := plains_iff.mpr fun x hx => plains_iff.mp hp x (hz1.mem_iff.mp (List.mem_append_right _ hx))
    have dz : D.deps z.2.1 ≤ 60 := deps_le fun x hx => hdp x (hz1.mem_iff.mp (List.mem_append_right _ hx))
    have hlen := hz1.length_eq
    rw [List.length_append] at hlen
    by_cases he : z.2.1 = []
    · exact .inl ⟨by rw [he]; rfl, he⟩
    · refine .inr ⟨of_sat (sat_ob (ne_nil pz dz) (sat_ok (by cases hz : z.2.1 with | nil => exact absurd hz he | cons _ _ => rfl))), ?_⟩
      have hpos : 0 < z.2.1.length := List.length_pos_iff.mpr he
      refine sat_ob (sx_len _) (sat_rb (ptake_ok hz2 (by omega) hpos (by omega)) fun r ⟨⟨k, ek, hk⟩, dk⟩ => ?_)
      rw [ek]
      refine sat_ob (popAt_l (List.getElem?_eq_getElem hk)) (sat_ob (ap_l (by omega)) (sat_ok ⟨⟨?_, dk.up (by simp; omega)⟩, ?_⟩))
      · refine List.Perm.trans ?_ hz1
        rw [List.append_assoc]
        exact List.Perm.append_left _ (erase_permD hk).symm
      · show (z.2.1.eraseIdx k).length < z.2.1.length
        rw [List.length_eraseIdx_of_lt hk]; omega
  · rw [hE, List.append_nil] at hz1
    exact sat_ok ⟨hz1, hz2.up (by have := hz1.length_eq; omega)⟩
theorem psize_ok {d : List D} {b : Nat} (h : PSt b d) (hb : b ≤ 900000) : Sat (m__law_size d) (fun r => (∃ k : Nat, r.1 = .int (k : Nat) ∧ 1 ≤ k ∧ k ≤ 40) ∧ PSt (b + 4) r.2) := by
  unfold m__law_size
  refine sat_rb (ptake_ok (n := 6) h (by omega) (by decide) (by decide)) fun r1 ⟨⟨k1, e1, h1⟩, d1⟩ => ?_
  rw [e1]
  refine sat_ob (c := D.int ((1 + k1 : Nat) : Int)) (by rw [sx_add]; congr 2) (sat_rb (ptake_ok (n := 16) d1 (by omega) (by decide) (by decide)) fun r2 ⟨⟨k2, e2, h2⟩, d2⟩ => ?_)
  rw [e2]
  refine sat_ob (c := D.int ((1 + k2 : Nat) : Int)) (by rw [sx_add]; congr 2) (sat_rb (ptake_ok (n := 40) d2 (by omega) (by decide) (by decide)) fun r3 ⟨⟨k3, e3, h3⟩, d3⟩ => ?_)
  rw [e3]
  refine sat_ob (c := D.int ((1 + k3 : Nat) : Int)) (by rw [sx_add]; congr 2) (sat_rb (ptake_ok (n := 3) d3 (by omega) (by decide) (by decide)) fun r4 ⟨⟨k4, e4, h4⟩, d4⟩ => ?_)
  rw [e4]
  match k4, h4 with
  | 0, _ => exact sat_ob (ix_l (i := 0) rfl) (sat_ok ⟨⟨_, rfl, by omega, by omega⟩, d4⟩)
  | 1, _ => exact sat_ob (ix_l (i := 1) rfl) (sat_ok ⟨⟨_, rfl, by omega, by omega⟩, d4⟩)
  | 2, _ => exact sat_ob (ix_l (i := 2) rfl) (sat_ok ⟨⟨_, rfl, by omega, by omega⟩, d4⟩)
end W

namespace W
open PySem VL
/-! sheets whose nodes that can be come to have rows -/
def Bits (s : List Nat) : Prop := ∀ c ∈ s, c = 48 ∨ c = 49
def flipC (c : Nat) : Nat := if c = 48 then 49 else 48
def flipS (s : List Nat) (i : Nat) : List Nat := s.take i ++ [flipC (s.getD i 0)] ++ s.drop (i + 1)
theorem flipS_len {s : List Nat} {i : Nat} (h : i < s.length) : (flipS s i).length = s.length := by
  simp [flipS]; omega
theorem flipS_bits {s : List Nat} {i : Nat} (b : Bits s) : Bits (flipS s i) := by
  intro c hc
  simp only [flipS, List.mem_append, List.mem_singleton] at hc
  rcases hc with (hc | hc) | hc
  · exact b c (List.mem_of_mem_take hc)
  · subst hc; unfold flipC; split <;> simp
  · exact b c (List.mem_of_mem_drop hc)
theorem int_bit {c : Nat} (h : c = 48 ∨ c = 49) : intD (.str [c]) = some (.int (if c = 48 then (0 : Nat) else 1 : Nat)) := by
  have e0 : PySem.intText? (mkS [48]) = some 0 := by decide +kernel
  have e1 : PySem.intText? (mkS [49]) = some 1 := by decide +kernel
  rcases h with rfl | rfl
  · simp [intD, e0]
  · simp [intD, e1]
theorem turned_ok {s : List Nat} {i : Nat} (b : Bits s) (h : i < s.length) (hz : s.length ≤ 1000) : m__law_turned (.str s) (.int (i : Nat)) = .ok (.str (flipS s i)) := by
  refine of_sat ?_
  unfold m__law_turned
  have hc : s[i]? = some s[i] := List.getElem?_eq_getElem h
  have hb := b _ (List.getElem_mem h)
  refine sat_ob (c := ((i : Nat) : Int)) rfl (sat_ob (c := D.str (s.take i)) ?_ (sat_ob (ix_s hc (by omega)) (sat_ob (int_bit hb) (sat_ob (c := D.str [flipC s[i]]) ?_ ?_))))
  · show (if s.length ≤ 16777216 then _ else none) = _
    rw [if_pos (by omega), cut_to _ _ (by omega)]
  · rcases hb with e | e <;> rw [e] <;> rfl
  refine sat_ob (c := D.str (s.take i ++ [flipC s[i]])) (add_s (by simp; omega)) (sat_ob (c := D.int (i + 1)) rfl (sat_ob (c := (i : Int) + 1) rfl (sat_ob (c := D.str (s.drop (i + 1))) ?_ (sat_ob (c := D.str (flipS s i)) ?_ (sat_ok rfl)))))
  · show (if s.length ≤ 16777216 then _ else none) = _
    rw [if_pos (by omega), show ((i : Int) + 1) = ((i + 1 : Nat) : Int) by omega, cut_from _ _ (by omega)]
  · rw [add_s (by simp; omega)]
    simp only [flipS]
    rw [List.getD_eq_getElem?_getD, hc]; rfl
/-! names -/
theorem index_ok {ns : List (List Nat)} (nd : ns.Nodup) {i : Nat} (h : i < ns.length) : indexD (.lst (dn ns)) (.str ns[i]) = some (.int (i : Nat)) := by
  show (if _ then _ else none) = _
  rw [if_pos ⟨rfl, dn_flat ns⟩]
  have : (dn ns).findIdx? (fun d => D.eqv d (.str ns[i])) = some i := by
    rw [List.findIdx?_eq_some_iff_getElem]
    refine ⟨by simpa [dn] using h, by simp [dn, D.eqv], fun j hj => ?_⟩
    simp only [dn, List.getElem_map, D.eqv, Bool.not_eq_true, beq_eq_false_iff_ne]
    intro e
    have := (List.getElem_inj nd).mp e
    omega
  rw [this]; rfl
theorem num_bit {c : Nat} (h : c = 48 ∨ c = 49) : strI (.int (1 - (if c = 48 then (0 : Nat) else 1 : Nat))) = some (.str [flipC c]) := by
  have e0 : numS 0 = [48] := by decide +kernel
  have e1 : numS 1 = [49] := by decide +kernel
  rcases h with rfl | rfl
  · show strI (.int 1) = _
    simp [strI, e1, flipC]
  · show strI (.int 0) = _
    simp [strI, e0, flipC]
theorem behind_ok {ns : List (List Nat)} (nd : ns.Nodup) {s : List Nat} {i : Nat} (b : Bits s) (hl : s.length = ns.length) (h : i < ns.length) (hz : s.length ≤ 1000) :
    m_behind_turn (.lst (dn ns)) (.str s) (.str ns[i]) = .ok (.str (flipS s i)) := by
  refine of_sat ?_
  unfold m_behind_turn
  have hi : i < s.length := by omega
  have hc : s[i]? = some s[i] := List.getElem?_eq_getElem hi
  have hb := b _ (List.getElem_mem hi)
  refine sat_ob (c := dn ns) rfl (sat_ob (index_ok nd h) (sat_ob (c := ((i : Nat) : Int)) rfl (sat_ob (c := D.str (s.take i)) ?_ (sat_ob (ix_s hc (by omega)) (sat_ob (int_bit hb) (sat_ob (c := D.int (1 - (if s[i] = 48 then (0 : Nat) else 1 : Nat))) rfl (sat_ob (num_bit hb) ?_)))))))
  · show (if s.length ≤ 16777216 then _ else none) = _
    rw [if_pos (by omega), cut_to _ _ (by omega)]
  refine sat_ob (c := D.str (s.take i ++ [flipC s[i]])) (add_s (by simp; omega)) (sat_ob (c := D.int (i + 1)) rfl (sat_ob (c := (i : Int) + 1) rfl (sat_ob (c := D.str (s.drop (i + 1))) ?_ (sat_ob (c := D.str (flipS s i)) ?_ (sat_ok rfl)))))
  · show (if s.length ≤ 16777216 then _ else none) = _
    rw [if_pos (by omega), show ((i : Int) + 1) = ((i + 1 : Nat) : Int) by omega, cut_from _ _ (by omega)]
  · rw [add_s (by simp; omega)]
    simp only [flipS]
    rw [List.getD_eq_getElem?_getD, hc]; rfl
abbrev Turn := List Nat × Nat
def tD (p : Turn) : D := .tup [.str p.1, .int (p.2 : Nat)]
def nD (nodes : List (List Turn)) : List (List D) := nodes.map (·.map tD)
def NL (nodes : List (List Turn)) : D := .lst ((nD nodes).map .lst)
def rw_ (rows : List (List Nat)) (i : Nat) : List Nat := rows.getD i []
def nx (nodes : List (List Turn)) (i : Nat) : List Turn := nodes.getD i []
inductive Reach (nodes : List (List Turn)) : Nat → Prop
  | zero : Reach nodes 0
  | step {i : Nat} {p : Turn} : Reach nodes i → p ∈ nx nodes i → Reach nodes p.2
structure Good (ns rows : List (List Nat)) (nodes : List (List Turn)) : Prop where
  nd : ns.Nodup
  nl : ns.length ≤ 100
  nn : nodes.length ≤ 1000
  lt : ∀ i, Reach nodes i → i < nodes.length
  rl : ∀ i, Reach nodes i → (rw_ rows i).length = ns.length ∧ Bits (rw_ rows i)
  el : ∀ i, (nx nodes i).length ≤ 1000
  ex : ∀ i, ∀ p ∈ nx nodes i, p.2 < nodes.length
  dk : ∀ i, Reach nodes i → ((nx nodes i).map (·.1)).Nodup
  ed : ∀ i, Reach nodes i → ∀ p ∈ nx nodes i, ∃ a, ∃ h : a < ns.length, p.1 = ns[a] ∧ rw_ rows p.2 = flipS (rw_ rows i) a
theorem nodup_le : ∀ (n : Nat) (l : List Nat), l.Nodup → (∀ i ∈ l, i < n) → l.length ≤ n
  | 0, l, _, h => by
    cases l with
    | nil => exact Nat.le_refl _
    | cons a r => exact absurd (h a List.mem_cons_self) (Nat.not_lt_zero _)
  | n + 1, l, nd, h => by
    have ih := nodup_le n (l.erase n) (nd.erase n) fun i hi => by
      have h1 := (nd.mem_erase_iff).mp hi
      have := h i h1.2
      omega
    have := List.length_erase (a := n) (l := l)
    split at this <;> omega
theorem seen_le {ns rows : List (List Nat)} {nodes : List (List Turn)} (g : Good ns rows nodes) {seen : List Nat} (nd : seen.Nodup) (h : ∀ i ∈ seen, Reach nodes i) : seen.length ≤ nodes.length :=
  nodup_le _ _ nd fun i hi => g.lt i (h i hi)
theorem node_at {nodes : List (List Turn)} {i : Nat} (h : i < nodes.length) : ixD (NL nodes) (.int (i : Nat)) = some (.lst ((nx nodes i).map tD)) := by
  refine ix_l ?_
  simp [nD, nx, h]
/-! the dict -/
def FD (rows : List (List Nat)) (seen : List Nat) : List (D × D) := seen.map fun i => (D.int (i : Nat), D.str (rw_ rows i))
theorem fd_find (rows : List (List Nat)) (i : Nat) : ∀ seen : List Nat, findD (FD rows seen) (.int (i : Nat)) = if i ∈ seen then some (.str (rw_ rows i)) else none
  | [] => rfl
  | j :: r => by
    have ih := fd_find rows i r
    unfold findD FD at ih ⊢
    rw [List.map_cons, List.find?_cons]
    by_cases e : j = i
    · subst e
      simp [D.eqv]
    · have : D.eqv (D.int (j : Nat)) (.int (i : Nat)) = false := by simp [D.eqv]; omega
      rw [this]
      simp only [List.mem_cons]
      rw [ih]
      have e' : ¬ i = j := fun z => e z.symm
      simp [e']
theorem fd_get {rows : List (List Nat)} {seen : List Nat} {i : Nat} (h : i ∈ seen) : dgetD (.dct false (FD rows seen)) (.int (i : Nat)) = some (.str (rw_ rows i)) := by
  simp only [dgetD]
  rw [if_pos (show keyOk false (D.int (i : Nat)) = true from rfl), fd_find, if_pos h]
theorem fd_in {rows : List (List Nat)} {seen : List Nat} {i : Nat} : dinD (.int (i : Nat)) (.dct false (FD rows seen)) = some (decide (i ∈ seen)) := by
  simp only [dinD]
  rw [if_pos (show keyOk false (D.int (i : Nat)) = true from rfl), fd_find]
  by_cases h : i ∈ seen <;> simp [h]
theorem fd_put {rows : List (List Nat)} {seen : List Nat} {i : Nat} (h : i ∉ seen) (hl : seen.length < 16777216) : dputD false (FD rows seen) (.int (i : Nat)) (.str (rw_ rows i)) = some (FD rows (seen ++ [i])) := by
  unfold dputD
  rw [if_pos ⟨rfl, by simpa [FD] using hl⟩]
  unfold storeD
  have : ((FD rows seen).any fun kv => D.eqv kv.1 (.int (i : Nat))) = false := by
    rw [List.any_eq_false]
    intro kv hkv
    simp only [FD, List.mem_map] at hkv
    obtain ⟨j, hj, rfl⟩ := hkv
    simp only [D.eqv, beq_iff_eq]
    intro e
    have : j = i := by omega
    subst this; exact h hj
  rw [this]
  simp [FD]
def wD (w : List Nat) : List D := w.map fun i => .int (i : Nat)
theorem wD_plain (w : List Nat) : D.plains (wD w) = true := by
  rw [plains_iff]
  intro d hd
  simp only [wD, List.mem_map] at hd
  obtain ⟨_, _, rfl⟩ := hd; rfl
theorem wD_dep (w : List Nat) : D.deps (wD w) ≤ 60 := by
  refine deps_le fun d hd => ?_
  simp only [wD, List.mem_map] at hd
  obtain ⟨_, _, rfl⟩ := hd; exact Nat.zero_le _
section
variable {ns rows : List (List Nat)} {nodes : List (List Turn)} (g : Good ns rows nodes)
include g
/-- what stands in the middle of rows_of -/
structure Mid (c : Nat) (skip : Option Nat) (seen wait : List Nat) : Prop where
  nd : seen.Nodup
  ws : ∀ i ∈ wait, i ∈ seen
  re : ∀ i ∈ seen, Reach nodes i
  z : 0 ∈ seen
  cl : ∀ i ∈ seen, i ∉ wait → skip ≠ some i → ∀ p ∈ nx nodes i, p.2 ∈ seen
  ct : seen.length = wait.length + c
end
theorem rows_ok {ns rows : List (List Nat)} {nodes : List (List Turn)} (g : Good ns rows nodes) :
    Sat (m_rows_of (.lst (dn ns)) (.str (rw_ rows 0)) (NL nodes)) (fun d => ∃ seen : List Nat, d = .dct false (FD rows seen) ∧ seen.Nodup ∧ ∀ i, i ∈ seen ↔ Reach nodes i) := by
  unfold m_rows_of
  refine sat_if (fun _ => ?_) (fun h => absurd rfl h)
  let I : (List D × List (D × D)) → Prop := fun z => ∃ c seen wait, z.1 = wD wait ∧ z.2 = FD rows seen ∧ Mid (nodes := nodes) c none seen wait
  let μ : (List D × List (D × D)) → Nat := fun z => nodes.length + z.1.length - z.2.length
  refine sat_rb (P := fun o => ∃ z, o = .nx z ∧ I z ∧ z.1 = []) (sat_while (I := I) (E := fun z => z.1 = []) (μ := μ) (fun z hz => ?_) _ _ ?_ ?_) fun o ho => ?_
  · obtain ⟨c, seen, wait, e1, e2, m⟩ := hz
    obtain ⟨z1, z2⟩ := z
    dsimp only at e1 e2
    subst e1 e2
    by_cases hw : wait = []
    · subst hw
      refine .inl ⟨of_sat (sat_ob (ne_nil rfl (Nat.zero_le _)) (sat_ok rfl)), rfl⟩
    · refine .inr ⟨of_sat (sat_ob (ne_nil (wD_plain _) (wD_dep _)) (sat_ok ?_)), ?_⟩
      · cases wait with
        | nil => exact absurd rfl hw
        | cons _ _ => rfl
      -- the last one
      obtain ⟨w0, here, rfl⟩ : ∃ w0 h, wait = w0 ++ [h] := ⟨wait.dropLast, wait.getLast hw, (List.dropLast_concat_getLast hw).symm⟩
      have hs : here ∈ seen := m.ws _ (by simp)
      have hr := m.re _ hs
      have hlt := g.lt _ hr
      have hp : popL (wD (w0 ++ [here])) = some (.int (here : Nat), wD w0) := by
        unfold popL wD
        simp
      refine sat_ob hp (sat_ob (node_at hlt) (sat_ob (c := (nx nodes here).map tD) rfl ?_))
      let J : Nat → (List (D × D) × List D) → Prop := fun n z => ∃ seen wait, z.1 = FD rows seen ∧ z.2 = wD wait ∧ Mid (nodes := nodes) (c + 1) (some here) seen wait ∧ here ∈ seen ∧ ∀ j, j < n → ∀ p, (nx nodes here)[j]? = some p → p.2 ∈ seen
      have j0 : J 0 (FD rows seen, wD w0) := by
        refine ⟨seen, w0, rfl, rfl, ⟨m.nd, fun i hi => m.ws i (by simp [hi]), m.re, m.z, fun i hi hw2 hne => m.cl i hi ?_ (by simp), ?_⟩, hs, fun j hj => absurd hj (Nat.not_lt_zero _)⟩
        · intro z
          rcases List.mem_append.mp z with z | z
          · exact hw2 z
          · exact hne (by rw [List.mem_singleton.mp z])
        · have := m.ct
          simp at this
          omega
      refine sat_rb (sat_forL (I := J) ((nx nodes here).map tD) _ 0 j0 fun n z d hd hJ => ?_) fun o ho => ?_
      · rw [Nat.zero_add] at hJ
        obtain ⟨z1, z2⟩ := z
        obtain ⟨se, wa, e1, e2, mm, hh, hn⟩ := hJ
        dsimp only at e1 e2
        subst e1 e2
        rw [List.getElem?_map] at hd
        cases ep : (nx nodes here)[n]? with
        | none => rw [ep] at hd; cases hd
        | some p =>
          rw [ep] at hd
          cases hd
          have pm : p ∈ nx nodes here := List.mem_of_getElem? ep
          obtain ⟨a, ha, pa, pr⟩ := g.ed here hr p pm
          have rl := g.rl here hr
          refine sat_ob (c := (.str p.1, .int (p.2 : Nat))) rfl (sat_ob (fd_get hh) (sat_rbe (r := .str (rw_ rows p.2)) ?_ ?_))
          · have := behind_ok g.nd (s := rw_ rows here) (i := a) rl.2 rl.1 ha (by have := g.nl; omega)
            show m_behind_turn _ _ (.str p.1) = _
            rw [pa, pr]; exact this
          refine sat_ob fd_in (sat_if (fun hnot => ?_) fun hin => ?_)
          · have hnot : p.2 ∉ se := by simpa using hnot
            have lse := seen_le g mm.nd mm.re
            have nn := g.nn
            have ct := mm.ct
            refine sat_ob (fd_put hnot (by omega)) (sat_ob (ap_l (by simp [wD]; omega)) (sat_ok ⟨_, rfl, se ++ [p.2], wa ++ [p.2], rfl, by simp [wD], ⟨?_, ?_, ?_, ?_, ?_, ?_⟩, ?_, ?_⟩))
            · rw [List.nodup_append]
              exact ⟨mm.nd, by simp, fun x hx y hy => by simp at hy; subst hy; intro e; subst e; exact hnot hx⟩
            · intro i hi
              rcases List.mem_append.mp hi with hi | hi
              · exact List.mem_append_left _ (mm.ws i hi)
              · exact List.mem_append_right _ hi
            · intro i hi
              rcases List.mem_append.mp hi with hi | hi
              · exact mm.re i hi
              · rw [List.mem_singleton.mp hi]; exact .step hr pm
            · exact List.mem_append_left _ mm.z
            · intro i hi hw2 hne q hq
              rcases List.mem_append.mp hi with hi | hi
              · exact List.mem_append_left _ (mm.cl i hi (fun z => hw2 (List.mem_append_left _ z)) hne q hq)
              · exact absurd (List.mem_append_right _ hi) hw2
            · simp; omega
            · exact List.mem_append_left _ hh
            · intro j hj q hq
              by_cases e : j < n
              · exact List.mem_append_left _ (hn j e q hq)
              · have : j = n := by omega
                subst this
                rw [ep] at hq; cases hq
                exact List.mem_append_right _ (by simp)
          · have hin : p.2 ∈ se := by simpa using hin
            refine sat_ob (fd_get hin) (sat_ob ne_str (sat_if (fun h => by simp at h) fun _ => sat_ok ⟨_, rfl, se, wa, rfl, rfl, mm, hh, fun j hj q hq => ?_⟩))
            by_cases e : j < n
            · exact hn j e q hq
            · have : j = n := by omega
              subst this
              rw [ep] at hq; cases hq
              exact hin
      · obtain ⟨z', rfl, se, wa, e1, e2, mm, hh, hn⟩ := ho
        obtain ⟨z1, z2⟩ := z'
        dsimp only at e1 e2
        subst e1 e2
        have lse := seen_le g mm.nd mm.re
        have ct := mm.ct
        have ct0 := m.ct
        refine ⟨_, rfl, _, rfl, ⟨c + 1, se, wa, rfl, rfl, ⟨mm.nd, mm.ws, mm.re, mm.z, fun i hi hw2 _ p hpm => ?_, mm.ct⟩⟩, ?_⟩
        · by_cases e : i = here
          · subst e
            obtain ⟨j, hj, ej⟩ := List.getElem_of_mem hpm
            exact hn j (by simpa using hj) p (by rw [List.getElem?_eq_getElem hj, ej])
          · exact mm.cl i hi hw2 (fun z => e (Option.some.inj z).symm) p hpm
        · show nodes.length + (wD wa).length - (FD rows se).length < nodes.length + (wD (w0 ++ [here])).length - (FD rows seen).length
          simp only [wD, FD, List.length_map, List.length_append, List.length_singleton] at *
          omega
  · refine ⟨0, [0], [0], rfl, rfl, ⟨by simp, fun i hi => hi, fun i hi => ?_, by simp, fun i hi hn => absurd hi hn, rfl⟩⟩
    rw [List.mem_singleton.mp hi]; exact .zero
  · show nodes.length + 1 - 1 < FU
    have := g.nn
    unfold FU; omega
  · obtain ⟨z, rfl, ⟨c, seen, wait, e1, e2, m⟩, e3⟩ := ho
    refine sat_ok ⟨seen, by rw [e2], m.nd, fun i => ⟨m.re i, fun h => ?_⟩⟩
    have hw : wait = [] := by
      rw [e3] at e1
      cases wait with
      | nil => rfl
      | cons _ _ => cases e1
    subst hw
    induction h with
    | zero => exact m.z
    | step a b ih => exact m.cl _ ih (by simp) (by simp) _ b
open Classical in
noncomputable def dueL (rows : List (List Nat)) (nodes : List (List Turn)) : List D := (List.range nodes.length).map fun i => if Reach nodes i then D.str (rw_ rows i) else .non
def sheetD (ni : Nat) (ns rows : List (List Nat)) (nodes : List (List Turn)) : D := .tup [.lst (dn (ns.take ni)), .lst (dn (ns.drop ni)), .str (rw_ rows 0), NL nodes]
theorem names_cat {ni : Nat} {ns : List (List Nat)} (h : ns.length ≤ 100) : catD (.lst (dn (ns.take ni))) (.lst (dn (ns.drop ni))) = some (dn ns) := by
  rw [cat_l (by simp [dn]; omega)]
  unfold dn
  rw [← List.map_append, List.take_append_drop]
def FL (rows : List (List Nat)) (n : Nat) (seen : List Nat) : List D := (List.range n).map fun i => if i ∈ seen then D.str (rw_ rows i) else .non
theorem due_eq {rows : List (List Nat)} {nodes : List (List Turn)} {seen : List Nat} (h : ∀ i, i ∈ seen ↔ Reach nodes i) : FL rows nodes.length seen = dueL rows nodes := by
  unfold FL dueL
  refine List.map_congr_left fun i _ => ?_
  by_cases r : Reach nodes i
  · rw [if_pos r, if_pos ((h i).mpr r)]
  · rw [if_neg r, if_neg fun z => r ((h i).mp z)]
theorem signs_ok {ni : Nat} {ns rows : List (List Nat)} {nodes : List (List Turn)} (g : Good ns rows nodes) : m_signs_of (sheetD ni ns rows nodes) = .ok (dueL rows nodes) := by
  refine of_sat ?_
  unfold m_signs_of
  have nn := g.nn
  refine sat_ob (c := (.lst (dn (ns.take ni)), .lst (dn (ns.drop ni)), .str (rw_ rows 0), NL nodes)) rfl (sat_ob (names_cat g.nl) (sat_rb (rows_ok g) fun d hd => ?_))
  obtain ⟨seen, rfl, nd, hs⟩ := hd
  refine sat_ob (c := D.int nodes.length) (by show some (D.int _) = _; simp [nD]) (sat_ob (rng0 (by omega)) (sat_rbe (fmR_map (g := fun d => match d with | .int i => if i.toNat ∈ seen then D.str (rw_ rows i.toNat) else .non | _ => .non) _ fun d hd => ?_) (sat_ok ?_)))
  · simp only [List.mem_map, List.mem_range] at hd
    obtain ⟨i, hi, rfl⟩ := hd
    refine of_sat (sat_ob (c := (false, FD rows seen)) rfl (sat_ob (c := if i ∈ seen then D.str (rw_ rows i) else .non) ?_ (sat_ok (by simp))))
    simp only [dget1D]
    rw [if_pos (show keyOk false (D.int (i : Nat)) = true from rfl), fd_find]
    by_cases h : i ∈ seen <;> simp [h]
  · rw [← due_eq hs]
    unfold FL
    rw [List.map_map]
    refine List.map_congr_left fun i _ => ?_
    simp
end W

namespace W
open PySem VL
theorem wD_len (w : List Nat) : (wD w).length = w.length := by simp [wD]
theorem sheet0 {ni : Nat} {ns rows : List (List Nat)} {nodes : List (List Turn)} : ixD (sheetD ni ns rows nodes) (.int 0) = some (.lst (dn (ns.take ni))) := rfl
theorem sheet1 {ni : Nat} {ns rows : List (List Nat)} {nodes : List (List Turn)} : ixD (sheetD ni ns rows nodes) (.int 1) = some (.lst (dn (ns.drop ni))) := rfl
theorem sheet2 {ni : Nat} {ns rows : List (List Nat)} {nodes : List (List Turn)} : ixD (sheetD ni ns rows nodes) (.int 2) = some (.str (rw_ rows 0)) := rfl
theorem sheet3 {ni : Nat} {ns rows : List (List Nat)} {nodes : List (List Turn)} : ixD (sheetD ni ns rows nodes) (.int 3) = some (NL nodes) := rfl
structure Bid (nodes : List (List Turn)) (a : Nat) (seen : List Nat) : Prop where
  nd : seen.Nodup
  re : ∀ i ∈ seen, Reach nodes i
  z : 0 ∈ seen
  cl : ∀ j, j < a → ∀ i, seen[j]? = some i → ∀ p ∈ nx nodes i, p.2 ∈ seen
end W

namespace W
open PySem VL
theorem be (b : Bool) : eqD (.bl b) (.bl b) = some true := eq_same rfl (by simp [D.dep])
end W

namespace W
open PySem VL
/-! a drawn sheet -/
theorem perm_map_inv {α β : Type} {g : α → β} {l : List β} {m : List β} (h : l.Perm m) : ∀ xs : List α, m = xs.map g → ∃ ys : List α, l = ys.map g ∧ ys.Perm xs := by
  induction h with
  | nil => intro xs e; cases xs with
    | nil => exact ⟨[], rfl, .nil⟩
    | cons _ _ => cases e
  | cons x p ih => intro xs e; cases xs with
    | nil => cases e
    | cons a r =>
      simp only [List.map_cons, List.cons.injEq] at e
      obtain ⟨ys, e2, p2⟩ := ih r e.2
      exact ⟨a :: ys, by rw [List.map_cons, ← e2, e.1], p2.cons a⟩
  | swap x y l => intro xs e; cases xs with
    | nil => cases e
    | cons a r => cases r with
      | nil => simp at e
      | cons b r =>
        simp only [List.map_cons, List.cons.injEq] at e
        exact ⟨b :: a :: r, by simp [e.1, e.2.1, e.2.2], List.Perm.swap a b r⟩
  | trans p q ih1 ih2 => intro xs e
                         obtain ⟨ys, e1, p1⟩ := ih2 xs e
                         obtain ⟨zs, e2, p2⟩ := ih1 ys e1
                         exact ⟨zs, e2, p2.trans p1⟩
theorem sat_fmR {f : D → Res (Option D)} {P : D → D → Prop} : ∀ (ds : List D), (∀ d ∈ ds, Sat (f d) (fun o => ∀ y, o = some y → P d y)) → Sat (fmR ds f) (fun ys => ys.length ≤ ds.length ∧ ∀ y ∈ ys, ∃ d ∈ ds, P d y)
  | [], _ => ⟨[], rfl, Nat.le_refl _, fun y hy => absurd hy (by simp)⟩
  | d :: r, h => by
    refine sat_rb (h d List.mem_cons_self) fun o ho => ?_
    refine sat_rb (sat_fmR r fun d hd => h d (List.mem_cons_of_mem _ hd)) fun ys hys => ?_
    obtain ⟨hl, hy⟩ := hys
    cases o with
    | none => exact sat_ok ⟨by simp; omega, fun y hm => let ⟨d, a, b⟩ := hy y hm; ⟨d, List.mem_cons_of_mem _ a, b⟩⟩
    | some x =>
      refine sat_ok ⟨by simp; omega, fun y hm => ?_⟩
      rcases List.mem_cons.mp hm with e | e
      · subst e; exact ⟨d, List.mem_cons_self, ho _ rfl⟩
      · obtain ⟨d, a, b⟩ := hy y e
        exact ⟨d, List.mem_cons_of_mem _ a, b⟩
theorem nx_app {nodes : List (List Turn)} {i : Nat} {l : List Turn} : nx (nodes ++ [l]) i = if i < nodes.length then nx nodes i else if i = nodes.length then l else [] := by
  unfold nx
  rw [List.getD_eq_getElem?_getD, List.getD_eq_getElem?_getD]
  by_cases e : i < nodes.length
  · rw [List.getElem?_append_left e, if_pos e]
  · rw [List.getElem?_append_right (by omega), if_neg e]
    by_cases e2 : i = nodes.length
    · subst e2; simp
    · rw [if_neg e2]
      rw [List.getElem?_eq_none (by simp; omega)]; rfl
theorem rw_app {rows : List (List Nat)} {i : Nat} {l : List Nat} (h : i < rows.length) : rw_ (rows ++ [l]) i = rw_ rows i := by
  unfold rw_
  rw [List.getD_eq_getElem?_getD, List.getD_eq_getElem?_getD, List.getElem?_append_left h]
theorem rw_app2 {rows : List (List Nat)} {l : List Nat} : rw_ (rows ++ [l]) rows.length = l := by
  unfold rw_
  rw [List.getD_eq_getElem?_getD, List.getElem?_append_right (Nat.le_refl _)]; simp

theorem nx_out {N : List (List Turn)} {i : Nat} (h : N.length ≤ i) : nx N i = [] := by simp [nx, List.getD_eq_getElem?_getD, h]
structure Gw (ns R : List (List Nat)) (N : List (List Turn)) : Prop where
  r1 : 1 ≤ R.length
  rm : R.length ≤ 40
  le : N.length ≤ R.length
  rl : ∀ i, i < R.length → (rw_ R i).length = ns.length ∧ Bits (rw_ R i)
  el : ∀ i, (nx N i).length ≤ ns.length
  dk : ∀ i, ((nx N i).map (·.1)).Nodup
  ed : ∀ i, i < N.length → ∀ p ∈ nx N i, p.2 < R.length ∧ ∃ a, ∃ h : a < ns.length, p.1 = ns[a] ∧ rw_ R p.2 = flipS (rw_ R i) a
structure Hr (ns R : List (List Nat)) (o i : Nat) (h : List Turn) : Prop where
  hl : h.length ≤ i
  hd : (h.map (·.1)).Nodup
  hm : ∀ p ∈ h, p.2 < R.length ∧ ∃ a, ∃ _ : a < ns.length, a < i ∧ p.1 = ns[a] ∧ rw_ R p.2 = flipS (rw_ R o) a
theorem rw_last {R : List (List Nat)} {s : List Nat} : rw_ (R ++ [s]) R.length = s := rw_app2
theorem Gw.app {ns R : List (List Nat)} {N : List (List Turn)} (g : Gw ns R N) {s : List Nat} (hs : s.length = ns.length ∧ Bits s) (h : R.length < 40) : Gw ns (R ++ [s]) N := by
  have le := g.le
  refine ⟨by simp, by simp; omega, by simp; omega, fun i hi => ?_, g.el, g.dk, fun i hi p hp => ?_⟩
  · by_cases e : i < R.length
    · rw [rw_app e]; exact g.rl i e
    · have : i = R.length := by simp at hi; omega
      rw [this, rw_last]; exact hs
  · obtain ⟨h1, a, ha, e1, e2⟩ := g.ed i hi p hp
    exact ⟨by simp; omega, a, ha, e1, by rw [rw_app h1, rw_app (by omega)]; exact e2⟩
theorem Hr.app {ns R : List (List Nat)} {o i : Nat} {h : List Turn} (q : Hr ns R o i h) (ho : o < R.length) {s : List Nat} : Hr ns (R ++ [s]) o i h :=
  ⟨q.hl, q.hd, fun p hp => by
    obtain ⟨h1, a, ha, h2, e1, e2⟩ := q.hm p hp
    exact ⟨by simp; omega, a, ha, h2, e1, by rw [rw_app h1, rw_app ho]; exact e2⟩⟩
theorem Hr.up {ns R : List (List Nat)} {o i : Nat} {h : List Turn} (q : Hr ns R o i h) : Hr ns R o (i + 1) h :=
  ⟨by have := q.hl; omega, q.hd, fun p hp => by
    obtain ⟨h1, a, ha, h2, e1, e2⟩ := q.hm p hp
    exact ⟨h1, a, ha, by omega, e1, e2⟩⟩
theorem Hr.more {ns R : List (List Nat)} {o i to : Nat} {h : List Turn} (nd : ns.Nodup) (q : Hr ns R o i h) (hi : i < ns.length) (ht : to < R.length) (er : rw_ R to = flipS (rw_ R o) i) : Hr ns R o (i + 1) (h ++ [(ns[i], to)]) := by
  refine ⟨by have := q.hl; simp; omega, ?_, fun p hp => ?_⟩
  · rw [List.map_append, List.nodup_append]
    refine ⟨q.hd, by simp, fun x hx y hy e => ?_⟩
    simp at hy
    subst hy; subst e
    obtain ⟨p, hp, e⟩ := List.mem_map.mp hx
    obtain ⟨_, a, ha, h2, e1, _⟩ := q.hm p hp
    have e3 : ns[a] = ns[i] := by rw [← e1]; exact e
    exact List.pairwise_iff_getElem.mp nd a i ha hi h2 e3
  · rcases List.mem_append.mp hp with hp | hp
    · exact q.up.hm p hp
    · rw [List.mem_singleton.mp hp]
      exact ⟨ht, i, hi, by omega, rfl, er⟩
theorem Gw.row {ns R : List (List Nat)} {N : List (List Turn)} (g : Gw ns R N) (hlt : N.length < R.length) {h h' : List Turn} (q : Hr ns R N.length ns.length h) (pm : h'.Perm h) : Gw ns R (N ++ [h']) := by
  refine ⟨g.r1, g.rm, by simp; omega, g.rl, fun i => ?_, fun i => ?_, fun i hi p hp => ?_⟩
  · rw [nx_app]
    split
    · exact g.el i
    · split
      · rw [pm.length_eq]; exact q.hl
      · simp
  · rw [nx_app]
    split
    · exact g.dk i
    · split
      · exact (pm.map _).nodup_iff.mpr q.hd
      · simp
  · rw [nx_app] at hp
    by_cases e : i < N.length
    · rw [if_pos e] at hp; exact g.ed i e p hp
    · have e2 : i = N.length := by simp at hi; omega
      rw [if_neg e, if_pos e2] at hp
      obtain ⟨h1, a, ha, _, e1, e3⟩ := q.hm p (pm.mem_iff.mp hp)
      exact ⟨h1, a, ha, e1, by rw [e2]; exact e3⟩
theorem wD_of {l : List D} {P : Nat → Prop} (h : ∀ y ∈ l, ∃ k : Nat, y = .int (k : Nat) ∧ P k) : ∃ ks : List Nat, l = wD ks ∧ ∀ k ∈ ks, P k := by
  induction l with
  | nil => exact ⟨[], rfl, fun k hk => by cases hk⟩
  | cons a r ih =>
    obtain ⟨k, e, hk⟩ := h a List.mem_cons_self
    obtain ⟨ks, e2, hks⟩ := ih fun y hy => h y (List.mem_cons_of_mem _ hy)
    exact ⟨k :: ks, by rw [e, e2]; rfl, fun j hj => by
      rcases List.mem_cons.mp hj with rfl | hj
      · exact hk
      · exact hks j hj⟩
theorem wD_ne {ks : List Nat} (h : (wD ks).isEmpty = false) : ks ≠ [] := fun z => by rw [z] at h; cases h
theorem nds_len (N : List (List Turn)) : ((nD N).map D.lst).length = N.length := by simp [nD]
theorem dn_rw {R : List (List Nat)} {i : Nat} (h : i < R.length) : ixD (.lst (dn R)) (.int (i : Nat)) = some (.str (rw_ R i)) := ix_l (dn_get (by simp [rw_, List.getD_eq_getElem?_getD, h]))
/-- where a row stands -/
theorem alike_ok (R : List (List Nat)) (s : List Nat) : Sat (fmR (enumD 0 (dn R)) fun d39 => ob (un2 d39) fun p42 => ob (eqD p42.2 (.str s)) fun t43 => if t43 = true then .ok (some p42.1) else .ok none) (fun ys => ∃ ks, ys = wD ks ∧ ks.length ≤ R.length ∧ ∀ k ∈ ks, k < R.length ∧ rw_ R k = s) := by
  refine Sat.mono (sat_fmR (P := fun _ y => ∃ k : Nat, y = .int (k : Nat) ∧ k < R.length ∧ rw_ R k = s) _ fun d hd => ?_) fun ys ⟨hl, h⟩ => by
    obtain ⟨ks, e, q⟩ := wD_of (P := fun k => k < R.length ∧ rw_ R k = s) fun y hy => by
      obtain ⟨_, _, q⟩ := h y hy
      exact q
    exact ⟨ks, e, by rw [e, wD_len, enumD_len, dn_len] at hl; exact hl, q⟩
  obtain ⟨i, hi⟩ := List.getElem?_of_mem hd
  obtain ⟨e, he, rfl⟩ := enumD_get _ _ _ _ hi
  have hl : i < R.length := by have := (List.getElem?_eq_some_iff.mp he).1; simpa [dn] using this
  have ee : e = .str (rw_ R i) := by
    have := dn_rw hl
    have h2 : ixD (.lst (dn R)) (.int (i : Nat)) = some e := ix_l he
    rw [h2] at this; cases this; rfl
  subst ee
  refine sat_ob (sx_un2 _ _) (sat_ob eq_str (sat_if (fun h => sat_ok fun y ey => ?_) fun _ => sat_ok fun y ey => by cases ey))
  cases ey
  exact ⟨i, by show D.int ((0 + i : Nat) : Int) = _; rw [Nat.zero_add], hl, by simpa using h⟩
/-- one wire at a node -/
theorem wire_ok {ns R : List (List Nat)} {N : List (List Turn)} {b i often most : Nat} {pool : List D} {h : List Turn} (nd : ns.Nodup) (hn : ns.length ≤ 100) (g : Gw ns R N) (hlt : N.length < R.length) (q : Hr ns R N.length i h) (hi : i < ns.length)
    (hp : PSt b pool) (hb : b ≤ 900000) (hm : most ≤ 40) :
    Sat (ob (un2 (.tup [.int (i : Nat), .str ns[i]])) fun p35 => ob (lenD (.lst ((nD N).map .lst))) fun t38 => ob (ixD (.lst (dn R)) t38) fun t37 => rb (m__law_turned t37 p35.1) fun r36 => ob (asLst (.lst (dn R))) fun ds41 => rb (fmR (enumD 0 ds41) fun d39 => ob (un2 d39) fun p42 => ob (eqD p42.2 r36) fun t43 => if t43 = true then .ok (some p42.1) else .ok none) fun ys40 => ob (eqD (.lst ys40) (.lst [])) fun t46 => ob (asB (.bl t46)) fun t44 => rb (if t44 = true then .ok (.bl true, pool) else rb (m__law_take pool (.int 3)) fun r48 => ob (eqD r48.1 (.int 0)) fun t47 => .ok ((.bl t47), r48.2) : Res (D × (List D))) fun p45 => rb (ob (lenD (.lst (dn R))) fun t53 => ob (geD t53 (.int (most : Nat))) fun t52 => if t52 = true then .ok (.bl false) else .ok p45.1 : Res D) fun z51 => (rb (m__law_take p45.2 (.int 4)) fun r56 => ob (ltD r56.1 (.int (often : Nat))) fun t55 => rb (if t55 = true then ob (asB z51) fun t58 => rb (if t58 = true then .ok (true, ()) else ob (neD (.lst ys40) (.lst [])) fun t59 => .ok (t59, ()) : Res (Bool × Unit)) fun p57 => .ok (p57.1, ()) else .ok (false, ()) : Res (Bool × Unit)) fun p54 => if p54.1 = true then rb (ob (asB z51) fun t65 => if t65 = true then ob (apL (dn R) r36) fun t66 => ob (lenD (.lst t66)) fun t68 => ob (subD t68 (.int 1)) fun t67 => .ok (t66, (.lst [t67])) else .ok (dn R, (.lst ys40)) : Res ((List D) × D)) fun z64 => ob (lenD z64.2) fun t72 => rb (m__law_take r56.2 t72) fun r71 => ob (ixD z64.2 r71.1) fun t70 => ob (apL (h.map tD) (.tup [p35.2, t70])) fun t69 => .ok (r71.2, t69, z64.1) else .ok (r56.2, h.map tD, dn R)) : Res (List D × List D × List D))
      (fun z => ∃ R' h', z.2.1 = h'.map tD ∧ z.2.2 = dn R' ∧ PSt (b + 3) z.1 ∧ Gw ns R' N ∧ N.length < R'.length ∧ Hr ns R' N.length (i + 1) h') := by
  have rl := g.rl _ hlt
  refine sat_ob (sx_un2 _ _) (sat_ob (by rw [sx_len, nds_len]) (sat_ob (dn_rw hlt) (sat_rbe (turned_ok rl.2 (by omega) (by omega)) ?_)))
  have hs : (flipS (rw_ R N.length) i).length = ns.length ∧ Bits (flipS (rw_ R N.length) i) := ⟨by rw [flipS_len (by omega)]; exact rl.1, flipS_bits rl.2⟩
  generalize hsg : flipS (rw_ R N.length) i = s at hs
  refine sat_ob rfl (sat_rb (alike_ok R s) fun ys ⟨ks, eks, hkl, hks⟩ => ?_)
  subst eks
  refine sat_ob (eq_nil (wD_plain ks)) (sat_ob rfl ?_)
  refine sat_rb (P := fun p => (∃ nb : Bool, p.1 = .bl nb) ∧ PSt (b + 1) p.2) (sat_if (fun _ => sat_ok ⟨⟨_, rfl⟩, hp.up (by omega)⟩) fun _ => ?_) fun p45 ⟨⟨n0, e0⟩, dk45⟩ => ?_
  · refine sat_rb (ptake_ok (n := 3) hp (by omega) (by decide) (by decide)) fun r ⟨⟨k, ek, _⟩, dk⟩ => ?_
    rw [ek]
    exact sat_ob (sx_eqi _ _) (sat_ok ⟨⟨_, rfl⟩, dk⟩)
  refine sat_rb (P := fun z => ∃ nb : Bool, z = .bl nb ∧ (nb = true → R.length < most)) ?_ fun z51 ⟨nb, e51, hnb⟩ => ?_
  · refine sat_ob (by rw [sx_len, dn_len]) (sat_ob (sx_ge _ _) (sat_if (fun _ => sat_ok ⟨false, rfl, fun z => by cases z⟩) fun hge => sat_ok ⟨n0, e0, fun _ => ?_⟩))
    simp at hge; omega
  subst e51
  refine sat_rb (ptake_ok (n := 4) dk45 (by omega) (by decide) (by decide)) fun r56 ⟨⟨k, ek, _⟩, dk56⟩ => ?_
  rw [ek]
  refine sat_ob (sx_lt _ _) (sat_rb (P := fun p => p.1 = true → nb = true ∨ ks ≠ []) (sat_if (fun _ => ?_) fun _ => sat_ok fun z => by cases z) fun p54 hp54 => sat_if (fun hp' => ?_) fun _ => sat_ok ⟨R, h, rfl, rfl, dk56.up (by omega), g, hlt, q.up⟩)
  · refine sat_ob rfl (sat_rb (P := fun p => p.1 = true → nb = true ∨ ks ≠ []) (sat_if (fun hb => sat_ok fun _ => .inl hb) fun _ => ?_) fun p hp => sat_ok hp)
    refine sat_ob (ne_nil (wD_plain ks) (wD_dep ks)) (sat_ok fun z => .inr (wD_ne ?_))
    simpa using z
  · have hor := hp54 hp'
    refine sat_rb (P := fun z => ∃ R' js, z = (dn R', .lst (wD js)) ∧ Gw ns R' N ∧ N.length < R'.length ∧ Hr ns R' N.length i h ∧ rw_ R' N.length = rw_ R N.length ∧ js ≠ [] ∧ js.length ≤ 100 ∧ ∀ j ∈ js, j < R'.length ∧ rw_ R' j = s) ?_ fun z64 ⟨R', js, e64, g', hlt', q', er, hne, hjl, hjs⟩ => ?_
    · refine sat_ob rfl (sat_if (fun ht => ?_) fun hf => ?_)
      · have hrm := hnb ht
        refine sat_ob (ap_l (by rw [dn_len]; omega)) (sat_ob (sx_len _) (sat_ob (sx_sub _ _) (sat_ok ⟨R ++ [s], [R.length], ?_, g.app hs (by omega), by simp; omega, q.app hlt, rw_app hlt, by simp, by simp, fun j hj => ?_⟩)))
        · have : ((dn R ++ [D.str s]).length : Int) - 1 = (R.length : Nat) := by rw [List.length_append, dn_len]; simp
          rw [this]; simp [dn, wD]
        · rw [List.mem_singleton.mp hj]; exact ⟨by simp, rw_last⟩
      · rcases hor with z | z
        · exact absurd z hf
        · exact sat_ok ⟨R, ks, rfl, g, hlt, q, rfl, z, by have := g.rm; omega, hks⟩
    · subst e64
      have hpos : 0 < (wD js).length := by rw [wD_len]; exact List.length_pos_iff.mpr hne
      refine sat_ob (sx_len _) ?_
      refine sat_rb (ptake_ok dk56 (by omega) hpos (by rw [wD_len]; omega)) fun r71 ⟨⟨k2, ek2, hk2⟩, dk71⟩ => ?_
      rw [ek2]
      have hk3 : k2 < js.length := by rw [wD_len] at hk2; exact hk2
      have hj := hjs _ (List.getElem_mem hk3)
      refine sat_ob (ix_l (d := .int (js[k2] : Nat)) (by simp [wD, hk3])) (sat_ob (ap_l (by have := q'.hl; simp; omega)) (sat_ok ⟨R', h ++ [(ns[i], js[k2])], by simp [tD], rfl, dk71, g', hlt', ?_⟩))
      exact q'.more nd hi hj.1 (by rw [hj.2, er, hsg])
end W

namespace W
open PySem VL
theorem slL_to'' {s : List D} {n : Nat} : slL none (some (n : Nat)) (.lst s) = some (s.take n) := by
  show some (cut s _ _) = _
  unfold cut
  rw [HT.sIx_nat, HT.sIx_none]
  congr 1
  simp [List.take_eq_take_iff]
theorem slL_fr'' {s : List D} {n : Nat} : slL (some (n : Nat)) none (.lst s) = some (s.drop n) := by
  show some (cut s _ _) = _
  unfold cut
  rw [HT.sIx_nat, HT.sIx_none]
  congr 1
  by_cases h : n ≤ s.length
  · rw [Nat.min_eq_left h, List.take_of_length_le (by simp)]
  · rw [Nat.min_eq_right (by omega), List.drop_of_length_le (Nat.le_refl _), List.drop_of_length_le (by omega)]; simp
theorem nx_two (N E : List (List Turn)) (i : Nat) : nx (N ++ E) i = if i < N.length then nx N i else nx E (i - N.length) := by
  unfold nx
  simp only [List.getD_eq_getElem?_getD]
  split
  · rename_i h; rw [List.getElem?_append_left h]
  · rename_i h; rw [List.getElem?_append_right (by omega)]
theorem nx_mem {E : List (List Turn)} {i : Nat} {p : Turn} (h : p ∈ nx E i) : ∃ e ∈ E, p ∈ e := by
  unfold nx at h
  rw [List.getD_eq_getElem?_getD] at h
  cases e : E[i]? with
  | none => rw [e] at h; cases h
  | some x => rw [e] at h; exact ⟨x, List.mem_of_getElem? e, h⟩
theorem nx_le {E : List (List Turn)} {n : Nat} (h : ∀ e ∈ E, e.length ≤ n) (i : Nat) : (nx E i).length ≤ n := by
  unfold nx
  rw [List.getD_eq_getElem?_getD]
  cases e : E[i]? with
  | none => simp
  | some x => exact h x (List.mem_of_getElem? e)
theorem Gw.good {ns R : List (List Nat)} {N E : List (List Turn)} (g : Gw ns R N) (nd : ns.Nodup) (hn : ns.length ≤ 100) (full : R.length ≤ N.length) (hE : ∀ e ∈ E, e.length ≤ ns.length ∧ ∀ p ∈ e, p.2 < (N ++ E).length) (hEl : E.length ≤ 100) : Good ns R (N ++ E) := by
  have le := g.le
  have rm := g.rm
  have r1 := g.r1
  have lt : ∀ i, Reach (N ++ E) i → i < N.length := fun i h => by
    induction h with
    | zero => omega
    | step a b ih =>
      rw [nx_two, if_pos ih] at b
      have := (g.ed _ ih _ b).1
      omega
  refine ⟨nd, hn, by simp; omega, fun i h => by have := lt i h; simp; omega, fun i h => g.rl i (by have := lt i h; omega), fun i => ?_, fun i p hp => ?_, fun i h => ?_, fun i h p hp => ?_⟩
  · rw [nx_two]
    split
    · have := g.el i; omega
    · have := nx_le (fun e he => (hE e he).1) (i - N.length); omega
  · rw [nx_two] at hp
    split at hp
    · rename_i h
      have := (g.ed i h p hp).1
      simp; omega
    · obtain ⟨e, he, hpe⟩ := nx_mem hp
      exact (hE e he).2 p hpe
  · rw [nx_two, if_pos (lt i h)]; exact g.dk i
  · rw [nx_two, if_pos (lt i h)] at hp
    exact (g.ed i (lt i h) p hp).2
theorem turns_pl (l : List Turn) : D.plains (l.map tD) = true := plains_iff.mpr fun d hd => by
  obtain ⟨p, _, rfl⟩ := List.mem_map.mp hd
  rfl
theorem turns_dp (l : List Turn) : ∀ d ∈ l.map tD, d.dep ≤ 60 := fun d hd => by
  obtain ⟨p, _, rfl⟩ := List.mem_map.mp hd
  simp [tD, D.dep, D.deps]
theorem bit_ix {k : Nat} (h : k < 2) : ∃ c, ixD (.str q_01) (.int (k : Nat)) = some (chD c) ∧ (c = 48 ∨ c = 49) := by
  match k, h with
  | 0, _ => exact ⟨48, ix_sn (i := 0) rfl (by decide), .inl rfl⟩
  | 1, _ => exact ⟨49, ix_sn (i := 1) rfl (by decide), .inr rfl⟩
theorem row_bits {pool : List D} {b : Nat} (h : PSt b pool) {ns : List (List Nat)} (hb : b + ns.length ≤ 900000) :
    Sat (fmS (dn ns) pool fun z21 d20 => rb (m__law_take z21 (.int 2)) fun r25 => ob (ixD (.str q_01) r25.1) fun t24 => .ok (some t24, r25.2)) (fun p => PSt (b + ns.length) p.2 ∧ ∃ s : List Nat, p.1 = s.map chD ∧ s.length = ns.length ∧ Bits s) := by
  have := sat_fmSn (f := fun z21 d20 => rb (m__law_take z21 (.int 2)) fun r25 => ob (ixD (.str q_01) r25.1) fun t24 => .ok (some t24, r25.2)) (I := fun i z acc => i ≤ ns.length → PSt (b + i) z ∧ ∃ s : List Nat, acc = s.map chD ∧ s.length = i ∧ Bits s) (dn ns) pool [] 0 (fun _ => ⟨h, [], rfl, rfl, fun c hc => by cases hc⟩) fun i z x acc hx hz => by
    rw [Nat.zero_add] at hz ⊢
    have hi := (List.getElem?_eq_some_iff.mp hx).1
    rw [dn_len] at hi
    obtain ⟨hz, s, e, hl, lo⟩ := hz (by omega)
    refine sat_rb (ptake_ok (n := 2) hz (by omega) (by decide) (by decide)) fun r ⟨⟨k, ek, hk⟩, dk⟩ => ?_
    rw [ek]
    obtain ⟨c, ec, hc⟩ := bit_ix hk
    refine sat_ob ec (sat_ok fun _ => ⟨dk, s ++ [c], ?_, by simp [hl], fun x hx => ?_⟩)
    · show acc ++ [chD c] = _
      rw [e]; simp
    · rcases List.mem_append.mp hx with hx | hx
      · exact lo x hx
      · rw [List.mem_singleton.mp hx]; exact hc
  refine Sat.mono this fun p q => ?_
  obtain ⟨a, s, e, hl, lo⟩ := q (by rw [dn_len]; omega)
  rw [dn_len, Nat.zero_add] at a hl
  exact ⟨a, s, by simpa using e, hl, lo⟩
theorem nds_app (N : List (List Turn)) (h : List Turn) : (nD N).map D.lst ++ [.lst (h.map tD)] = (nD (N ++ [h])).map D.lst := by simp [nD]
end W

namespace W
open PySem VL
theorem cst {a b : Int} (h : a = b) : some (D.int a) = some (D.int b) := by rw [h]
/-- what else a drawn sheet fits (k59) -/
structure Full (ni : Nat) (ns : List (List Nat)) (nodes : List (List Turn)) : Prop where
  i4 : ni ≤ 4
  o1 : ni < ns.length
  o7 : ns.length ≤ ni + 7
  wo : ∀ w ∈ ns, Word w
  n40 : nodes.length ≤ 40
  nm : ∀ i, ∀ p ∈ nx nodes i, p.1 ∈ ns
  nod : ∀ i, ((nx nodes i).map (·.1)).Nodup
theorem psheet_ok {pool : List D} {b most : Nat} (h : PSt b pool) (hb : b ≤ 90000) (hm : most ≤ 40) : Sat (m__law_sheet pool (.int (most : Nat))) (fun r => (∃ ni ns rows nodes, r.1 = sheetD ni ns rows nodes ∧ Good ns rows nodes ∧ Full ni ns nodes) ∧ PSt (b + 9000) r.2) := by
  unfold m__law_sheet
  refine sat_rb (ptake_ok (n := 4) h (by omega) (by decide) (by decide)) fun r4 ⟨⟨k4, e4, h4⟩, d4⟩ => ?_
  refine sat_rb (ptake_ok (n := 7) d4 (by omega) (by decide) (by decide)) fun r5 ⟨⟨k5, e5, h5⟩, d5⟩ => ?_
  refine sat_rb (ptake_ok (n := 11) d5 (by omega) (by decide) (by decide)) fun r6 ⟨⟨k6, e6, h6⟩, d6⟩ => ?_
  refine sat_rb (ptake_ok (n := 3) d6 (by omega) (by decide) (by decide)) fun r7 ⟨⟨k7, e7, h7⟩, d7⟩ => ?_
  rw [e4, e5, e6, e7]
  obtain ⟨k, ek, hk⟩ : ∃ k : Nat, ixD (.lst [.int (k4 : Nat), .int (k5 : Nat), .int (k6 : Nat)]) (.int (k7 : Nat)) = some (.int (k : Nat)) ∧ k ≤ 10 := by
    match k7, h7 with
    | 0, _ => exact ⟨k4, ix_l (i := 0) rfl, by omega⟩
    | 1, _ => exact ⟨k5, ix_l (i := 1) rfl, by omega⟩
    | 2, _ => exact ⟨k6, ix_l (i := 2) rfl, by omega⟩
  refine sat_ob ek (sat_ob (c := D.int ((1 + k : Nat) : Int)) (by rw [sx_add]; exact cst (by omega)) (sat_rb (pnames_ok d7 (by omega) (by omega)) fun r1 ⟨ns, e1, hn, nd, hw, d1⟩ => ?_))
  rw [e1]
  have hn11 : ns.length ≤ 11 := by omega
  have hn1 : 1 ≤ ns.length := by omega
  clear ek e1 hn
  refine sat_ob (by rw [sx_len, dn_len]) (sat_ob (sx_sub _ _) (sat_ob (c := .int ((ns.length - 7 : Nat) : Int)) (by rw [sx_max]; exact cst (by split <;> omega)) (sat_ob (by rw [sx_len, dn_len]) (sat_ob (sx_sub _ _) (sat_ob (c := .int ((min 4 (ns.length - 1) : Nat) : Int)) (by rw [sx_min]; exact cst (by split <;> omega)) (sat_ob (sx_sub _ _) (sat_ob (c := .int ((min 4 (ns.length - 1) - (ns.length - 7) + 1 : Nat) : Int)) (by rw [sx_add]; exact cst (by omega)) ?_)))))))
  refine sat_rb (ptake_ok d1 (by omega) (by omega) (by omega)) fun r12 ⟨⟨x, ex, hx⟩, d12⟩ => ?_
  rw [ex]
  refine sat_ob (c := .int ((ns.length - 7 + x : Nat) : Int)) (by rw [sx_add]; exact cst (by omega)) ?_
  have hat : ns.length - 7 + x ≤ 4 ∧ ns.length - 7 + x < ns.length ∧ ns.length ≤ ns.length - 7 + x + 7 := by omega
  generalize ns.length - 7 + x = at_ at hat ⊢
  refine sat_ob rfl (sat_ob rfl (sat_rb (row_bits d12 (by omega)) fun p22 ⟨d22, s0, es0, hs0, bs0⟩ => ?_))
  rw [es0]
  refine sat_ob (join_ch (by omega)) (sat_rb (ptake_ok (n := 4) d22 (by omega) (by decide) (by decide)) fun r27 ⟨⟨of, eof, _⟩, d27⟩ => ?_)
  rw [eof]
  refine sat_ob (c := D.int ((1 + of : Nat) : Int)) (by rw [sx_add]; exact cst (by omega)) ?_
  generalize 1 + of = often
  generalize hB : b + 1 + 1 + 1 + 1 + 1000 + 1 + ns.length + 1 = B at d27
  let I : (List D × List D × List D) → Prop := fun z => ∃ R N, z.2.1 = dn R ∧ z.2.2 = (nD N).map .lst ∧ Gw ns R N ∧ PSt (B + 50 * N.length) z.1
  refine sat_rb (sat_whileN (I := I) (E := fun z => z.2.1.length ≤ z.2.2.length) (μ := fun z => 41 - z.2.2.length) (fun z ⟨R, N, eR, eN, g, dk⟩ => ?_) FU _ ⟨[s0], [], rfl, rfl, ⟨by simp, by simp, by simp, fun i hi => ?_, fun i => by simp [nx], fun i => by simp [nx], fun i hi => absurd hi (Nat.not_lt_zero _)⟩, d27⟩ (by show 41 - 0 < FU; unfold FU; omega)) fun z ⟨⟨R, N, eR, eN, g, dk⟩, hE⟩ => ?_
  · obtain ⟨pool2, z2, z3⟩ := z
    dsimp only at eR eN dk
    subst eR eN
    have le := g.le
    have rm := g.rm
    have el := nds_len N
    by_cases hlt : N.length < R.length
    · refine .inr ⟨of_sat (sat_ob (sx_len _) (sat_ob (sx_len _) (sat_ob (sx_lt _ _) (sat_ok (by simp [nD, dn_len, hlt]))))), ?_⟩
      refine sat_ob rfl ?_
      let J : Nat → (List D × List D × List D) → Prop := fun i z => i ≤ ns.length → ∃ R' h', z.2.1 = h'.map tD ∧ z.2.2 = dn R' ∧ PSt (B + 50 * N.length + 3 * i) z.1 ∧ Gw ns R' N ∧ N.length < R'.length ∧ Hr ns R' N.length i h'
      refine sat_rb (sat_forN (I := J) (enumD 0 (dn ns)) _ 0 (fun _ => ⟨R, [], rfl, rfl, dk, g, hlt, ⟨by simp, by simp, fun p hp => by cases hp⟩⟩) fun i z d hd hz => ?_) fun z hz => ?_
      · rw [Nat.zero_add] at hz ⊢
        obtain ⟨e, he, ed⟩ := enumD_get _ _ _ _ hd
        have hi : i < ns.length := by have := (List.getElem?_eq_some_iff.mp he).1; rwa [dn_len] at this
        have ee : e = .str ns[i] := by
          rw [dn_get (List.getElem?_eq_getElem hi)] at he; cases he; rfl
        subst ed ee
        rw [Nat.zero_add]
        obtain ⟨R', h', q1, q2, q3, q4, q5, q6⟩ := hz (by omega)
        obtain ⟨z1, z2, z3⟩ := z
        dsimp only at q1 q2 q3
        subst q1 q2
        exact Sat.mono (wire_ok (often := often) (most := most) nd (by omega) q4 q5 q6 hi q3 (by omega) hm) fun z ⟨R2, h2, c1, c2, c3, c4, c5, c6⟩ _ => ⟨R2, h2, c1, c2, c3.up (by omega), c4, c5, c6⟩
      · rw [enumD_len, dn_len, Nat.zero_add] at hz
        obtain ⟨R', h', q1, q2, q3, q4, q5, q6⟩ := hz (Nat.le_refl _)
        rw [q1, q2]
        have hl := q6.hl
        refine sat_rb (porder_ok q3 (by simp; omega) (turns_pl h') (turns_dp h') (by simp; omega)) fun r74 ⟨pm, dk74⟩ => ?_
        obtain ⟨h2, e2, p2⟩ := perm_map_inv pm h' rfl
        rw [e2]
        refine sat_ob (ap_l (by rw [nds_len]; omega)) (sat_ok ⟨⟨R', N ++ [h2], rfl, nds_app N h2, q4.row q5 q6 p2, dk74.up (by simp; omega)⟩, ?_⟩)
        show 41 - ((nD N).map D.lst ++ [_]).length < 41 - ((nD N).map D.lst).length
        rw [List.length_append, nds_len]
        simp; omega
    · refine .inl ⟨of_sat (sat_ob (sx_len _) (sat_ob (sx_len _) (sat_ob (sx_lt _ _) (sat_ok (by simp [nD, dn_len, hlt]))))), by show (dn R).length ≤ _; rw [nds_len, dn_len]; omega⟩
  · have : i = 0 := by simpa using hi
    subst this
    exact ⟨hs0, bs0⟩
  · obtain ⟨pool2, z2, z3⟩ := z
    dsimp only at eR eN dk hE
    subst eR eN
    rw [dn_len, nds_len] at hE
    have le := g.le
    have rm := g.rm
    have r1 := g.r1
    refine sat_ob (by rw [sx_len, nds_len]) (sat_rb (ptake_ok (n := 2) dk (by omega) (by decide) (by decide)) fun r78 ⟨⟨ka, ea, ha⟩, d78⟩ => ?_)
    rw [ea]
    have h41 : subD (.int 41) (.int (N.length : Nat)) = some (.int ((41 - N.length : Nat) : Int)) := by rw [sx_sub]; exact cst (by omega)
    have hw1 : 1 ≤ 41 - N.length := by omega
    have hWN : 41 - N.length + N.length ≤ 41 := by omega
    generalize 41 - N.length = W at h41 hw1 hWN
    have hmin : minD (.int 6) (.int (W : Nat)) = some (.int ((min 6 W : Nat) : Int)) := by rw [sx_min]; exact cst (by split <;> omega)
    have hm1 : 0 < min 6 W := by omega
    have hm2 : min 6 W ≤ 6 ∧ min 6 W ≤ W := by omega
    generalize min 6 W = V at hmin hm1 hm2
    have hlen : lenD (.lst ((nD N).map D.lst)) = some (.int (N.length : Nat)) := by rw [sx_len, nds_len]
    refine sat_ob hlen (sat_ob h41 (sat_ob hmin (sat_rb (ptake_ok d78 (by omega) hm1 (by omega)) fun r79 ⟨⟨kb, eb, hkb⟩, d79⟩ => ?_)))
    rw [eb]
    refine sat_ob (mul_l ⟨by omega, by omega⟩) (sat_ob (c := .int ((N.length + ka * kb : Nat) : Int)) (by rw [sx_add]; exact cst (by rw [Int.natCast_add, Int.natCast_mul])) ?_)
    have hT : N.length + ka * kb ≤ N.length + 5 ∧ N.length ≤ N.length + ka * kb ∧ N.length + ka * kb ≤ 40 := by
      have h5 : ka * kb ≤ 1 * 5 := Nat.mul_le_mul (by omega) (by omega)
      have h6 : ka * kb ≤ 1 * kb := Nat.mul_le_mul (by omega) (Nat.le_refl _)
      exact ⟨by omega, Nat.le_add_right _ _, by omega⟩
    generalize N.length + ka * kb = T at hT
    let I2 : (List D × List D) → Prop := fun z => ∃ E, z.1 = (nD (N ++ E)).map .lst ∧ (N ++ E).length ≤ T ∧ (∀ e ∈ E, (e.length ≤ ns.length ∧ ∀ p ∈ e, p.2 < T) ∧ (e.map (·.1)).Sublist ns) ∧ PSt (B + 50 * N.length + 2 + 30 * E.length) z.2
    refine sat_rb (sat_whileN (I := I2) (E := fun z => T ≤ z.1.length) (μ := fun z => T - z.1.length) (fun z ⟨E, e, hl, hE2, d⟩ => ?_) FU _ ⟨[], by simp, by simp; omega, fun e he => (by cases he), d79⟩ (by show T - _ < FU; unfold FU; omega)) fun z ⟨⟨E, e, hl, hE2, d⟩, hEnd⟩ => ?_
    · obtain ⟨z1, z2⟩ := z
      dsimp only at e d
      subst e
      rw [List.length_append] at hl
      by_cases hlt : (N ++ E).length < T
      · refine .inr ⟨of_sat (sat_ob (sx_len _) (sat_ob (sx_lt _ _) (sat_ok (by rw [nds_len]; exact decide_eq_true (by omega))))), ?_⟩
        refine sat_ob rfl ?_
        have := sat_fmSn (f := fun z88 d87 => rb (m__law_take z88 (.int 2)) fun r92 => ob (eqD r92.1 (.int 0)) fun t91 => if t91 = true then rb (m__law_take r92.2 (.int (T : Nat))) fun r93 => .ok (some (.tup [d87, r93.1]), r93.2) else .ok (none, r92.2)) (I := fun i z acc => i ≤ ns.length → PSt (B + 50 * N.length + 2 + 30 * E.length + 2 * i) z ∧ ∃ e : List Turn, acc = e.map tD ∧ e.length ≤ i ∧ (∀ p ∈ e, p.2 < T) ∧ (e.map (·.1)).Sublist (ns.take i)) (dn ns) z2 [] 0 (fun _ => ⟨d, [], rfl, by simp, fun p hp => (by cases hp), by simp⟩) fun i z x acc hx hz => by
          rw [Nat.zero_add] at hz ⊢
          have hi := (List.getElem?_eq_some_iff.mp hx).1
          rw [dn_len] at hi
          obtain ⟨hz, e, ee, hl2, he2, he3⟩ := hz (by omega)
          have htk : ns.take (i + 1) = ns.take i ++ [ns[i]] := by rw [List.take_add_one, List.getElem?_eq_getElem hi]; rfl
          have ex : x = .str ns[i] := by rw [dn_get (List.getElem?_eq_getElem hi)] at hx; cases hx; rfl
          subst ex
          refine sat_rb (ptake_ok (n := 2) hz (by omega) (by decide) (by decide)) fun r ⟨⟨k, ek, hk⟩, dk⟩ => ?_
          rw [ek]
          refine sat_ob (sx_eqi _ _) (sat_if (fun _ => ?_) fun _ => sat_ok fun _ => ⟨dk.up (by omega), e, ee, by omega, he2, by rw [htk]; exact he3.trans (List.sublist_append_left _ _)⟩)
          refine sat_rb (ptake_ok dk (by omega) (by omega) (by omega)) fun r2 ⟨⟨k2, ek2, hk2⟩, dk2⟩ => ?_
          rw [ek2]
          refine sat_ok fun _ => ⟨dk2.up (by omega), e ++ [(ns[i], k2)], ?_, by simp; omega, fun p hp => ?_, by rw [htk, List.map_append]; exact he3.append (List.Sublist.refl _)⟩
          · show acc ++ [_] = _
            rw [ee]; simp [tD]
          · rcases List.mem_append.mp hp with hp | hp
            · exact he2 p hp
            · rw [List.mem_singleton.mp hp]; exact hk2
        refine sat_rb this fun p q => ?_
        obtain ⟨dk, e, ee, hl2, he2, he3⟩ := q (by rw [dn_len]; omega)
        rw [dn_len, Nat.zero_add] at dk hl2 he3
        rw [List.take_length] at he3
        have ee' : p.1 = e.map tD := by simpa using ee
        rw [ee']
        refine sat_ob (ap_l (by rw [nds_len]; simp; omega)) (sat_ok ⟨⟨E ++ [e], ?_, ?_, fun x hx => ?_, dk.up (by simp; omega)⟩, ?_⟩)
        · show (nD (N ++ E)).map D.lst ++ [_] = _
          rw [nds_app, List.append_assoc]
        · simp at hlt ⊢; omega
        · rcases List.mem_append.mp hx with hx | hx
          · exact hE2 x hx
          · rw [List.mem_singleton.mp hx]; exact ⟨⟨hl2, he2⟩, he3⟩
        · show T - ((nD (N ++ E)).map D.lst ++ [_]).length < T - ((nD (N ++ E)).map D.lst).length
          rw [List.length_append, nds_len]
          simp at hlt ⊢; omega
      · refine .inl ⟨of_sat (sat_ob (sx_len _) (sat_ob (sx_lt _ _) (sat_ok (by rw [nds_len]; exact decide_eq_false (by omega))))), by show T ≤ ((nD (N ++ E)).map D.lst).length; rw [nds_len]; omega⟩
    · obtain ⟨z1, z2⟩ := z
      dsimp only at e d hEnd
      subst e
      rw [nds_len] at hEnd
      have hT2 : (N ++ E).length = T := by omega
      have hEl : E.length ≤ 5 := by simp at hT2; omega
      refine sat_ob rfl (sat_ob slL_to'' (sat_ob rfl (sat_ob slL_fr'' (sat_ob (dn_rw (i := 0) (by omega)) (sat_ok ⟨⟨at_, ns, R, N ++ E, ?_, g.good nd (by omega) hE (fun e he => ⟨(hE2 e he).1.1, fun p hp => by rw [hT2]; exact (hE2 e he).1.2 p hp⟩) (by omega), ⟨hat.1, hat.2.1, hat.2.2, hw, by omega, fun i p hp => ?_, fun i => ?_⟩⟩, d.up (by omega)⟩)))))
      · simp only [sheetD, NL, dn, List.map_take, List.map_drop]
      · rw [nx_two] at hp
        split at hp
        · rename_i h
          obtain ⟨_, a, ha, e1, _⟩ := g.ed i h p hp
          rw [e1]; exact List.getElem_mem ha
        · obtain ⟨e, he, hpe⟩ := nx_mem hp
          exact (hE2 e he).2.subset (List.mem_map.mpr ⟨p, hpe, rfl⟩)
      · rw [nx_two]
        split
        · exact g.dk i
        · unfold nx
          rw [List.getD_eq_getElem?_getD]
          cases e : E[i - N.length]? with
          | none => simp
          | some x => exact (hE2 x (List.mem_of_getElem? e)).2.nodup nd
end W

namespace W
open PySem VL
theorem rng1 {n : Nat} (h : n ≤ 1000) (h1 : 1 ≤ n) : rngD (.int 1) (.int (n : Nat)) = some (wD ((List.range (n - 1)).map (· + 1))) := by
  show (if _ then _ else _) = _
  rw [if_pos (by omega)]
  have e : ((n : Int) - 1).toNat = n - 1 := by omega
  rw [e]
  congr 1
  unfold wD
  rw [List.map_map]
  refine List.map_congr_left fun k _ => ?_
  show D.int (1 + (k : Int)) = .int (((k + 1 : Nat)) : Int)
  congr 1; omega
def mv (M : List Nat) (i : Nat) : Nat := M.getD i 0
theorem mv_get {M : List Nat} {i : Nat} (h : i < M.length) : M[i]? = some (mv M i) := by simp [mv, List.getD_eq_getElem?_getD, h]
def ren (M : List Nat) (l : List Turn) : List Turn := l.map fun p => (p.1, mv M p.2)
theorem ren_d {M : List Nat} {l : List Turn} (h : ∀ p ∈ l, p.2 < M.length) : fmR (l.map tD) (fun d17 => ob (un2 d17) fun p22 => ob (ixD (.lst (wD M)) p22.2) fun t23 => .ok (some (.tup [p22.1, t23]))) = .ok ((ren M l).map tD) := by
  rw [fmR_xs (g := fun p : Turn => some (tD (p.1, mv M p.2))) l fun p hp => ?_]
  · congr 1
    simp [ren, List.filterMap_eq_map]
  · have e : ixD (.lst (wD M)) (.int (p.2 : Nat)) = some (.int (mv M p.2 : Nat)) := ix_l (by simp [wD, mv_get (h p hp)])
    simp only [tD, sx_un2, sx_ob, e]
theorem nx_set' {N : List (List Turn)} {j i : Nat} {l : List Turn} (h : j < N.length) : nx (N.set j l) i = if i = j then l else nx N i := by
  unfold nx
  simp only [List.getD_eq_getElem?_getD, List.getElem?_set]
  by_cases e : i = j
  · subst e; simp [h]
  · have : ¬ j = i := fun z => e z.symm
    simp [e, this]
/-- the nodes numbered otherwise -/
theorem Good.moved {ns rows : List (List Nat)} {nodes nodes' : List (List Turn)} (g : Good ns rows nodes) {M : List Nat} (pm : M.Perm (List.range nodes.length)) (m0 : mv M 0 = 0) (hl : nodes'.length = nodes.length)
    (hm : ∀ i, i < nodes.length → nx nodes' (mv M i) = ren M (nx nodes i)) : Good ns ((List.range nodes.length).map fun j => rw_ rows (M.idxOf j)) nodes' ∧ rw_ ((List.range nodes.length).map fun j => rw_ rows (M.idxOf j)) 0 = rw_ rows 0 := by
  have nd : M.Nodup := pm.nodup_iff.mpr List.nodup_range
  have ml : M.length = nodes.length := by have := pm.length_eq; simpa using this
  have n0 : 0 < nodes.length := g.lt 0 .zero
  have mlt : ∀ i, i < nodes.length → mv M i < nodes.length := fun i hi => by
    have := pm.mem_iff.mp (List.mem_of_getElem? (mv_get (M := M) (i := i) (by omega)))
    simpa using this
  have mix : ∀ i, i < nodes.length → M.idxOf (mv M i) = i := fun i hi => by
    have h1 := mv_get (M := M) (i := i) (by omega)
    have hmem : mv M i ∈ M := List.mem_of_getElem? h1
    have h2 : M.idxOf (mv M i) < M.length := List.idxOf_lt_length_of_mem hmem
    have h3 : M[M.idxOf (mv M i)] = mv M i := List.getElem_idxOf h2
    have h4 : M[i]'(by omega) = mv M i := (List.getElem?_eq_some_iff.mp h1).2
    refine Decidable.byContradiction fun hne => ?_
    rcases Nat.lt_or_gt_of_ne hne with q | q
    · exact List.pairwise_iff_getElem.mp nd _ i h2 (by omega) q (h3.trans h4.symm)
    · exact List.pairwise_iff_getElem.mp nd i _ (by omega) h2 q (h4.trans h3.symm)
  have rwm : ∀ i, i < nodes.length → rw_ ((List.range nodes.length).map fun j => rw_ rows (M.idxOf j)) (mv M i) = rw_ rows i := fun i hi => by
    have h := mlt i hi
    unfold rw_
    simp only [List.getD_eq_getElem?_getD, List.getElem?_map, List.getElem?_range h, Option.map_some, Option.getD_some]
    rw [mix i hi]
  have re : ∀ j, Reach nodes' j → ∃ i, Reach nodes i ∧ j = mv M i := fun j h => by
    induction h with
    | zero => exact ⟨0, .zero, m0.symm⟩
    | step a b ih =>
      obtain ⟨i, hi, e⟩ := ih
      subst e
      rw [hm i (g.lt i hi)] at b
      obtain ⟨q, hq, rfl⟩ := List.mem_map.mp b
      exact ⟨q.2, .step hi hq, rfl⟩
  have sur : ∀ j, j < nodes.length → ∃ i, i < nodes.length ∧ j = mv M i := fun j hj => by
    have : j ∈ M := pm.mem_iff.mpr (by simpa using hj)
    obtain ⟨i, hi, e⟩ := List.getElem_of_mem this
    refine ⟨i, by omega, ?_⟩
    have := mv_get hi
    rw [List.getElem?_eq_getElem hi, e] at this
    exact Option.some.inj this
  have allx : ∀ j, (∃ i, i < nodes.length ∧ nx nodes' j = ren M (nx nodes i)) ∨ nx nodes' j = [] := fun j => by
    by_cases h : j < nodes.length
    · obtain ⟨i, hi, e⟩ := sur j h
      exact .inl ⟨i, hi, by rw [e]; exact hm i hi⟩
    · exact .inr (nx_out (by omega))
  refine ⟨⟨g.nd, g.nl, by rw [hl]; exact g.nn, fun j h => ?_, fun j h => ?_, fun j => ?_, fun j p hp => ?_, fun j h => ?_, fun j h p hp => ?_⟩, ?_⟩
  · obtain ⟨i, hi, e⟩ := re j h
    rw [e, hl]; exact mlt i (g.lt i hi)
  · obtain ⟨i, hi, e⟩ := re j h
    rw [e, rwm i (g.lt i hi)]; exact g.rl i hi
  · rcases allx j with ⟨i, hi, e⟩ | e
    · rw [e]; simp [ren]; exact g.el i
    · rw [e]; simp
  · rcases allx j with ⟨i, hi, e⟩ | e
    · rw [e] at hp
      obtain ⟨q, hq, rfl⟩ := List.mem_map.mp hp
      rw [hl]; exact mlt _ (g.ex i q hq)
    · rw [e] at hp; cases hp
  · obtain ⟨i, hi, e⟩ := re j h
    rw [e, hm i (g.lt i hi)]
    have := g.dk i hi
    simpa [ren, Function.comp_def] using this
  · obtain ⟨i, hi, e⟩ := re j h
    subst e
    rw [hm i (g.lt i hi)] at hp
    obtain ⟨q, hq, rfl⟩ := List.mem_map.mp hp
    obtain ⟨a, ha, e1, e2⟩ := g.ed i hi q hq
    refine ⟨a, ha, e1, ?_⟩
    rw [rwm i (g.lt i hi)]
    show rw_ _ (mv M q.2) = _
    rw [rwm q.2 (g.ex i q hq)]; exact e2
  · have := rwm 0 n0
    rwa [m0] at this
end W

namespace W
open PySem VL PySem.W
abbrev Fn := List (List Nat × Nat)
def ntD (n : Nat) : D := .int (n : Nat)
def prD (p : List Nat × Nat) : D := .tup [.str p.1, ntD p.2]
def le2 (a b : List Nat × Nat) : Bool := leD' (prD a) (prD b)
theorem pairs_sortOk (L : Fn) (hl : L.length ≤ 100000) : sortOk (L.map prD) = true := by
  simp only [sortOk, Bool.and_eq_true, Bool.or_eq_true, decide_eq_true_eq]
  refine ⟨⟨⟨⟨plains_iff.mpr fun d hd => ?_, deps_le fun d hd => ?_⟩, ?_⟩, .inl ?_⟩, by rw [List.length_map]; omega⟩
  · obtain ⟨p, _, rfl⟩ := List.mem_map.mp hd; rfl
  · obtain ⟨p, _, rfl⟩ := List.mem_map.mp hd
    simp [prD, ntD, D.dep, D.deps]
  · refine List.all_eq_true.mpr fun x hx => List.all_eq_true.mpr fun y hy => ?_
    obtain ⟨a, _, rfl⟩ := List.mem_map.mp hx
    obtain ⟨b, _, rfl⟩ := List.mem_map.mp hy
    rfl
  · refine List.all_eq_true.mpr fun x hx => ?_
    obtain ⟨a, _, rfl⟩ := List.mem_map.mp hx
    rfl
theorem pairs_sort (L : Fn) (hl : L.length ≤ 100000) : sortD (.lst (L.map prD)) = some ((L.mergeSort le2).map prD) := by
  show (if sortOk (L.map prD) = true then some ((L.map prD).mergeSort leD') else none) = _
  rw [if_pos (pairs_sortOk L hl)]
  congr 1
  exact (List.map_mergeSort (f := prD) (r := le2) (s := leD') fun a _ b _ => rfl).symm
def leI (a b : Nat) : Bool := decide (a ≤ b)
theorem leD_int (a b : Nat) : leD' (.int (a : Nat)) (.int (b : Nat)) = leI a b := by
  have h := congrFun (congrFun (PySem.W.dataLe_int (β := Nat) (fun n => ((n : Nat) : Int))) a) b
  have h2 : leD' (.int (a : Nat)) (.int (b : Nat)) = decide ((a : Int) ≤ (b : Int)) := h
  rw [h2]; unfold leI
  simp
theorem wD_sortOk {l : List Nat} (h : l.length ≤ 1000) : sortOk (wD l) = true := by
  simp only [sortOk, Bool.and_eq_true, Bool.or_eq_true, decide_eq_true_eq]
  refine ⟨⟨⟨⟨wD_plain l, wD_dep l⟩, ?_⟩, .inr ?_⟩, by rw [wD_len]; omega⟩
  · refine List.all_eq_true.mpr fun x hx => List.all_eq_true.mpr fun y hy => ?_
    obtain ⟨a, _, rfl⟩ := List.mem_map.mp hx
    obtain ⟨b, _, rfl⟩ := List.mem_map.mp hy
    rfl
  · refine List.all_eq_true.mpr fun x hx => ?_
    obtain ⟨a, _, rfl⟩ := List.mem_map.mp hx
    rfl
theorem leI_trans (a b c : Nat) (h : leI a b = true) (k : leI b c = true) : leI a c = true := by
  simp only [leI, decide_eq_true_eq] at *; omega
theorem leI_total (a b : Nat) : (leI a b || leI b a) = true := by
  simp only [leI, Bool.or_eq_true, decide_eq_true_eq]; omega
theorem find_filter {α β : Type} (p : α → Bool) (f : α → Option β) : ∀ l : List α, (l.filter p).findSome? f = l.findSome? fun x => if p x = true then f x else none
  | [] => rfl
  | a :: r => by
    have ih := find_filter p f r
    rw [List.filter_cons, List.findSome?_cons]
    by_cases h : p a = true
    · rw [if_pos h, if_pos h, List.findSome?_cons, ih]
    · rw [if_neg h, if_neg h, ih]
def hit {R : Type} (o : Option R) : Res (Fl Unit R) := match o with | some r => .ok (.rt r) | none => .ok (.nx ())
theorem forL_findx {R α : Type} {body : Unit → D → Res (Fl Unit R)} {e : α → D} {f : α → Option R} : ∀ (xs : List α), (∀ x ∈ xs, body () (e x) = hit (f x)) → forL (xs.map e) () body = hit (xs.findSome? f)
  | [], _ => rfl
  | d :: r, h => by
    show rb (body () (e d)) _ = _
    rw [h d List.mem_cons_self, List.findSome?_cons]
    cases q : f d with
    | none =>
      show forL (r.map e) () body = _
      exact forL_findx r fun x hx => h x (List.mem_cons_of_mem _ hx)
    | some x => rfl
theorem hit_on {R : Type} (o : Option R) : rb (hit o) (fun q => Fl.on q (fun _ => .ok (.nx ())) (fun r => .ok (.rt r))) = (hit o : Res (Fl Unit R)) := by cases o <;> rfl
theorem hit_end (o : Option D) : rb (hit o) (fun q => Fl.on q (fun _ => .ok .non) (fun r => .ok r)) = .ok (o.getD .non) := by cases o <;> rfl
end W

namespace W
open PySem VL
section
variable {ni : Nat} {ns rows : List (List Nat)} {nodes : List (List Turn)}
def out (nodes : List (List Turn)) (o : List Nat) (i : Nat) : Prop := o ∈ ky (nx nodes i)
instance (nodes : List (List Turn)) (o : List Nat) (i : Nat) : Decidable (out nodes o i) := inferInstanceAs (Decidable (o ∈ _))
theorem notIn_dn' (w : List Nat) (l : List (List Nat)) : notInD (.str w) (.lst (dn l)) = some (!decide (w ∈ l)) := by simp [notInD, in_dn]
theorem ky_fm (l : List Turn) : fmR (l.map tD) (fun d1 => ob (un2 d1) fun p6 => .ok (some p6.1)) = .ok (dn (ky l)) := by
  rw [fmR_xs (g := fun p : Turn => some (D.str p.1)) l fun p _ => rfl]
  congr 1
  simp [dn, ky, List.filterMap_eq_map]
theorem wanted_ok {i : Nat} (hi : i < nodes.length) : m_wanted_at (sheetD ni ns rows nodes) (.int (i : Nat)) = .ok (dn ((ns.drop ni).filter fun o => decide (out nodes o i))) := by
  unfold m_wanted_at
  rw [sheet3, sheet1]
  simp only [sx_ob]
  rw [node_at hi]
  simp only [sx_ob, sx_asL]
  rw [ky_fm]
  simp only [sx_rb]
  rw [show dn (ns.drop ni) = (ns.drop ni).map D.str from rfl, fmR_xs (g := fun o => if decide (out nodes o i) = true then some (D.str o) else none) (ns.drop ni) fun o _ => by
    rw [in_dn, sx_ob]
    show (if decide (out nodes o i) = true then _ else _) = _
    split <;> rfl, filterMap_if]
  rfl
/-- what is told of a turn -/
def tell (nodes : List (List Turn)) (i : Nat) (o : List Nat) (p : Turn) : Option D := if p.1 ≠ o ∧ ¬ out nodes o p.2 then some (.tup [.int (i : Nat), .str o, .str p.1]) else none
def srt (nodes : List (List Turn)) (i : Nat) : List Turn := (nx nodes i).mergeSort le2
open Classical in
noncomputable def unst (ni : Nat) (ns : List (List Nat)) (nodes : List (List Turn)) : Option D :=
  (List.range nodes.length).findSome? fun i => if decide (Reach nodes i) = true then ((ns.drop ni).findSome? fun o => if decide (out nodes o i) = true then (srt nodes i).findSome? (tell nodes i o) else none) else none
theorem srt_mem {i : Nat} {p : Turn} : p ∈ srt nodes i ↔ p ∈ nx nodes i := by unfold srt; rw [List.mem_mergeSort]
theorem srt_d {i : Nat} (g : Good ns rows nodes) : sortD (.lst ((nx nodes i).map tD)) = some ((srt nodes i).map tD) := pairs_sort (nx nodes i) (by have := g.el i; omega)
theorem prog_ok (g : Good ns rows nodes) : m_first_unsteady (sheetD ni ns rows nodes) = .ok ((unst ni ns nodes).getD .non) := by
  have nn := g.nn
  unfold m_first_unsteady
  rw [signs_ok g]
  have hlen : (dueL rows nodes).length = nodes.length := by simp [dueL]
  simp only [sx_rb, sx_len, hlen, sx_ob]
  rw [rng_n (by omega)]
  simp only [sx_ob]
  rw [show rngL nodes.length = (List.range nodes.length).map fun k : Nat => D.int (k : Nat) from rfl, forL_findx (f := fun i => by
    classical exact if decide (Reach nodes i) = true then ((ns.drop ni).findSome? fun o => if decide (out nodes o i) = true then (srt nodes i).findSome? (tell nodes i o) else none) else none) (List.range nodes.length) fun i hi => ?_]
  · rw [hit_end]; unfold unst; rfl
  · classical
    have hi : i < nodes.length := by simpa using hi
    by_cases r : Reach nodes i
    · have e : ixD (.lst (dueL rows nodes)) (.int (i : Nat)) = some (.str (rw_ rows i)) := ix_l (by simp [dueL, hi, r])
      have en : nnD (.str (rw_ rows i)) .non = some true := rfl
      simp only [e, en, sx_ob, if_true, wanted_ok hi, sx_rb, sx_asL]
      rw [show ∀ l : List (List Nat), dn l = l.map D.str from fun _ => rfl, forL_findx (f := fun o => (srt nodes i).findSome? (tell nodes i o)) _ fun o ho => ?_, hit_on, find_filter]
      · rw [if_pos (decide_eq_true r)]
      · have hod : o ∈ ns.drop ni := (List.mem_filter.mp ho).1
        rw [sheet3]
        simp only [sx_ob]
        rw [node_at hi]
        simp only [sx_ob]
        rw [srt_d g]
        simp only [sx_ob, sx_asL]
        rw [forL_findx (f := tell nodes i o) _ fun p hp => ?_, hit_on]
        have hto := g.ex i p (srt_mem.mp hp)
        simp only [tD, sx_un2, sx_ob, sx_nes, wanted_ok hto, sx_rb, notIn_dn']
        unfold tell
        by_cases h1 : p.1 = o
        · simp [h1, hit, sx_rb]
        · have h1' : (p.1 == o) = false := by simp [h1]
          simp only [h1', Bool.not_false, if_true, sx_rb, notIn_dn', sx_ob]
          have h2 : o ∈ ((ns.drop ni).filter fun o => decide (out nodes o p.2)) ↔ out nodes o p.2 := by
            rw [List.mem_filter]; simp [hod]
          by_cases h3 : out nodes o p.2
          · simp [h2, h3, hit]
          · simp [h2, h3, h1, hit]
    · have e : ixD (.lst (dueL rows nodes)) (.int (i : Nat)) = some .non := ix_l (by simp [dueL, hi, r])
      have en : nnD .non .non = some false := rfl
      simp only [e, en, sx_ob, Bool.false_eq_true, if_false]
      simp [r, hit]
theorem unst_form : (unst ni ns nodes).getD .non = .non ∨ ∃ (i : Nat) (o t : List Nat), (unst ni ns nodes).getD .non = .tup [.int (i : Nat), .str o, .str t] := by
  classical
  cases e : unst ni ns nodes with
  | none => exact .inl rfl
  | some d =>
    refine .inr ?_
    unfold unst at e
    obtain ⟨i, _, h1⟩ := List.exists_of_findSome?_eq_some e
    split at h1
    · obtain ⟨o, _, h2⟩ := List.exists_of_findSome?_eq_some h1
      split at h2
      · obtain ⟨p, _, h3⟩ := List.exists_of_findSome?_eq_some h2
        unfold tell at h3
        split at h3
        · cases h3; exact ⟨i, o, p.1, rfl⟩
        · cases h3
      · cases h2
    · cases h1
end
end W

namespace W
open PySem VL
theorem forN_app {α : Type} {body : List D → D → Res (List D)} {e : α → D} {f : α → List D} {c L : Nat} (hf : ∀ x, (f x).length ≤ c) : ∀ (xs : List α) (z : List D), (∀ x ∈ xs, ∀ z, z.length + c ≤ L → body z (e x) = .ok (z ++ f x)) → z.length + c * xs.length ≤ L → forN (xs.map e) z body = .ok (z ++ xs.flatMap f)
  | [], z, _, _ => by simp [forN]
  | x :: r, z, h, hl => by
    have hl2 : c * (r.length + 1) = c * r.length + c := Nat.mul_succ _ _
    rw [List.length_cons, hl2] at hl
    show rb (body z (e x)) _ = _
    rw [h x List.mem_cons_self z (by omega)]
    show forN (r.map e) (z ++ f x) body = _
    have := hf x
    rw [forN_app hf r (z ++ f x) (fun y hy => h y (List.mem_cons_of_mem _ hy)) (by rw [List.length_append]; omega)]
    rw [List.flatMap_cons, List.append_assoc]
theorem flat_filter {α β : Type} (p : α → Bool) (f : α → List β) : ∀ l : List α, (l.filter p).flatMap f = l.flatMap fun x => if p x = true then f x else []
  | [] => rfl
  | a :: r => by
    have ih := flat_filter p f r
    rw [List.filter_cons, List.flatMap_cons]
    by_cases h : p a = true
    · rw [if_pos h, if_pos h, List.flatMap_cons, ih]
    · rw [if_neg h, if_neg h, ih]; rfl
theorem flat_congr {α β : Type} {f g : α → List β} : ∀ {l : List α}, (∀ x ∈ l, f x = g x) → l.flatMap f = l.flatMap g
  | [], _ => rfl
  | a :: r, h => by rw [List.flatMap_cons, List.flatMap_cons, h a List.mem_cons_self, flat_congr fun x hx => h x (List.mem_cons_of_mem _ hx)]
def fromTo (i n : Nat) : List Nat := (List.range (n - (i + 1))).map (· + (i + 1))
theorem rng_ab (a b : Int) : rngD (.int a) (.int b) = if -1000000000 ≤ a ∧ a ≤ 1000000000 ∧ -1000000000 ≤ b ∧ b ≤ 1000000000 ∧ b - a ≤ 16777216 then some ((List.range (b - a).toNat).map fun k => .int (a + (k : Nat))) else none := rfl
theorem rng_from {i n : Nat} (h : i < n) (hn : n ≤ 1000) : rngD (.int ((i + 1 : Nat) : Int)) (.int (n : Nat)) = some (wD (fromTo i n)) := by
  rw [rng_ab, if_pos (by omega)]
  have e : ((n : Int) - ((i + 1 : Nat) : Int)).toNat = n - (i + 1) := by omega
  rw [e]
  congr 1
  unfold wD fromTo
  rw [List.map_map]
  refine List.map_congr_left fun k _ => ?_
  show D.int (((i + 1 : Nat) : Int) + (k : Int)) = .int (((k + (i + 1) : Nat)) : Int)
  congr 1; omega
theorem eqvs_dn : ∀ a b : List (List Nat), D.eqvs (dn a) (dn b) = decide (a = b)
  | [], [] => by simp [dn, D.eqvs]
  | [], _ :: _ => by simp [dn, D.eqvs]
  | _ :: _, [] => by simp [dn, D.eqvs]
  | x :: a, y :: b => by
    show (D.eqv (.str x) (.str y) && D.eqvs (dn a) (dn b)) = _
    rw [eqvs_dn a b]
    by_cases h : x = y <;> by_cases h2 : a = b <;> simp [h, h2, D.eqv]
theorem ne_dn2 (a b : List (List Nat)) : neD (.lst (dn a)) (.lst (dn b)) = some (!decide (a = b)) := by
  unfold neD eqD
  rw [if_pos ⟨dnp a, dnp b, by simp [D.dep, dn_dep]⟩]
  show some (!D.eqvs (dn a) (dn b)) = _
  rw [eqvs_dn]
def Dif (ni : Nat) (ns : List (List Nat)) (nodes : List (List Turn)) (i j : Nat) : Prop := ∃ o ∈ ns.drop ni, ¬ (out nodes o i ↔ out nodes o j)
section
variable {ni : Nat} {ns rows : List (List Nat)} {nodes : List (List Turn)}
open Classical in
noncomputable def pr2 (ni : Nat) (ns rows : List (List Nat)) (nodes : List (List Turn)) (i j : Nat) : List D := if rw_ rows i = rw_ rows j ∧ Dif ni ns nodes i j then [.tup [.int (i : Nat), .int (j : Nat)]] else []
theorem pr2_len (i j : Nat) : (pr2 ni ns rows nodes i j).length ≤ 1 := by unfold pr2; split <;> simp
open Classical in
noncomputable def row2 (ni : Nat) (ns rows : List (List Nat)) (nodes : List (List Turn)) (i : Nat) : List D := if decide (Reach nodes i) = true then (fromTo i nodes.length).flatMap fun j => if decide (Reach nodes j) = true then pr2 ni ns rows nodes i j else [] else []
noncomputable def clash (ni : Nat) (ns rows : List (List Nat)) (nodes : List (List Turn)) : List D := (List.range nodes.length).flatMap (row2 ni ns rows nodes)
theorem flat_len1 {α : Type} {f : α → List D} (h : ∀ x, (f x).length ≤ 1) : ∀ l : List α, (l.flatMap f).length ≤ l.length
  | [] => by simp
  | a :: r => by
    have := h a
    have := flat_len1 h r
    rw [List.flatMap_cons, List.length_append, List.length_cons]; omega
theorem row2_len (i : Nat) (hn : nodes.length ≤ 1000) : (row2 ni ns rows nodes i).length ≤ 1000 := by
  classical
  unfold row2
  split
  · refine Nat.le_trans (flat_len1 (fun j => ?_) _) (by simp [fromTo]; omega)
    split
    · exact pr2_len _ _
    · simp
  · simp
theorem wanted_ne (i j : Nat) : neD (.lst (dn ((ns.drop ni).filter fun o => decide (out nodes o i)))) (.lst (dn ((ns.drop ni).filter fun o => decide (out nodes o j)))) = some (by classical exact decide (Dif ni ns nodes i j)) := by
  classical
  have e : neD (.lst (dn ((ns.drop ni).filter fun o => decide (out nodes o i)))) (.lst (dn ((ns.drop ni).filter fun o => decide (out nodes o j)))) = some (!decide (((ns.drop ni).filter fun o => decide (out nodes o i)) = ((ns.drop ni).filter fun o => decide (out nodes o j)))) := ne_dn2 _ _
  rw [e]
  congr 1
  by_cases h : Dif ni ns nodes i j
  · have : ¬ ((ns.drop ni).filter fun o => decide (out nodes o i)) = ((ns.drop ni).filter fun o => decide (out nodes o j)) := fun z => by
      obtain ⟨o, ho, hne⟩ := h
      refine hne ?_
      have h1 : o ∈ ((ns.drop ni).filter fun o => decide (out nodes o i)) ↔ out nodes o i := by rw [List.mem_filter]; simp [ho]
      have h2 : o ∈ ((ns.drop ni).filter fun o => decide (out nodes o j)) ↔ out nodes o j := by rw [List.mem_filter]; simp [ho]
      rw [← h1, ← h2, z]
    simp [h, this]
  · have : ((ns.drop ni).filter fun o => decide (out nodes o i)) = ((ns.drop ni).filter fun o => decide (out nodes o j)) := List.filter_congr fun o ho => by
      have : out nodes o i ↔ out nodes o j := Classical.byContradiction fun z => h ⟨o, ho, z⟩
      simp [this]
    simp [h, this]
theorem due_ix {j : Nat} (hj : j < nodes.length) : (Reach nodes j → ixD (.lst (dueL rows nodes)) (.int (j : Nat)) = some (.str (rw_ rows j))) ∧ (¬ Reach nodes j → ixD (.lst (dueL rows nodes)) (.int (j : Nat)) = some .non) := by
  classical
  exact ⟨fun r => ix_l (by simp [dueL, hj, r]), fun r => ix_l (by simp [dueL, hj, r])⟩
open Classical in
noncomputable def cel (ni : Nat) (ns rows : List (List Nat)) (nodes : List (List Turn)) (i j : Nat) : List D := if Reach nodes i then (if Reach nodes j then pr2 ni ns rows nodes i j else []) else []
theorem cel_len (i j : Nat) : (cel ni ns rows nodes i j).length ≤ 1 := by
  unfold cel
  split
  · split
    · exact pr2_len _ _
    · simp
  · simp
theorem cell_ok {i j : Nat} (hi : i < nodes.length) (hj : j < nodes.length) (z7 : List D) (hz : z7.length < 16777216) :
    Sat (ob (ixD (.lst (dueL rows nodes)) (.int (i : Nat))) fun t13 => ob (nnD t13 .non) fun t12 => rb (if t12 = true then ob (ixD (.lst (dueL rows nodes)) (.int (i : Nat))) fun t15 => ob (ixD (.lst (dueL rows nodes)) (.int (j : Nat))) fun t16 => ob (eqD t15 t16) fun t14 => .ok (t14, ()) else .ok (false, ()) : Res (Bool × Unit)) fun p11 => if p11.1 = true then (rb (m_wanted_at (sheetD ni ns rows nodes) (.int (i : Nat))) fun r18 => rb (m_wanted_at (sheetD ni ns rows nodes) (.int (j : Nat))) fun r19 => ob (neD (.lst r18) (.lst r19)) fun t17 => if t17 = true then ob (apL z7 (.tup [.int (i : Nat), .int (j : Nat)])) fun t20 => .ok t20 else .ok z7) else (.ok z7 : Res (List D)))
      (fun r => r = z7 ++ cel ni ns rows nodes i j) := by
  classical
  by_cases r : Reach nodes i
  · have e := (due_ix (rows := rows) hi).1 r
    refine sat_ob e (sat_ob (c := true) rfl ?_)
    by_cases rj : Reach nodes j
    · refine sat_rb (P := fun p => p.1 = (rw_ rows i == rw_ rows j)) (sat_if (fun _ => sat_ob e (sat_ob ((due_ix (rows := rows) hj).1 rj) (sat_ob eq_str (sat_ok rfl)))) fun h => absurd rfl h) fun p hp => ?_
      rw [hp]
      have ec : cel ni ns rows nodes i j = pr2 ni ns rows nodes i j := by unfold cel; rw [if_pos r, if_pos rj]
      rw [ec]
      refine sat_if (fun h1 => ?_) fun h1 => sat_ok ?_
      · have h1 : rw_ rows i = rw_ rows j := by simpa using h1
        refine sat_rbe (wanted_ok hi) (sat_rbe (wanted_ok hj) (sat_ob (wanted_ne i j) (sat_if (fun h2 => ?_) fun h2 => sat_ok ?_)))
        · have h2 : Dif ni ns nodes i j := of_decide_eq_true h2
          refine sat_ob (ap_l hz) (sat_ok ?_)
          unfold pr2
          rw [if_pos ⟨h1, h2⟩]
        · have h2 : ¬ Dif ni ns nodes i j := fun q => h2 (decide_eq_true q)
          unfold pr2
          rw [if_neg fun q => h2 q.2, List.append_nil]
      · have h1 : ¬ rw_ rows i = rw_ rows j := by simpa using h1
        unfold pr2
        rw [if_neg fun q => h1 q.1, List.append_nil]
    · refine sat_rb (P := fun p => p.1 = false) (sat_if (fun _ => sat_ob e (sat_ob ((due_ix (rows := rows) hj).2 rj) (sat_ob (c := false) rfl (sat_ok rfl)))) fun h => absurd rfl h) fun p hp => ?_
      rw [hp]
      refine sat_if (fun h => by cases h) fun _ => sat_ok ?_
      unfold cel
      rw [if_pos r, if_neg rj, List.append_nil]
  · refine sat_ob ((due_ix (rows := rows) hi).2 r) (sat_ob (c := false) rfl ?_)
    refine sat_rb (P := fun p => p.1 = false) (sat_if (fun h => by cases h) fun _ => sat_ok rfl) fun p hp => ?_
    rw [hp]
    refine sat_if (fun h => by cases h) fun _ => sat_ok ?_
    unfold cel
    rw [if_neg r, List.append_nil]
theorem row_eq (i : Nat) : (fromTo i nodes.length).flatMap (cel ni ns rows nodes i) = row2 ni ns rows nodes i := by
  classical
  unfold row2 cel
  by_cases r : Reach nodes i
  · simp [r]
  · simp [r]
theorem clash_ok (g : Good ns rows nodes) : m_clash_pairs (sheetD ni ns rows nodes) = .ok (clash ni ns rows nodes) := by
  have nn := g.nn
  have hlen : lenD (.lst (dueL rows nodes)) = some (.int (nodes.length : Nat)) := by rw [sx_len]; simp [dueL]
  refine of_sat ?_
  unfold m_clash_pairs
  refine sat_rbe (signs_ok g) (sat_ob hlen (sat_ob (rng_n (by omega)) (sat_rbe (r := [] ++ (List.range nodes.length).flatMap (row2 ni ns rows nodes)) ?_ (sat_ok rfl))))
  refine forN_app (e := fun k : Nat => D.int (k : Nat)) (c := 1000) (L := 1000 * nodes.length) (fun i => row2_len i nn) (List.range nodes.length) [] (fun i hi z hz => ?_) (by simp)
  have hi : i < nodes.length := by simpa using hi
  have ea : addD (.int (i : Nat)) (.int 1) = some (.int ((i + 1 : Nat) : Int)) := by rw [sx_add]; congr 2
  refine of_sat (sat_ob ea (sat_ob hlen (sat_ob (rng_from hi nn) (sat_rbe (r := z ++ (fromTo i nodes.length).flatMap (cel ni ns rows nodes i)) ?_ (sat_ok (by rw [row_eq]))))))
  refine forN_app (e := fun k : Nat => D.int (k : Nat)) (c := 1) (L := 1000 * nodes.length) (fun j => cel_len i j) (fromTo i nodes.length) z (fun j hj z hz => ?_) (by simp [fromTo]; omega)
  have hj : j < nodes.length := by
    obtain ⟨x, hx, rfl⟩ := List.mem_map.mp hj
    simp at hx; omega
  exact of_sat (cell_ok hi hj z (by omega))
end
end W

namespace W
open PySem VL PySem.W
/-! k59: the clashes as pairs of numbers, in order -/
def p2D (p : Nat × Nat) : D := .tup [.int (p.1 : Nat), .int (p.2 : Nat)]
def leQ (a b : Nat × Nat) : Bool := decide (a.1 < b.1 ∨ (a.1 = b.1 ∧ a.2 ≤ b.2))
theorem leQ_D (a b : Nat × Nat) : leD' (p2D a) (p2D b) = leQ a b := by
  obtain ⟨a1, a2⟩ := a
  obtain ⟨b1, b2⟩ := b
  show (!dataLt (.tuple [.int (b1 : Nat), .int (b2 : Nat)]) (.tuple [.int (a1 : Nat), .int (a2 : Nat)])) = _
  rw [dataLt_pair (by simp [alike]) (by simp [alike]), dataLt_int, dataLt_int]
  have hi : ∀ x y : Nat, (PyData.eqv (.int (x : Nat)) (.int (y : Nat)) = true) ↔ x = y := fun x y => by
    simp only [PyData.eqv, beq_iff_eq]; omega
  unfold leQ
  by_cases h : b1 = a1
  · rw [if_pos ((hi _ _).mpr h)]
    by_cases h2 : b2 = a2
    · rw [if_pos ((hi _ _).mpr h2), decide_eq_true (.inr ⟨h.symm, by omega⟩)]; rfl
    · rw [if_neg fun z => h2 ((hi _ _).mp z)]
      by_cases h3 : (b2 : Int) < (a2 : Int)
      · rw [decide_eq_true h3, decide_eq_false (by rintro (q | q) <;> omega)]; rfl
      · rw [decide_eq_false h3, decide_eq_true (.inr ⟨h.symm, by omega⟩)]; rfl
  · rw [if_neg fun z => h ((hi _ _).mp z)]
    by_cases h3 : (b1 : Int) < (a1 : Int)
    · rw [decide_eq_true h3, decide_eq_false (by rintro (q | q) <;> omega)]; rfl
    · rw [decide_eq_false h3, decide_eq_true (.inl (by omega))]; rfl
theorem leQ_total (a b : Nat × Nat) : (leQ a b || leQ b a) = true := by
  unfold leQ
  rw [Bool.or_eq_true, decide_eq_true_iff, decide_eq_true_iff]; omega
theorem leQ_trans (a b c : Nat × Nat) (h : leQ a b = true) (k : leQ b c = true) : leQ a c = true := by
  unfold leQ at *
  rw [decide_eq_true_iff] at *; omega
theorem leQ_anti {a b : Nat × Nat} (h : leQ a b = true) (k : leQ b a = true) : a = b := by
  unfold leQ at *
  rw [decide_eq_true_iff] at *
  exact Prod.ext (by omega) (by omega)
theorem sortQ {L A : List (Nat × Nat)} (p : L.Perm A) (s : A.Pairwise fun a b => leQ a b = true) : L.mergeSort leQ = A :=
  List.Perm.eq_of_pairwise (le := fun x y => leQ x y = true) (fun x y _ _ h k => leQ_anti h k) (List.pairwise_mergeSort leQ_trans leQ_total L) s ((List.mergeSort_perm L leQ).trans p)
theorem p2_sort (L : List (Nat × Nat)) (hl : L.length ≤ 100000) : sortD (.lst (L.map p2D)) = some ((L.mergeSort leQ).map p2D) := by
  have hok : sortOk (L.map p2D) = true := by
    simp only [sortOk, Bool.and_eq_true, Bool.or_eq_true, decide_eq_true_eq]
    refine ⟨⟨⟨⟨plains_iff.mpr fun d hd => ?_, deps_le fun d hd => ?_⟩, ?_⟩, .inl ?_⟩, by rw [List.length_map]; omega⟩
    · obtain ⟨p, _, rfl⟩ := List.mem_map.mp hd; rfl
    · obtain ⟨p, _, rfl⟩ := List.mem_map.mp hd
      simp [p2D, D.dep, D.deps]
    · refine List.all_eq_true.mpr fun x hx => List.all_eq_true.mpr fun y hy => ?_
      obtain ⟨a, _, rfl⟩ := List.mem_map.mp hx
      obtain ⟨b, _, rfl⟩ := List.mem_map.mp hy
      rfl
    · refine List.all_eq_true.mpr fun x hx => ?_
      obtain ⟨a, _, rfl⟩ := List.mem_map.mp hx
      rfl
  show (if sortOk (L.map p2D) = true then some ((L.map p2D).mergeSort leD') else none) = _
  rw [if_pos hok]
  congr 1
  exact (List.map_mergeSort (f := p2D) (r := leQ) (s := leD') fun a _ b _ => (leQ_D a b).symm).symm
theorem p2_eqv (a b : Nat × Nat) : D.eqv (p2D a) (p2D b) = decide (a = b) := by
  rw [Bool.eq_iff_iff]
  simp [p2D, D.eqv, D.eqvs, Prod.ext_iff]
  omega
theorem p2_plain (L : List (Nat × Nat)) : D.plains (L.map p2D) = true ∧ D.deps (L.map p2D) ≤ 10 := ⟨plains_iff.mpr fun d hd => by
  obtain ⟨p, _, rfl⟩ := List.mem_map.mp hd; rfl, deps_le fun d hd => by
  obtain ⟨p, _, rfl⟩ := List.mem_map.mp hd; simp [p2D, D.dep, D.deps]⟩
theorem p2_same (L : List (Nat × Nat)) : neD (.lst (L.map p2D)) (.lst (L.map p2D)) = some false :=
  ne_same (by simpa [D.plain] using (p2_plain L).1) (by have := (p2_plain L).2; simp only [D.dep]; omega)
theorem p2_in (p : Nat × Nat) (L : List (Nat × Nat)) : inE (p2D p) (.lst (L.map p2D)) = some (decide (p ∈ L)) := by
  have hp := p2_plain L
  show (if inOk (p2D p) (L.map p2D) = true then _ else none) = _
  rw [if_pos (by
    unfold inOk
    rw [Bool.or_eq_true, Bool.and_eq_true, Bool.and_eq_true]
    exact .inl ⟨⟨by rfl, hp.1⟩, decide_eq_true (by omega)⟩)]
  congr 1
  rw [List.any_map, Bool.eq_iff_iff, List.any_eq_true]
  have e : ∀ a b, eqx (p2D a) (p2D b) = decide (a = b) := fun a b => p2_eqv a b
  simp only [Function.comp, e, decide_eq_true_eq]
  exact ⟨fun ⟨x, a, b⟩ => b ▸ a, fun h => ⟨p, h, rfl⟩⟩
section
variable {ni : Nat} {ns rows : List (List Nat)} {nodes : List (List Turn)}
/-- two nodes clash -/
def Clp (ni : Nat) (ns rows : List (List Nat)) (nodes : List (List Turn)) (i j : Nat) : Prop := Reach nodes i ∧ Reach nodes j ∧ rw_ rows i = rw_ rows j ∧ Dif ni ns nodes i j
open Classical in
noncomputable def prL (ni : Nat) (ns rows : List (List Nat)) (nodes : List (List Turn)) : List (Nat × Nat) :=
  (List.range nodes.length).flatMap fun i => ((fromTo i nodes.length).filter fun j => decide (Clp ni ns rows nodes i j)).map fun j => (i, j)
theorem flat_one {α β : Type} (f : α → β) : ∀ l : List α, (l.flatMap fun x => [f x]) = l.map f
  | [] => rfl
  | a :: r => by rw [List.flatMap_cons, flat_one f r]; rfl
theorem clash_pr : clash ni ns rows nodes = (prL ni ns rows nodes).map p2D := by
  classical
  unfold clash prL
  rw [List.map_flatMap]
  refine flat_congr fun i _ => ?_
  rw [← row_eq, List.map_map, ← flat_one, flat_filter]
  refine flat_congr fun j _ => ?_
  unfold cel pr2 Clp
  by_cases h1 : Reach nodes i
  · by_cases h2 : Reach nodes j
    · simp only [h1, h2, true_and, if_true]
      by_cases h3 : rw_ rows i = rw_ rows j ∧ Dif ni ns nodes i j
      · simp [h3, p2D]
      · simp [h3]
    · simp [h1, h2]
  · simp [h1]
theorem mem_fromTo {i n j : Nat} : j ∈ fromTo i n ↔ i < j ∧ j < n := by
  unfold fromTo
  rw [List.mem_map]
  constructor
  · rintro ⟨a, ha, rfl⟩
    have := List.mem_range.mp ha
    omega
  · rintro ⟨h1, h2⟩
    exact ⟨j - (i + 1), List.mem_range.mpr (by omega), by omega⟩
theorem mem_pr (g : Good ns rows nodes) {p : Nat × Nat} : p ∈ prL ni ns rows nodes ↔ p.1 < p.2 ∧ Clp ni ns rows nodes p.1 p.2 := by
  classical
  unfold prL
  rw [List.mem_flatMap]
  constructor
  · rintro ⟨i, _, h⟩
    obtain ⟨j, hj, rfl⟩ := List.mem_map.mp h
    obtain ⟨a, b⟩ := List.mem_filter.mp hj
    exact ⟨(mem_fromTo.mp a).1, of_decide_eq_true b⟩
  · rintro ⟨h1, h2⟩
    exact ⟨p.1, List.mem_range.mpr (g.lt _ h2.1), List.mem_map.mpr ⟨p.2, List.mem_filter.mpr ⟨mem_fromTo.mpr ⟨h1, g.lt _ h2.2.1⟩, decide_eq_true h2⟩, rfl⟩⟩
theorem pr_sorted : (prL ni ns rows nodes).Pairwise fun a b => a.1 < b.1 ∨ (a.1 = b.1 ∧ a.2 < b.2) := by
  classical
  unfold prL
  rw [List.pairwise_flatMap]
  constructor
  · intro i _
    rw [List.pairwise_map]
    refine List.Pairwise.filter _ ?_
    unfold fromTo
    rw [List.pairwise_map]
    exact List.pairwise_lt_range.imp fun h => .inr ⟨rfl, by omega⟩
  · refine List.pairwise_lt_range.imp fun {i j} h x hx y hy => ?_
    obtain ⟨_, _, rfl⟩ := List.mem_map.mp hx
    obtain ⟨_, _, rfl⟩ := List.mem_map.mp hy
    exact .inl h
theorem pr_le : (prL ni ns rows nodes).Pairwise fun a b => leQ a b = true := pr_sorted.imp fun h => by
  unfold leQ
  rw [decide_eq_true_iff]; omega
theorem pr_nodup : (prL ni ns rows nodes).Nodup := pr_sorted.imp fun {a b} h z => by subst z; omega
theorem pr_len (g : Good ns rows nodes) (hn : nodes.length ≤ 100) : (prL ni ns rows nodes).length ≤ 10000 := by
  classical
  unfold prL
  have : ∀ (l : List Nat) (f : Nat → List (Nat × Nat)), (∀ i, (f i).length ≤ 100) → (l.flatMap f).length ≤ 100 * l.length := fun l f hf => by
    induction l with
    | nil => simp
    | cons a r ih =>
      rw [List.flatMap_cons, List.length_append, List.length_cons]
      have := hf a
      omega
  refine Nat.le_trans (this _ _ fun i => ?_) (by rw [List.length_range]; omega)
  rw [List.length_map]
  refine Nat.le_trans (List.length_filter_le _ _) ?_
  unfold fromTo
  rw [List.length_map, List.length_range]; omega
theorem clash_nil : eqD (.lst (clash ni ns rows nodes)) (.lst []) = some (prL ni ns rows nodes).isEmpty := by
  rw [clash_pr]
  have h := (p2_plain (prL ni ns rows nodes)).1
  rw [eq_nil h]
  congr 1
  cases prL ni ns rows nodes <;> rfl
theorem Clp.symm {i j : Nat} (h : Clp ni ns rows nodes i j) : Clp ni ns rows nodes j i := ⟨h.2.1, h.1, h.2.2.1.symm, by
  obtain ⟨o, ho, hn⟩ := h.2.2.2
  exact ⟨o, ho, fun z => hn z.symm⟩⟩
end
end W

namespace W
open PySem VL PySem.W
/-! k59: numbered anew -/
section
variable {ni : Nat} {ns rows : List (List Nat)} {nodes nodes' : List (List Turn)} {M : List Nat}
/-- nodes' are nodes, numbered anew by M -/
structure Anew (nodes nodes' : List (List Turn)) (M : List Nat) : Prop where
  pm : M.Perm (List.range nodes.length)
  m0 : mv M 0 = 0
  hl : nodes'.length = nodes.length
  hm : ∀ i, i < nodes.length → nx nodes' (mv M i) = ren M (nx nodes i)
def rowsA (nodes : List (List Turn)) (rows : List (List Nat)) (M : List Nat) : List (List Nat) := (List.range nodes.length).map fun j => rw_ rows (M.idxOf j)
theorem Anew.len (a : Anew nodes nodes' M) : M.length = nodes.length := by have := a.pm.length_eq; simpa using this
theorem Anew.lt (a : Anew nodes nodes' M) {i : Nat} (hi : i < nodes.length) : mv M i < nodes.length := by
  have := a.len
  have := a.pm.mem_iff.mp (List.mem_of_getElem? (mv_get (M := M) (i := i) (by omega)))
  simpa using this
theorem Anew.ix (a : Anew nodes nodes' M) {i : Nat} (hi : i < nodes.length) : M.idxOf (mv M i) = i := by
  have ml := a.len
  have nd : M.Nodup := a.pm.nodup_iff.mpr List.nodup_range
  have h1 := mv_get (M := M) (i := i) (by omega)
  have h4 : M[i]'(by omega) = mv M i := (List.getElem?_eq_some_iff.mp h1).2
  rw [← h4]
  exact nd.idxOf_getElem i (by omega)
theorem Anew.inj (a : Anew nodes nodes' M) {i j : Nat} (hi : i < nodes.length) (hj : j < nodes.length) (e : mv M i = mv M j) : i = j := by
  rw [← a.ix hi, e, a.ix hj]
theorem Anew.row (a : Anew nodes nodes' M) {i : Nat} (hi : i < nodes.length) : rw_ (rowsA nodes rows M) (mv M i) = rw_ rows i := by
  have h := a.lt hi
  unfold rw_ rowsA
  simp only [List.getD_eq_getElem?_getD, List.getElem?_map, List.getElem?_range h, Option.map_some, Option.getD_some]
  show rw_ rows _ = _
  rw [a.ix hi]; rfl
theorem Anew.re (g : Good ns rows nodes) (a : Anew nodes nodes' M) : ∀ j, Reach nodes' j → ∃ i, Reach nodes i ∧ j = mv M i := fun j h => by
  induction h with
  | zero => exact ⟨0, .zero, a.m0.symm⟩
  | step x b ih =>
    obtain ⟨i, hi, e⟩ := ih
    subst e
    rw [a.hm i (g.lt i hi)] at b
    obtain ⟨p, hp, rfl⟩ := List.mem_map.mp b
    exact ⟨p.2, .step hi hp, rfl⟩
theorem Anew.to (g : Good ns rows nodes) (a : Anew nodes nodes' M) {i : Nat} (h : Reach nodes i) : Reach nodes' (mv M i) := by
  induction h with
  | zero => rw [a.m0]; exact .zero
  | step x b ih =>
    rename_i i p
    refine .step (p := (p.1, mv M p.2)) ih ?_
    rw [a.hm i (g.lt i x)]
    exact List.mem_map.mpr ⟨p, b, rfl⟩
theorem Anew.reach (g : Good ns rows nodes) (a : Anew nodes nodes' M) {i : Nat} (hi : i < nodes.length) : Reach nodes' (mv M i) ↔ Reach nodes i :=
  ⟨fun h => by
    obtain ⟨j, hj, e⟩ := a.re g _ h
    rw [a.inj hi (g.lt j hj) e]; exact hj, a.to g⟩
theorem Anew.out (a : Anew nodes nodes' M) {i : Nat} (hi : i < nodes.length) (o : List Nat) : out nodes' o (mv M i) ↔ out nodes o i := by
  unfold W.out
  rw [a.hm i hi]
  unfold ren ky
  rw [List.map_map]; rfl
theorem Anew.clp (g : Good ns rows nodes) (a : Anew nodes nodes' M) {i j : Nat} (hi : i < nodes.length) (hj : j < nodes.length) : Clp ni ns (rowsA nodes rows M) nodes' (mv M i) (mv M j) ↔ Clp ni ns rows nodes i j := by
  unfold Clp Dif
  rw [a.reach g hi, a.reach g hj, a.row hi, a.row hj]
  refine and_congr Iff.rfl (and_congr Iff.rfl (and_congr Iff.rfl ?_))
  exact exists_congr fun o => and_congr Iff.rfl (not_congr (by rw [a.out hi, a.out hj]))
/-- the pair of the new numbers, the less one ahead -/
def mvp (M : List Nat) (p : Nat × Nat) : Nat × Nat := if mv M p.1 ≤ mv M p.2 then (mv M p.1, mv M p.2) else (mv M p.2, mv M p.1)
theorem Anew.pairs (g : Good ns rows nodes) (a : Anew nodes nodes' M) (g' : Good ns (rowsA nodes rows M) nodes') : ((prL ni ns rows nodes).map (mvp M)).Perm (prL ni ns (rowsA nodes rows M) nodes') := by
  refine (List.perm_ext_iff_of_nodup ?_ pr_nodup).mpr fun q => ?_
  · rw [List.Nodup, List.pairwise_map]
    refine (pr_sorted (ni := ni) (ns := ns) (rows := rows) (nodes := nodes)).imp_of_mem fun {x y} hx hy h z => ?_
    obtain ⟨x1, x2⟩ := (mem_pr g).mp hx
    obtain ⟨y1, y2⟩ := (mem_pr g).mp hy
    have a1 := g.lt _ x2.1
    have a2 := g.lt _ x2.2.1
    have b1 := g.lt _ y2.1
    have b2 := g.lt _ y2.2.1
    unfold mvp at z
    split at z <;> split at z <;> injection z with z1 z2
    · have := a.inj a1 b1 z1
      have := a.inj a2 b2 z2
      omega
    · have := a.inj a1 b2 z1
      have := a.inj a2 b1 z2
      omega
    · have := a.inj a2 b1 z1
      have := a.inj a1 b2 z2
      omega
    · have := a.inj a2 b2 z1
      have := a.inj a1 b1 z2
      omega
  · rw [mem_pr g', List.mem_map]
    constructor
    · rintro ⟨p, hp, rfl⟩
      obtain ⟨p1, p2⟩ := (mem_pr g).mp hp
      have a1 := g.lt _ p2.1
      have a2 := g.lt _ p2.2.1
      have hne : mv M p.1 ≠ mv M p.2 := fun z => by have := a.inj a1 a2 z; omega
      have hc := (a.clp (ni := ni) g a1 a2).mpr p2
      unfold mvp
      split
      · exact ⟨by show mv M p.1 < mv M p.2; omega, hc⟩
      · exact ⟨by show mv M p.2 < mv M p.1; omega, hc.symm⟩
    · rintro ⟨h1, h2⟩
      obtain ⟨q1, q2⟩ := q
      obtain ⟨i, hi, e1⟩ := a.re g _ h2.1
      obtain ⟨j, hj, e2⟩ := a.re g _ h2.2.1
      have e1 : q1 = mv M i := e1
      have e2 : q2 = mv M j := e2
      subst e1 e2
      have h1 : mv M i < mv M j := h1
      have hc := (a.clp (ni := ni) g (g.lt i hi) (g.lt j hj)).mp h2
      by_cases h : i < j
      · refine ⟨(i, j), (mem_pr g).mpr ⟨h, hc⟩, ?_⟩
        unfold mvp
        rw [if_pos (by show mv M i ≤ mv M j; omega)]
      · have hne : i ≠ j := fun z => by subst z; omega
        refine ⟨(j, i), (mem_pr g).mpr ⟨by show j < i; omega, hc.symm⟩, ?_⟩
        unfold mvp
        rw [if_neg (by show ¬ mv M j ≤ mv M i; omega)]
theorem sort2 (a b : Nat) : sortD (.lst [.int (a : Nat), .int (b : Nat)]) = some (if a ≤ b then [.int (a : Nat), .int (b : Nat)] else [.int (b : Nat), .int (a : Nat)]) := by
  show (if sortOk (wD [a, b]) = true then some ((wD [a, b]).mergeSort leD') else none) = _
  rw [if_pos (wD_sortOk (by simp))]
  congr 1
  have e : (wD [a, b]).mergeSort leD' = wD ([a, b].mergeSort leI) := (List.map_mergeSort (f := fun i : Nat => D.int (i : Nat)) (r := leI) (s := leD') fun a _ b _ => (leD_int a b).symm).symm
  rw [e]
  have anti : ∀ x y : Nat, leI x y = true → leI y x = true → x = y := fun x y h k => by
    unfold leI at *
    rw [decide_eq_true_iff] at *; omega
  have key : ∀ L : List Nat, [a, b].Perm L → L.Pairwise (fun x y => leI x y = true) → [a, b].mergeSort leI = L := fun L p s =>
    List.Perm.eq_of_pairwise (le := fun x y => leI x y = true) (fun x y _ _ h k => anti x y h k) (List.pairwise_mergeSort leI_trans leI_total _) s ((List.mergeSort_perm _ leI).trans p)
  by_cases h : a ≤ b
  · rw [if_pos h, key [a, b] (List.Perm.refl _) (by simp [leI, h])]; rfl
  · rw [if_neg h, key [b, a] (List.Perm.swap _ _ _) (by simp [leI]; omega)]; rfl
theorem pairs_ok (g : Good ns rows nodes) (hn : nodes.length ≤ 100) (a : Anew nodes nodes' M) (g' : Good ns (rowsA nodes rows M) nodes') :
    m__law_pairs (.lst (clash ni ns rows nodes)) (.lst (wD M)) = .ok (clash ni ns (rowsA nodes rows M) nodes') := by
  have ml := a.len
  refine of_sat ?_
  unfold m__law_pairs
  rw [clash_pr]
  refine sat_ob (c := (prL ni ns rows nodes).map p2D) rfl (sat_rbe (r := ((prL ni ns rows nodes).map (mvp M)).map p2D) ?_ (sat_ob (p2_sort _ (by rw [List.length_map]; have := pr_len (ni := ni) g hn; omega)) (sat_ok ?_)))
  · rw [fmR_xs (e := p2D) (g := fun p => some (p2D (mvp M p))) (prL ni ns rows nodes) fun p hp => ?_, List.filterMap_eq_map', List.map_map]; rfl
    obtain ⟨_, h2⟩ := (mem_pr g).mp hp
    have a1 := g.lt _ h2.1
    have a2 := g.lt _ h2.2.1
    have i1 : ixD (.lst (wD M)) (.int (p.1 : Nat)) = some (.int (mv M p.1 : Nat)) := ix_l (by unfold wD; rw [List.getElem?_map, mv_get (by omega)]; rfl)
    have i2 : ixD (.lst (wD M)) (.int (p.2 : Nat)) = some (.int (mv M p.2 : Nat)) := ix_l (by unfold wD; rw [List.getElem?_map, mv_get (by omega)]; rfl)
    show (ob (un2 (p2D p)) _ : Res (Option D)) = _
    refine of_sat (sat_ob (c := (D.int (p.1 : Nat), D.int (p.2 : Nat))) rfl (sat_ob i1 (sat_ob i2 (sat_ob (sort2 _ _) (sat_ob rfl (sat_ok ?_))))))
    unfold mvp
    split
    · rfl
    · rfl
  · rw [sortQ (a.pairs g g') pr_le, ← clash_pr]
/-! steady or not -/
def Stdy (ni : Nat) (ns : List (List Nat)) (nodes : List (List Turn)) : Prop := ∀ i, Reach nodes i → ∀ o ∈ ns.drop ni, out nodes o i → ∀ p ∈ nx nodes i, p.1 ≠ o → out nodes o p.2
theorem unst_iff (g : Good ns rows nodes) : unst ni ns nodes = none ↔ Stdy ni ns nodes := by
  classical
  unfold unst
  rw [List.findSome?_eq_none_iff]
  constructor
  · intro h i hi o ho hoi p hp hne
    have h := h i (List.mem_range.mpr (g.lt i hi))
    rw [if_pos (decide_eq_true hi), List.findSome?_eq_none_iff] at h
    have h := h o ho
    rw [if_pos (decide_eq_true hoi), List.findSome?_eq_none_iff] at h
    have h := h p (srt_mem.mpr hp)
    unfold tell at h
    split at h
    · cases h
    · rename_i hq
      exact Classical.byContradiction fun z => hq ⟨hne, z⟩
  · intro h i _
    split
    · rename_i hi
      rw [List.findSome?_eq_none_iff]
      intro o ho
      split
      · rename_i hoi
        rw [List.findSome?_eq_none_iff]
        intro p hp
        unfold tell
        rw [if_neg fun z => z.2 (h i (of_decide_eq_true hi) o ho (of_decide_eq_true hoi) p (srt_mem.mp hp) z.1)]
      · rfl
    · rfl
theorem Anew.stdy (g : Good ns rows nodes) (a : Anew nodes nodes' M) : Stdy ni ns nodes' ↔ Stdy ni ns nodes := by
  constructor
  · intro h i hi o ho hoi p hp hne
    have hil := g.lt i hi
    have hpl := g.ex i p hp
    have := h (mv M i) (a.to g hi) o ho ((a.out hil o).mpr hoi) (p.1, mv M p.2) (by rw [a.hm i hil]; exact List.mem_map.mpr ⟨p, hp, rfl⟩) hne
    exact (a.out hpl o).mp this
  · intro h j hj o ho hoj q hq hne
    obtain ⟨i, hi, rfl⟩ := a.re g j hj
    have hil := g.lt i hi
    rw [a.hm i hil] at hq
    obtain ⟨p, hp, rfl⟩ := List.mem_map.mp hq
    exact (a.out (g.ex i p hp) o).mpr (h i hi o ho ((a.out hil o).mp hoj) p hp hne)
theorem unst_isn (g : Good ns rows nodes) : ∃ b, isnD ((unst ni ns nodes).getD .non) .non = some b ∧ (b = true ↔ Stdy ni ns nodes) := by
  cases e : unst ni ns nodes with
  | none => exact ⟨true, rfl, by simp [← unst_iff (ni := ni) g, e]⟩
  | some d =>
    rcases unst_form (ni := ni) (ns := ns) (nodes := nodes) with h | ⟨i, o, t, h⟩
    · rw [e] at h
      have hs : ¬ Stdy ni ns nodes := fun z => by rw [(unst_iff g).mpr z] at e; cases e
      unfold unst at e
      exfalso
      obtain ⟨i, _, e⟩ := List.exists_of_findSome?_eq_some e
      split at e
      · obtain ⟨o, _, e⟩ := List.exists_of_findSome?_eq_some e
        split at e
        · obtain ⟨p, _, e⟩ := List.exists_of_findSome?_eq_some e
          unfold tell at e
          split at e
          · cases e; cases h
          · cases e
        · cases e
      · cases e
    · rw [e] at h
      have h : d = _ := h
      subst h
      exact ⟨false, rfl, by simp [← unst_iff (ni := ni) g, e]⟩
end
end W

namespace W
open PySem VL PySem.W
/-! k59: the law's sheet numbered anew, named otherwise -/
theorem anew_ok {pool : List D} {b ni : Nat} {ns rows : List (List Nat)} {nodes : List (List Turn)} (h : PSt b pool) (hb : b ≤ 500000) (g : Good ns rows nodes) :
    Sat (m__law_anew pool (sheetD ni ns rows nodes)) (fun r => (∃ M nodes', r.1 = .tup [sheetD ni ns (rowsA nodes rows M) nodes', .lst (wD M)] ∧ Anew nodes nodes' M ∧ Good ns (rowsA nodes rows M) nodes') ∧ PSt (b + 2000) r.2) := by
  unfold m__law_anew
  have nn := g.nn
  have n0 : 0 < nodes.length := g.lt 0 .zero
  have hlen : lenD (NL nodes) = some (.int (nodes.length : Nat)) := by unfold NL; rw [sx_len, nds_len]
  refine sat_ob sheet3 (sat_ob hlen (sat_ob (rng1 nn n0) ?_))
  have dw : ∀ w : List Nat, ∀ x ∈ wD w, x.dep ≤ 60 := fun w x hx => by
    obtain ⟨_, _, rfl⟩ := List.mem_map.mp hx
    simp [D.dep]
  refine sat_rb (porder_ok h (by simp [wD]; omega) (wD_plain _) (dw _) (by simp [wD]; omega)) fun r4 ⟨pm, d4⟩ => ?_
  obtain ⟨ms, e4, p4⟩ := perm_map_inv (g := fun i : Nat => D.int (i : Nat)) pm _ rfl
  rw [e4]
  have ec : catD (.lst [.int 0]) (.lst (ms.map fun i : Nat => D.int (i : Nat))) = some (wD (0 :: ms)) := by
    have := p4.length_eq
    rw [cat_l (by simp at this ⊢; omega)]
    rfl
  have pM : (0 :: ms).Perm (List.range nodes.length) := by
    refine (p4.cons 0).trans ?_
    have : List.range nodes.length = 0 :: (List.range (nodes.length - 1)).map (· + 1) := by
      obtain ⟨k, hk⟩ : ∃ k, nodes.length = k + 1 := ⟨nodes.length - 1, by omega⟩
      rw [hk, List.range_succ_eq_map]; simp
    rw [this]
  have m0 : mv (0 :: ms) 0 = 0 := rfl
  generalize hM : (0 :: ms) = M at ec pM m0
  have ml : M.length = nodes.length := by have := pM.length_eq; simpa using this
  have ndM : M.Nodup := pM.nodup_iff.mpr List.nodup_range
  refine sat_ob ec (sat_ob sheet3 (sat_ob (c := (nD nodes).map .lst) rfl (sat_rbe (r := (nD (List.replicate nodes.length [])).map .lst) ?_ (sat_ob (c := wD M) rfl ?_))))
  · rw [fmR_map (g := fun _ => .lst []) _ fun d _ => rfl]
    simp only [nD, List.map_map, List.map_replicate, List.map_nil]
    show Res.ok (List.map (fun _ => D.lst []) nodes) = _
    rw [List.map_const']
  let J : Nat → List D → Prop := fun i z => ∃ N : List (List Turn), z = (nD N).map .lst ∧ N.length = nodes.length ∧ ∀ j, j < i → j < nodes.length → nx N (mv M j) = ren M (nx nodes j)
  refine sat_rb (sat_forN (I := J) (enumD 0 (wD M)) _ 0 ⟨_, rfl, by simp, fun j hj => absurd hj (Nat.not_lt_zero _)⟩ fun i z d hd hz => ?_) fun z hz => ?_
  · rw [Nat.zero_add] at hz ⊢
    obtain ⟨N, e, hl, hj⟩ := hz
    subst e
    obtain ⟨e, he, ed⟩ := enumD_get _ _ _ _ hd
    have hi : i < M.length := by have := (List.getElem?_eq_some_iff.mp he).1; rwa [wD_len] at this
    have ee : e = .int (mv M i : Nat) := by
      simp only [wD, List.getElem?_map, mv_get hi, Option.map_some] at he
      exact (Option.some.inj he).symm
    subst ed ee
    rw [Nat.zero_add]
    have hi2 : i < nodes.length := by omega
    have hmi : mv M i < nodes.length := by
      have := pM.mem_iff.mp (List.mem_of_getElem? (mv_get hi))
      simpa using this
    refine sat_ob (sx_un2 _ _) (sat_ob sheet3 (sat_ob (node_at hi2) (sat_ob rfl (sat_rbe (ren_d fun p hp => by rw [ml]; exact g.ex i p hp) (sat_ob (set_l (by rw [nds_len]; omega)) (sat_ok ⟨N.set (mv M i) (ren M (nx nodes i)), by simp [nD, List.map_set], by simpa using hl, fun j hj2 hj3 => ?_⟩))))))
    rw [nx_set' (by omega)]
    by_cases ej : j = i
    · subst ej; simp
    · rw [if_neg fun z => ?_]
      · exact hj j (by omega) hj3
      · have h1 := (List.getElem?_eq_some_iff.mp (mv_get (M := M) (i := j) (by omega))).2
        have h2 := (List.getElem?_eq_some_iff.mp (mv_get hi)).2
        exact List.pairwise_iff_getElem.mp ndM j i (by omega) hi (by omega) (h1.trans (z.trans h2.symm))
  · rw [enumD_len, wD_len, Nat.zero_add] at hz
    obtain ⟨N, e, hl, hj⟩ := hz
    subst e
    obtain ⟨g', e0⟩ := g.moved pM m0 hl fun i hi => hj i (by omega) hi
    have aN : Anew nodes N M := ⟨pM, m0, hl, fun i hi => hj i (by omega) hi⟩
    refine sat_ob sheet0 (sat_ob sheet1 (sat_ob sheet2 (sat_ok ⟨⟨M, N, ?_, aN, g'⟩, d4.up ?_⟩)))
    · have e0 : rw_ (rowsA nodes rows M) 0 = rw_ rows 0 := e0
      simp only [sheetD]
      rw [e0]; rfl
    · simp [wD]; omega
/-! by other names -/
theorem zip_dict59 : ∀ (ks cs : List (List Nat)) (acc : List (List Nat × List Nat)), (ky acc ++ ks).Nodup → dzipLL ks (dn cs) (dict D.str acc) = dict D.str (acc ++ ks.zip cs)
  | [], cs, acc, _ => by cases cs <;> simp [dzipLL, dn]
  | k :: ks, [], acc, _ => by simp [dzipLL, dn]
  | k :: ks, c :: cs, acc, nd => by
    have hn : k ∉ ky acc := fun hm => (List.nodup_append.mp nd).2.2 k hm k List.mem_cons_self rfl
    show dzipLL ks (dn cs) (storeD (dict D.str acc) (.str k) (.str c)) = _
    rw [dict_store, stk_new _ hn, zip_dict59 ks cs (acc ++ [(k, c)]) (by
      rw [ky_app, List.append_assoc]
      exact nd)]
    simp
section
variable {ni : Nat} {ns ms rows : List (List Nat)} {nodes : List (List Turn)}
def rnm (ns ms : List (List Nat)) (w : List Nat) : List Nat := ms.getD (ns.idxOf w) []
def rnN (ns ms : List (List Nat)) (nodes : List (List Turn)) : List (List Turn) := nodes.map fun l => l.map fun p => (rnm ns ms p.1, p.2)
theorem rnm_at (nd : ns.Nodup) (hl : ms.length = ns.length) {a : Nat} (h : a < ns.length) : rnm ns ms ns[a] = ms[a]'(by omega) := by
  unfold rnm
  rw [nd.idxOf_getElem a h, List.getD_eq_getElem?_getD, List.getElem?_eq_getElem (by omega)]; rfl
theorem rnm_inj (nd : ns.Nodup) (md : ms.Nodup) (hl : ms.length = ns.length) {v w : List Nat} (hv : v ∈ ns) (hw : w ∈ ns) (e : rnm ns ms v = rnm ns ms w) : v = w := by
  obtain ⟨i, hi, rfl⟩ := List.getElem_of_mem hv
  obtain ⟨j, hj, rfl⟩ := List.getElem_of_mem hw
  rw [rnm_at nd hl hi, rnm_at nd hl hj] at e
  have := (List.getElem_inj md).mp e
  subst this; rfl
theorem nx_rn (i : Nat) : nx (rnN ns ms nodes) i = (nx nodes i).map fun p => (rnm ns ms p.1, p.2) := by
  unfold nx rnN
  rw [List.getD_eq_getElem?_getD, List.getD_eq_getElem?_getD, List.getElem?_map]
  cases nodes[i]? <;> rfl
theorem rn_reach (i : Nat) : Reach (rnN ns ms nodes) i ↔ Reach nodes i := by
  constructor
  · intro h
    induction h with
    | zero => exact .zero
    | step a b ih =>
      rw [nx_rn] at b
      obtain ⟨p, hp, rfl⟩ := List.mem_map.mp b
      exact .step (p := p) ih hp
  · intro h
    induction h with
    | zero => exact .zero
    | step a b ih =>
      rename_i i p
      refine .step (p := (rnm ns ms p.1, p.2)) ih ?_
      rw [nx_rn]
      exact List.mem_map.mpr ⟨p, b, rfl⟩
theorem Good.named (g : Good ns rows nodes) (f : Full ni ns nodes) (md : ms.Nodup) (hl : ms.length = ns.length) : Good ms rows (rnN ns ms nodes) := by
  have hnl : (rnN ns ms nodes).length = nodes.length := by unfold rnN; rw [List.length_map]
  refine ⟨md, by rw [hl]; exact g.nl, by rw [hnl]; exact g.nn, fun i h => by rw [hnl]; exact g.lt i ((rn_reach i).mp h), fun i h => by rw [hl]; exact g.rl i ((rn_reach i).mp h), fun i => by rw [nx_rn, List.length_map]; exact g.el i, fun i p hp => ?_, fun i h => ?_, fun i h p hp => ?_⟩
  · rw [nx_rn] at hp
    obtain ⟨q, hq, rfl⟩ := List.mem_map.mp hp
    rw [hnl]; exact g.ex i q hq
  · rw [nx_rn, List.map_map, List.Nodup, List.pairwise_map]
    have := g.dk i ((rn_reach i).mp h)
    rw [List.Nodup, List.pairwise_map] at this
    refine this.imp_of_mem fun {a b} ha hb hne z => hne (rnm_inj g.nd md hl (f.nm i a ha) (f.nm i b hb) z)
  · rw [nx_rn] at hp
    obtain ⟨q, hq, rfl⟩ := List.mem_map.mp hp
    obtain ⟨a, ha, e1, e2⟩ := g.ed i ((rn_reach i).mp h) q hq
    exact ⟨a, by omega, by show rnm ns ms q.1 = _; rw [e1]; exact rnm_at g.nd hl ha, e2⟩
theorem rn_out (g : Good ns rows nodes) (f : Full ni ns nodes) (md : ms.Nodup) (hl : ms.length = ns.length) {a : Nat} (ha : a < ns.length) (i : Nat) : out (rnN ns ms nodes) (ms[a]'(by omega)) i ↔ out nodes ns[a] i := by
  unfold out ky
  rw [nx_rn, List.map_map, List.mem_map, List.mem_map]
  constructor
  · rintro ⟨p, hp, e⟩
    refine ⟨p, hp, rnm_inj g.nd md hl (f.nm i p hp) (List.getElem_mem ha) ?_⟩
    rw [rnm_at g.nd hl ha]; exact e
  · rintro ⟨p, hp, e⟩
    refine ⟨p, hp, ?_⟩
    show rnm ns ms p.1 = _
    rw [e]; exact rnm_at g.nd hl ha
theorem rn_clp (g : Good ns rows nodes) (f : Full ni ns nodes) (md : ms.Nodup) (hl : ms.length = ns.length) (i j : Nat) : Clp ni ms rows (rnN ns ms nodes) i j ↔ Clp ni ns rows nodes i j := by
  unfold Clp
  rw [rn_reach, rn_reach]
  refine and_congr Iff.rfl (and_congr Iff.rfl (and_congr Iff.rfl ?_))
  unfold Dif
  have key : ∀ a (ha : a < ns.length), (out (rnN ns ms nodes) (ms[a]'(by omega)) i ↔ out (rnN ns ms nodes) (ms[a]'(by omega)) j) ↔ (out nodes ns[a] i ↔ out nodes ns[a] j) := fun a ha => by rw [rn_out g f md hl ha, rn_out g f md hl ha]
  constructor
  · rintro ⟨o, ho, hn⟩
    obtain ⟨k, hk, e⟩ := List.getElem_of_mem ho
    rw [List.getElem_drop] at e
    rw [List.length_drop] at hk
    subst e
    exact ⟨ns[ni + k]'(by omega), List.mem_of_getElem? (i := k) (by rw [List.getElem?_drop, List.getElem?_eq_getElem (by omega)]), fun z => hn ((key (ni + k) (by omega)).mpr z)⟩
  · rintro ⟨o, ho, hn⟩
    obtain ⟨k, hk, e⟩ := List.getElem_of_mem ho
    rw [List.getElem_drop] at e
    rw [List.length_drop] at hk
    subst e
    exact ⟨ms[ni + k]'(by omega), List.mem_of_getElem? (i := k) (by rw [List.getElem?_drop, List.getElem?_eq_getElem (by omega)]), fun z => hn ((key (ni + k) (by omega)).mp z)⟩
theorem rn_clash (g : Good ns rows nodes) (f : Full ni ns nodes) (md : ms.Nodup) (hl : ms.length = ns.length) : clash ni ms rows (rnN ns ms nodes) = clash ni ns rows nodes := by
  rw [clash_pr, clash_pr]
  congr 1
  have g' := g.named f md hl
  have hp : (prL ni ms rows (rnN ns ms nodes)).Perm (prL ni ns rows nodes) := (List.perm_ext_iff_of_nodup pr_nodup pr_nodup).mpr fun q => by
    rw [mem_pr g', mem_pr g, rn_clp g f md hl]
  rw [← sortQ hp pr_le]
  exact (sortQ (List.Perm.refl _) pr_le).symm
theorem named_ok (g : Good ns rows nodes) (f : Full ni ns nodes) (md : ms.Nodup) (hl : ms.length = ns.length) : m__law_named (sheetD ni ns rows nodes) (.lst (dn ms)) = .ok (sheetD ni ms rows (rnN ns ms nodes)) := by
  have i4 := f.i4
  have o1 := f.o1
  have o7 := f.o7
  have hlt : lenD (.lst (dn (ns.take ni))) = some (.int (ni : Nat)) := by rw [sx_len, dn_len, List.length_take]; congr 2; omega
  have hz : dzipLD (.lst (dn ns)) (.lst (dn ms)) = some (dict D.str (ns.zip ms)) := by
    show (match strsD (ns.map D.str) with | some ks => some (dzipLL ks (dn ms) []) | none => none) = _
    rw [strsD_map]
    have := zip_dict59 ns ms [] (by rw [show ky ([] : List (List Nat × List Nat)) = [] from rfl, List.nil_append]; exact g.nd)
    rw [show dict D.str [] = [] from rfl, List.nil_append] at this
    simp only
    rw [this]
  have hget : ∀ w ∈ ns, dgetD (.dct false (dict D.str (ns.zip ms))) (.str w) = some (.str (rnm ns ms w)) := fun w hw => by
    obtain ⟨i, hi, rfl⟩ := List.getElem_of_mem hw
    rw [rnm_at g.nd hl hi]
    refine dict_get (e := D.str) (lk_of ?_ ?_)
    · rw [ky, List.map_fst_zip (by omega)]; exact g.nd
    · exact List.mem_iff_getElem?.mpr ⟨i, List.getElem?_zip_eq_some.mpr ⟨List.getElem?_eq_getElem hi, List.getElem?_eq_getElem (by omega)⟩⟩
  refine of_sat ?_
  unfold m__law_named
  refine sat_ob sheet0 (sat_ob sheet1 (sat_ob (names_cat g.nl) (sat_ob hz (sat_ob sheet3 (sat_ob (c := (nD nodes).map .lst) rfl (sat_rbe (r := (nD (rnN ns ms nodes)).map .lst) ?_ (sat_ob sheet0 (sat_ob hlt (sat_ob (c := (ni : Int)) rfl (sat_ob slL_to'' (sat_ob sheet0 (sat_ob hlt (sat_ob (c := (ni : Int)) rfl (sat_ob slL_fr'' (sat_ob sheet2 (sat_ok ?_))))))))))))))))
  · unfold nD rnN
    rw [List.map_map, List.map_map, List.map_map, fmR_xs (g := fun l : List Turn => some (.lst ((l.map fun p => (rnm ns ms p.1, p.2)).map tD))) nodes fun l hm => ?_, List.filterMap_eq_map']
    · rfl
    obtain ⟨i, hi, rfl⟩ := List.getElem_of_mem hm
    have hnm : ∀ p ∈ nodes[i], p.1 ∈ ns := fun p hp => f.nm i p (by unfold nx; rw [List.getD_eq_getElem?_getD, List.getElem?_eq_getElem hi]; exact hp)
    refine of_sat (sat_ob (c := nodes[i].map tD) rfl (sat_rbe (r := (nodes[i].map fun p => (rnm ns ms p.1, p.2)).map tD) ?_ (sat_ok rfl)))
    rw [fmR_xs (e := tD) (g := fun p => some (tD (rnm ns ms p.1, p.2))) nodes[i] fun p hp => ?_, List.filterMap_eq_map', List.map_map]
    · rfl
    exact of_sat (sat_ob (c := (D.str p.1, D.int (p.2 : Nat))) rfl (sat_ob (hget _ (hnm p hp)) (sat_ok rfl)))
  · simp only [sheetD, NL, dn, List.map_take, List.map_drop]
end
end W

namespace W
open PySem VL PySem.W
/-! k59: whether nodes of the same signs want the same, by a dict of the signs -/
theorem sat_forLr59 {Z R : Type} {f : Z → D → Res (Fl Z R)} {I : Nat → Z → Prop} {P : R → Prop} : ∀ (ds : List D) (z0 : Z) (n : Nat), I n z0 → (∀ i z d, ds[i]? = some d → I (n + i) z → Sat (f z d) (fun o => (∃ z', o = .nx z' ∧ I (n + i + 1) z') ∨ ∃ r, o = .rt r ∧ P r)) → Sat (forL ds z0 f) (fun o => (∃ z', o = .nx z' ∧ I (n + ds.length) z') ∨ ∃ r, o = .rt r ∧ P r)
  | [], z0, n, h0, _ => ⟨_, rfl, .inl ⟨z0, rfl, h0⟩⟩
  | d :: r, z0, n, h0, h => by
    refine sat_rb (h 0 z0 d rfl h0) fun o hz => ?_
    rcases hz with ⟨z, rfl, hz⟩ | ⟨x, rfl, hx⟩
    · have := sat_forLr59 (I := I) (P := P) r z (n + 1) hz fun i z d e hi => by
        have := h (i + 1) z d (by simpa using e) (by rw [show n + (i + 1) = n + 1 + i by omega]; exact hi)
        rwa [show n + (i + 1) = n + 1 + i by omega] at this
      rwa [show n + 1 + r.length = n + (d :: r).length by simp; omega] at this
    · exact ⟨_, rfl, .inr ⟨x, rfl, hx⟩⟩
def oK : Option (List Nat) → D | none => .non | some s => .str s
abbrev SgL := List (Option (List Nat) × List (List Nat))
def sgD (l : SgL) : List (D × D) := l.map fun p => (oK p.1, .lst (dn p.2))
def lkS (l : SgL) (k : Option (List Nat)) : Option (List (List Nat)) := (l.find? fun p => decide (p.1 = k)).map (·.2)
def stS (l : SgL) (k : Option (List Nat)) (v : List (List Nat)) : SgL := if (l.any fun p => decide (p.1 = k)) = true then l.map (fun p => if p.1 = k then (p.1, v) else p) else l ++ [(k, v)]
theorem oK_eqv (a b : Option (List Nat)) : D.eqv (oK a) (oK b) = decide (a = b) := by
  cases a <;> cases b
  · rfl
  · simp [oK, D.eqv]
  · simp [oK, D.eqv]
  · simp [oK, D.eqv]
    rw [Bool.eq_iff_iff]; simp
theorem oK_ok (a : Option (List Nat)) : (lfD (oK a)).isSome = true := by cases a <;> rfl
theorem sg_find (k : Option (List Nat)) : ∀ l : SgL, findD (sgD l) (oK k) = (lkS l k).map fun v => .lst (dn v)
  | [] => rfl
  | p :: r => by
    have ih := sg_find k r
    unfold findD lkS sgD at *
    rw [List.map_cons, List.find?_cons, List.find?_cons]
    simp only [oK_eqv]
    cases decide (p.1 = k)
    · exact ih
    · rfl
theorem sg_store (l : SgL) (k : Option (List Nat)) (v : List (List Nat)) : storeD (sgD l) (oK k) (.lst (dn v)) = sgD (stS l k v) := by
  unfold storeD stS sgD
  rw [List.any_map, show ((fun kv : D × D => D.eqv kv.1 (oK k)) ∘ fun p : Option (List Nat) × List (List Nat) => (oK p.1, D.lst (dn p.2))) = fun p => decide (p.1 = k) from funext fun p => oK_eqv p.1 k]
  split
  · rw [List.map_map, List.map_map]
    refine List.map_congr_left fun p _ => ?_
    simp only [Function.comp, oK_eqv]
    by_cases h : p.1 = k
    · simp [h]
    · simp [h]
  · simp
theorem st_len (l : SgL) (k : Option (List Nat)) (v : List (List Nat)) : (stS l k v).length ≤ l.length + 1 := by
  unfold stS
  split
  · rw [List.length_map]; omega
  · rw [List.length_append]; simp
theorem lk_st (k q : Option (List Nat)) (v : List (List Nat)) : ∀ l : SgL, lkS (stS l k v) q = if k = q then some v else lkS l q := by
  have app : ∀ l : SgL, (l.any fun p => decide (p.1 = k)) = false → lkS (l ++ [(k, v)]) q = if k = q then some v else lkS l q := fun l h => by
    induction l with
    | nil =>
      unfold lkS
      by_cases e : k = q
      · simp [e]
      · simp [e]
    | cons p r ih =>
      rw [List.any_cons, Bool.or_eq_false_iff] at h
      have hp : ¬ p.1 = k := of_decide_eq_false h.1
      have ih := ih h.2
      unfold lkS at ih ⊢
      rw [List.cons_append, List.find?_cons, List.find?_cons]
      by_cases e : p.1 = q
      · have : ¬ k = q := fun z => hp (e.trans z.symm)
        simp [e, this]
      · rw [decide_eq_false e]; exact ih
  have mp : ∀ l : SgL, lkS (l.map fun p => if p.1 = k then (p.1, v) else p) q = if k = q then (if (l.any fun p => decide (p.1 = k)) = true then some v else none) else lkS l q := fun l => by
    induction l with
    | nil => unfold lkS; split <;> rfl
    | cons p r ih =>
      unfold lkS at ih ⊢
      rw [List.map_cons, List.find?_cons, List.find?_cons, List.any_cons]
      by_cases hp : p.1 = k
      · rw [if_pos hp]
        by_cases e : k = q
        · subst e
          simp [hp]
        · have : ¬ p.1 = q := fun z => e (hp.symm.trans z)
          rw [decide_eq_false this, if_neg e]
          rw [if_neg e] at ih
          exact ih
      · rw [if_neg hp]
        by_cases e : k = q
        · subst e
          rw [decide_eq_false hp, Bool.false_or]
          exact ih
        · rw [if_neg e] at ih ⊢
          by_cases e2 : p.1 = q
          · simp [e2]
          · rw [decide_eq_false e2]; exact ih
  intro l
  unfold stS
  cases h : (l.any fun p => decide (p.1 = k)) with
  | true =>
    rw [if_pos rfl, mp l, h]; rfl
  | false =>
    rw [if_neg (by simp), app l h]
section
variable {ni : Nat} {ns rows : List (List Nat)} {nodes : List (List Turn)}
/-- the outputs that turn at a node, in the order of letters -/
def so (ni : Nat) (ns : List (List Nat)) (nodes : List (List Turn)) (i : Nat) : List (List Nat) := ((ky (nx nodes i)).filter fun w => decide (w ∈ ns.drop ni)).mergeSort leN
theorem so_mem {i : Nat} {o : List Nat} : o ∈ so ni ns nodes i ↔ o ∈ ns.drop ni ∧ out nodes o i := by
  unfold so
  rw [List.mem_mergeSort, List.mem_filter, decide_eq_true_iff]
  exact and_comm
theorem so_dif (f : Full ni ns nodes) (i j : Nat) : so ni ns nodes i = so ni ns nodes j ↔ ¬ Dif ni ns nodes i j := by
  constructor
  · rintro h ⟨o, ho, hn⟩
    have a := so_mem (ni := ni) (ns := ns) (nodes := nodes) (i := i) (o := o)
    have b := so_mem (ni := ni) (ns := ns) (nodes := nodes) (i := j) (o := o)
    rw [h] at a
    have := a.symm.trans b
    exact hn ⟨fun z => (this.mp ⟨ho, z⟩).2, fun z => (this.mpr ⟨ho, z⟩).2⟩
  · intro h
    unfold so
    refine sort_perm ?_
    have nd : ∀ k, ((ky (nx nodes k)).filter fun w => decide (w ∈ ns.drop ni)).Nodup := fun k => List.Nodup.sublist List.filter_sublist (f.nod k)
    refine (List.perm_ext_iff_of_nodup (nd i) (nd j)).mpr fun o => ?_
    rw [List.mem_filter, List.mem_filter, decide_eq_true_iff]
    refine ⟨fun ⟨a, b⟩ => ⟨?_, b⟩, fun ⟨a, b⟩ => ⟨?_, b⟩⟩
    · exact Classical.byContradiction fun z => h ⟨o, b, fun q => z (q.mp a)⟩
    · exact Classical.byContradiction fun z => h ⟨o, b, fun q => z (q.mpr a)⟩
theorem here_ok (i : Nat) (hl : (nx nodes i).length ≤ 1000) : fmR ((nx nodes i).map tD) (fun d9 => ob (un2 d9) fun p12 => ob (ixD (sheetD ni ns rows nodes) (.int 1)) fun t14 => ob (inD p12.1 t14) fun t13 => if t13 = true then (.ok (some p12.1) : Res (Option D)) else .ok none) = .ok (dn ((ky (nx nodes i)).filter fun w => decide (w ∈ ns.drop ni))) := by
  rw [fmR_xs (e := tD) (g := fun p => if decide (p.1 ∈ ns.drop ni) = true then some (D.str p.1) else none) (nx nodes i) fun p _ => ?_]
  · rw [filterMap_if]
    unfold dn ky
    rw [List.filter_map, List.map_map]; rfl
  · refine of_sat (sat_ob (c := (D.str p.1, D.int (p.2 : Nat))) rfl (sat_ob sheet1 (sat_ob (in_dn _ _) ?_)))
    split
    · exact sat_ok rfl
    · exact sat_ok rfl
open Classical in
noncomputable def sgO (rows : List (List Nat)) (nodes : List (List Turn)) (i : Nat) : Option (List Nat) := if Reach nodes i then some (rw_ rows i) else none
/-- what the dict tells behind j nodes -/
structure BySg (ni : Nat) (ns rows : List (List Nat)) (nodes : List (List Turn)) (j : Nat) (l : SgL) : Prop where
  len : l.length ≤ j
  no : ∀ i i', i < j → i' < j → Reach nodes i → Reach nodes i' → rw_ rows i = rw_ rows i' → so ni ns nodes i = so ni ns nodes i'
  at_ : ∀ s v, lkS l (some s) = some v → ∃ i, i < j ∧ Reach nodes i ∧ rw_ rows i = s ∧ so ni ns nodes i = v
  none_ : ∀ s, lkS l (some s) = none → ∀ i, i < j → Reach nodes i → rw_ rows i ≠ s
theorem by_ok (g : Good ns rows nodes) (f : Full ni ns nodes) : m__law_by_signs (sheetD ni ns rows nodes) = .ok (.bl (prL ni ns rows nodes).isEmpty) := by
  classical
  have n40 := f.n40
  have hnl := g.nl
  have hzip : zipD (dueL rows nodes) ((nD nodes).map .lst) = (List.range nodes.length).map fun i => D.tup [oK (sgO rows nodes i), .lst ((nx nodes i).map tD)] := by
    have hz : ∀ (l : List Nat) (f h : Nat → D), zipD (l.map f) (l.map h) = l.map fun i => D.tup [f i, h i] := fun l f h => by
      induction l with
      | nil => rfl
      | cons a r ih => show D.tup [f a, h a] :: zipD (r.map f) (r.map h) = _; rw [ih]; rfl
    have e2 : (nD nodes).map D.lst = (List.range nodes.length).map fun i => D.lst ((nx nodes i).map tD) := by
      refine List.ext_getElem (by simp [nD]) fun i h1 h2 => ?_
      simp only [List.getElem_map, List.getElem_range, nD]
      unfold nx
      rw [List.getD_eq_getElem?_getD, List.getElem?_eq_getElem (by simpa [nD] using h1)]; rfl
    have e1 : dueL rows nodes = (List.range nodes.length).map fun i => oK (sgO rows nodes i) := by
      unfold dueL
      refine List.map_congr_left fun i _ => ?_
      unfold sgO
      by_cases h : Reach nodes i
      · rw [if_pos h, if_pos h]; rfl
      · rw [if_neg h, if_neg h]; rfl
    rw [e1, e2, hz]
  refine of_sat ?_
  unfold m__law_by_signs
  refine sat_rbe (signs_ok g) (sat_ob sheet3 (sat_ob (c := dueL rows nodes) rfl (sat_ob (c := (nD nodes).map .lst) rfl ?_)))
  rw [hzip]
  refine sat_rb (sat_forLr59 (I := fun (j : Nat) (z : List (D × D)) => ∃ l : SgL, z = sgD l ∧ BySg ni ns rows nodes j l) (P := fun r : D => r = .bl false ∧ (prL ni ns rows nodes).isEmpty = false) _ [] 0 ⟨[], rfl, by simp, fun i i' h => absurd h (Nat.not_lt_zero _), fun s v h => (by cases h), fun s _ i h => absurd h (Nat.not_lt_zero _)⟩ fun j z d hd hz => ?_) fun o ho => ?_
  · rw [Nat.zero_add] at hz ⊢
    obtain ⟨l, rfl, B⟩ := hz
    have hj : j < nodes.length := by
      have := (List.getElem?_eq_some_iff.mp hd).1
      rwa [List.length_map, List.length_range] at this
    have ed : d = .tup [oK (sgO rows nodes j), .lst ((nx nodes j).map tD)] := by
      rw [List.getElem?_map, List.getElem?_range hj] at hd
      exact (Option.some.inj hd).symm
    subst ed
    have el := g.el j
    have hput : lputD (sgD l) (oK (sgO rows nodes j)) (.lst (dn (so ni ns nodes j))) = some (sgD (stS l (sgO rows nodes j) (so ni ns nodes j))) := by
      unfold lputD
      rw [if_pos ⟨oK_ok _, by unfold sgD; rw [List.length_map]; have := B.len; omega⟩, sg_store]
    refine sat_ob (c := (oK (sgO rows nodes j), D.lst ((nx nodes j).map tD))) rfl (sat_ob (c := (nx nodes j).map tD) rfl (sat_rbe (here_ok j el) (sat_ob (sort_dn (by
      refine Nat.le_trans (List.length_filter_le _ _) ?_
      unfold ky
      rw [List.length_map]; exact el)) ?_)))
    show Sat (ob (nnD (oK (sgO rows nodes j)) .non) _) _
    have fin : BySg ni ns rows nodes (j + 1) (stS l (sgO rows nodes j) (so ni ns nodes j)) → Sat (ob (lputD (sgD l) (oK (sgO rows nodes j)) (.lst (dn (so ni ns nodes j)))) fun t19 => (.ok (.nx t19) : Res (Fl (List (D × D)) D))) (fun o => (∃ z', o = .nx z' ∧ ∃ l : SgL, z' = sgD l ∧ BySg ni ns rows nodes (j + 1) l) ∨ ∃ r, o = .rt r ∧ r = .bl false ∧ (prL ni ns rows nodes).isEmpty = false) := fun h => sat_ob hput (sat_ok (.inl ⟨_, rfl, _, rfl, h⟩))
    have hlen := st_len l (sgO rows nodes j) (so ni ns nodes j)
    by_cases hr : Reach nodes j
    · have es : sgO rows nodes j = some (rw_ rows j) := if_pos hr
      rw [es] at fin hput ⊢
      rw [es] at hlen
      refine sat_ob (c := true) rfl ?_
      have hget : lget2D (sgD l) (oK (some (rw_ rows j))) (.lst (dn (so ni ns nodes j))) = some (.lst (dn ((lkS l (some (rw_ rows j))).getD (so ni ns nodes j)))) := by
        unfold lget2D
        rw [if_pos (oK_ok _), sg_find]
        cases lkS l (some (rw_ rows j)) <;> rfl
      refine sat_rbe (r := (!decide ((lkS l (some (rw_ rows j))).getD (so ni ns nodes j) = so ni ns nodes j), ())) (of_sat (sat_if (fun _ => sat_ob hget (sat_ob (ne_dn2 _ _) (sat_ok rfl))) fun z => absurd rfl z)) ?_
      by_cases he : (lkS l (some (rw_ rows j))).getD (so ni ns nodes j) = so ni ns nodes j
      · rw [decide_eq_true he]
        refine sat_if (fun z => by cases z) fun _ => fin ⟨by have := B.len; omega, ?_, fun s v h => ?_, fun s h i hi hri => ?_⟩
        · have key : ∀ i, i < j → Reach nodes i → rw_ rows i = rw_ rows j → so ni ns nodes i = so ni ns nodes j := fun i hi hri e => by
            cases q : lkS l (some (rw_ rows j)) with
            | none => exact absurd e (B.none_ _ q i hi hri)
            | some v =>
              obtain ⟨k, hk, hrk, ek, ev⟩ := B.at_ _ _ q
              rw [q] at he
              rw [B.no i k hi hk hri hrk (e.trans ek.symm), ev]; exact he
          intro i i' hi hi' hri hri' e
          by_cases h1 : i = j
          · subst h1
            by_cases h2 : i' = i
            · subst h2; rfl
            · exact (key i' (by omega) hri' e.symm).symm
          · by_cases h2 : i' = j
            · subst h2
              exact key i (by omega) hri e
            · exact B.no i i' (by omega) (by omega) hri hri' e
        · rw [lk_st] at h
          split at h
          · rename_i e
            injection e with e
            injection h with h
            exact ⟨j, by omega, hr, e, h⟩
          · obtain ⟨i, a, b, c, d⟩ := B.at_ s v h
            exact ⟨i, by omega, b, c, d⟩
        · rw [lk_st] at h
          split at h
          · cases h
          · rename_i e
            by_cases hij : i = j
            · subst hij
              exact fun z => e (by rw [z])
            · exact B.none_ s h i (by omega) hri
      · rw [decide_eq_false he]
        refine sat_if (fun _ => sat_ok (.inr ⟨_, rfl, rfl, ?_⟩)) fun z => absurd rfl z
        cases q : lkS l (some (rw_ rows j)) with
        | none => rw [q] at he; exact absurd rfl he
        | some v =>
          rw [q] at he
          obtain ⟨k, hk, hrk, ek, ev⟩ := B.at_ _ _ q
          have hd : Dif ni ns nodes k j := Classical.byContradiction fun z => he (by show v = _; rw [← ev]; exact (so_dif f k j).mpr z)
          have hm : (k, j) ∈ prL ni ns rows nodes := (mem_pr g).mpr ⟨hk, hrk, hr, ek, hd⟩
          cases e : prL ni ns rows nodes with
          | nil => rw [e] at hm; cases hm
          | cons _ _ => rfl
    · have es : sgO rows nodes j = none := if_neg hr
      rw [es] at fin hput ⊢
      rw [es] at hlen
      refine sat_ob (c := false) rfl (sat_rbe (r := (false, ())) (of_sat (sat_if (fun z => by cases z) fun _ => sat_ok rfl)) (sat_if (fun z => by cases z) fun _ => fin ⟨by have := B.len; omega, fun i i' hi hi' hri hri' e => ?_, fun s v h => ?_, fun s h i hi hri => ?_⟩))
      · have h1 : i ≠ j := fun z => hr (z ▸ hri)
        have h2 : i' ≠ j := fun z => hr (z ▸ hri')
        exact B.no i i' (by omega) (by omega) hri hri' e
      · rw [lk_st, if_neg (by simp)] at h
        obtain ⟨i, a, b, c, d⟩ := B.at_ s v h
        exact ⟨i, by omega, b, c, d⟩
      · rw [lk_st, if_neg (by simp)] at h
        have h1 : i ≠ j := fun z => hr (z ▸ hri)
        exact B.none_ s h i (by omega) hri
  · rcases ho with ⟨z, rfl, l, _, B⟩ | ⟨r, rfl, rfl, hp⟩
    · rw [Nat.zero_add, List.length_map, List.length_range] at B
      have he : prL ni ns rows nodes = [] := List.eq_nil_iff_forall_not_mem.mpr fun p hp => by
        obtain ⟨_, h1, h2, h3, h4⟩ := (mem_pr g).mp hp
        exact (so_dif f p.1 p.2).mp (B.no _ _ (g.lt _ h1) (g.lt _ h2) h1 h2 h3) h4
      rw [he]
      exact sat_ok rfl
    · rw [hp]
      exact sat_ok rfl
end
end W

namespace W
open PySem VL PySem.W
/-! k59: a sheet with a twin of node 0 -/
section
variable {ni : Nat} {ns rows : List (List Nat)} {nodes : List (List Turn)}
theorem flipC2 {c : Nat} (h : c = 48 ∨ c = 49) : flipC (flipC c) = c := by rcases h with rfl | rfl <;> rfl
theorem flipS2 {s : List Nat} {i : Nat} (b : Bits s) (h : i < s.length) : flipS (flipS s i) i = s := by
  have hg : (flipS s i).getD i 0 = flipC (s.getD i 0) := by
    unfold flipS
    rw [List.getD_eq_getElem?_getD, List.append_assoc, List.getElem?_append_right (by simp; omega)]
    simp [Nat.min_eq_left (Nat.le_of_lt h)]
  have ht : (flipS s i).take i = s.take i := by
    unfold flipS
    rw [List.append_assoc, List.take_append_of_le_length (by simp; omega), List.take_take]
    simp
  have hd : (flipS s i).drop (i + 1) = s.drop (i + 1) := by
    unfold flipS
    rw [List.drop_append, List.drop_eq_nil_of_le (by simp; omega)]
    simp [Nat.min_eq_left (Nat.le_of_lt h)]
  have hs : s.getD i 0 = s[i] := by rw [List.getD_eq_getElem?_getD, List.getElem?_eq_getElem h]; rfl
  show (flipS s i).take i ++ [flipC ((flipS s i).getD i 0)] ++ (flipS s i).drop (i + 1) = s
  rw [hg, ht, hd, flipC2 (by rw [hs]; exact b _ (List.getElem_mem h)), hs]
  simp
/-- the first node's turns without those of the first wire, then that one to n -/
def fst59 (x : List Nat) (n : Nat) (l : List Turn) : List Turn := (l.filter fun p => !decide (p.1 = x)) ++ [(x, n)]
def tw59 (ni : Nat) (ns : List (List Nat)) (l : List Turn) : List Turn := l.filter fun p => decide (p.1 ∈ ns.take ni)
def twin (ni : Nat) (ns : List (List Nat)) (nodes : List (List Turn)) : List (List Turn) :=
  [fst59 (ns.getD 0 []) nodes.length (nx nodes 0)] ++ nodes.drop 1 ++ [[(ns.getD 0 [], nodes.length + 1)], tw59 ni ns (nx nodes 0)]
def rowsT (n : Nat) (rows : List (List Nat)) : List (List Nat) := (List.range n).map (rw_ rows) ++ [flipS (rw_ rows 0) 0, rw_ rows 0]
theorem twin_len (h : 0 < nodes.length) : (twin ni ns nodes).length = nodes.length + 2 := by
  unfold twin
  simp; omega
theorem nx_twin (h : 0 < nodes.length) (i : Nat) : nx (twin ni ns nodes) i = if i = 0 then fst59 (ns.getD 0 []) nodes.length (nx nodes 0) else if i < nodes.length then nx nodes i else if i = nodes.length then [(ns.getD 0 [], nodes.length + 1)] else if i = nodes.length + 1 then tw59 ni ns (nx nodes 0) else [] := by
  unfold twin
  rw [nx_two]
  have hl : ([fst59 (ns.getD 0 []) nodes.length (nx nodes 0)] ++ nodes.drop 1).length = nodes.length := by simp; omega
  rw [hl]
  by_cases h0 : i = 0
  · subst h0
    rw [if_pos h, if_pos rfl]; rfl
  rw [if_neg h0]
  by_cases h1 : i < nodes.length
  · rw [if_pos h1, if_pos h1, nx_two, if_neg (by simp; omega)]
    show nx (nodes.drop 1) (i - 1) = nx nodes i
    unfold nx
    rw [List.getD_eq_getElem?_getD, List.getD_eq_getElem?_getD, List.getElem?_drop]
    congr 2; omega
  rw [if_neg h1, if_neg h1]
  by_cases h2 : i = nodes.length
  · subst h2; rw [if_pos rfl, Nat.sub_self]; rfl
  rw [if_neg h2]
  by_cases h3 : i = nodes.length + 1
  · subst h3
    rw [if_pos rfl, show nodes.length + 1 - nodes.length = 1 by omega]; rfl
  rw [if_neg h3]
  exact nx_out (by simp; omega)
theorem rwT {n i : Nat} : rw_ (rowsT n rows) i = if i < n then rw_ rows i else if i = n then flipS (rw_ rows 0) 0 else if i = n + 1 then rw_ rows 0 else [] := by
  unfold rowsT
  conv => lhs; unfold rw_
  rw [List.getD_eq_getElem?_getD]
  by_cases h1 : i < n
  · rw [if_pos h1, List.getElem?_append_left (by simpa using h1), List.getElem?_map, List.getElem?_range h1]; rfl
  rw [if_neg h1, List.getElem?_append_right (by simp; omega)]
  simp only [List.length_map, List.length_range]
  by_cases h2 : i = n
  · subst h2; rw [if_pos rfl, Nat.sub_self]; rfl
  rw [if_neg h2]
  by_cases h3 : i = n + 1
  · subst h3
    rw [if_pos rfl, show n + 1 - n = 1 by omega]; rfl
  rw [if_neg h3, List.getElem?_eq_none (by simp; omega)]; rfl
theorem mem_fst {x : List Nat} {n : Nat} {l : List Turn} {p : Turn} : p ∈ fst59 x n l ↔ (p ∈ l ∧ p.1 ≠ x) ∨ p = (x, n) := by
  unfold fst59
  rw [List.mem_append, List.mem_filter, List.mem_singleton]
  simp
theorem mem_tw {l : List Turn} {p : Turn} : p ∈ tw59 ni ns l ↔ p ∈ l ∧ p.1 ∈ ns.take ni := by
  unfold tw59
  rw [List.mem_filter, decide_eq_true_iff]
theorem twin_reach (g : Good ns rows nodes) : ∀ i, Reach (twin ni ns nodes) i → (i < nodes.length ∧ Reach nodes i) ∨ i = nodes.length ∨ i = nodes.length + 1 := fun i h => by
  have n0 := g.lt 0 .zero
  induction h with
  | zero => exact .inl ⟨n0, .zero⟩
  | step a b ih =>
    rename_i i p
    rw [nx_twin n0] at b
    split at b
    · rcases mem_fst.mp b with ⟨h1, _⟩ | rfl
      · exact .inl ⟨g.ex 0 p h1, .step .zero h1⟩
      · exact .inr (.inl rfl)
    · split at b
      · rename_i h0 hi
        rcases ih with ⟨_, hr⟩ | h | h
        · exact .inl ⟨g.ex i p b, .step hr b⟩
        · omega
        · omega
      · split at b
        · rw [List.mem_singleton.mp b]; exact .inr (.inr rfl)
        · split at b
          · have h1 := (mem_tw.mp b).1
            exact .inl ⟨g.ex 0 p h1, .step .zero h1⟩
          · cases b
theorem twin_full (g : Good ns rows nodes) (f : Full ni ns nodes) (h38 : nodes.length ≤ 38) : Full ni ns (twin ni ns nodes) := by
  have n0 := g.lt 0 .zero
  have o1 := f.o1
  have hx : ns.getD 0 [] ∈ ns := by
    rw [List.getD_eq_getElem?_getD, List.getElem?_eq_getElem (by omega)]; exact List.getElem_mem _
  refine ⟨f.i4, f.o1, f.o7, f.wo, by rw [twin_len n0]; omega, fun i p hp => ?_, fun i => ?_⟩
  · rw [nx_twin n0] at hp
    split at hp
    · rcases mem_fst.mp hp with ⟨h1, _⟩ | rfl
      · exact f.nm 0 p h1
      · exact hx
    · split at hp
      · exact f.nm i p hp
      · split at hp
        · rw [List.mem_singleton.mp hp]; exact hx
        · split at hp
          · exact f.nm 0 p (mem_tw.mp hp).1
          · cases hp
  · rw [nx_twin n0]
    split
    · unfold fst59
      rw [List.map_append, List.nodup_append]
      refine ⟨(f.nod 0).sublist (List.filter_sublist.map _), by simp, fun a ha b hb e => ?_⟩
      obtain ⟨p, hp, rfl⟩ := List.mem_map.mp ha
      have hb : b = ns.getD 0 [] := by simpa using hb
      have := (List.mem_filter.mp hp).2
      subst hb
      simp [e] at this
    · split
      · exact f.nod i
      · split
        · simp
        · split
          · unfold tw59
            exact (f.nod 0).sublist (List.filter_sublist.map _)
          · simp
theorem twin_good (g : Good ns rows nodes) (f : Full ni ns nodes) : Good ns (rowsT nodes.length rows) (twin ni ns nodes) ∧ rw_ (rowsT nodes.length rows) 0 = rw_ rows 0 := by
  have n0 := g.lt 0 .zero
  have o1 := f.o1
  have n40 := f.n40
  have hl := twin_len (ni := ni) (ns := ns) n0
  have hx : ns.getD 0 [] = ns[0]'(by omega) := by
    rw [List.getD_eq_getElem?_getD, List.getElem?_eq_getElem (by omega)]; rfl
  obtain ⟨rl0, rb0⟩ := g.rl 0 .zero
  have r0 : rw_ (rowsT nodes.length rows) 0 = rw_ rows 0 := by rw [rwT, if_pos n0]
  have rlT : ∀ i, Reach (twin ni ns nodes) i → (rw_ (rowsT nodes.length rows) i).length = ns.length ∧ Bits (rw_ (rowsT nodes.length rows) i) := fun i h => by
    rw [rwT]
    rcases twin_reach g i h with ⟨h1, h2⟩ | h1 | h1
    · rw [if_pos h1]; exact g.rl i h2
    · rw [if_neg (by omega), if_pos h1]
      exact ⟨by rw [flipS_len (by omega)]; exact rl0, flipS_bits rb0⟩
    · rw [if_neg (by omega), if_neg (by omega), if_pos h1]; exact ⟨rl0, rb0⟩
  have exT : ∀ i, ∀ p ∈ nx (twin ni ns nodes) i, p.2 < nodes.length + 2 := fun i p hp => by
    rw [nx_twin n0] at hp
    split at hp
    · rcases mem_fst.mp hp with ⟨h1, _⟩ | rfl
      · have := g.ex 0 p h1; omega
      · show nodes.length < _; omega
    · split at hp
      · have := g.ex i p hp; omega
      · split at hp
        · rw [List.mem_singleton.mp hp]; show nodes.length + 1 < _; omega
        · split at hp
          · have := g.ex 0 p (mem_tw.mp hp).1; omega
          · cases hp
  have nodT : ∀ i, ((nx (twin ni ns nodes) i).map (·.1)).Nodup := fun i => by
    rw [nx_twin n0]
    split
    · unfold fst59
      rw [List.map_append, List.nodup_append]
      refine ⟨(f.nod 0).sublist (List.filter_sublist.map _), by simp, fun a ha b hb e => ?_⟩
      obtain ⟨p, hp, rfl⟩ := List.mem_map.mp ha
      have hb : b = ns.getD 0 [] := by simpa using hb
      have := (List.mem_filter.mp hp).2
      subst hb
      simp [e] at this
    · split
      · exact f.nod i
      · split
        · simp
        · split
          · unfold tw59
            exact (f.nod 0).sublist (List.filter_sublist.map _)
          · simp
  refine ⟨⟨g.nd, g.nl, by rw [hl]; omega, fun i h => ?_, rlT, fun i => ?_, fun i p hp => by rw [hl]; exact exT i p hp, fun i _ => nodT i, fun i h p hp => ?_⟩, r0⟩
  · rw [hl]
    rcases twin_reach g i h with ⟨h1, _⟩ | h1 | h1 <;> omega
  · rw [nx_twin n0]
    have e0 := f.nod 0
    have l0 : (nx nodes 0).length ≤ 900 := by
      have h0 : ((nx nodes 0).map (·.1)).length ≤ ns.length := by
        refine pigeon e0 fun x hx => ?_
        obtain ⟨p, hp, rfl⟩ := List.mem_map.mp hx
        exact f.nm 0 p hp
      rw [List.length_map] at h0
      have := g.nl
      omega
    split
    · unfold fst59
      rw [List.length_append, List.length_singleton]
      have := List.length_filter_le (fun p : Turn => !decide (p.1 = ns.getD 0 [])) (nx nodes 0)
      omega
    · split
      · exact g.el i
      · split
        · simp
        · split
          · unfold tw59
            have := List.length_filter_le (fun p : Turn => decide (p.1 ∈ ns.take ni)) (nx nodes 0)
            omega
          · simp
  · have old : ∀ k (hk : k < nodes.length), Reach nodes k → ∀ q ∈ nx nodes k, ∃ a, ∃ h : a < ns.length, q.1 = ns[a] ∧ rw_ (rowsT nodes.length rows) q.2 = flipS (rw_ rows k) a := fun k hk hr q hq => by
      obtain ⟨a, ha, e1, e2⟩ := g.ed k hr q hq
      exact ⟨a, ha, e1, by rw [rwT, if_pos (g.ex k q hq)]; exact e2⟩
    rcases twin_reach g i h with ⟨h1, h2⟩ | h1 | h1
    · rw [rwT (i := i), if_pos h1]
      rw [nx_twin n0] at hp
      split at hp
      · rename_i h0
        subst h0
        rcases mem_fst.mp hp with ⟨h3, _⟩ | rfl
        · exact old 0 n0 .zero p h3
        · exact ⟨0, by omega, hx, by rw [rwT, if_neg (by simp), if_pos rfl]⟩
      · exact old i h1 h2 p hp
    · rw [rwT (i := i), if_neg (by omega), if_pos h1]
      rw [nx_twin n0, if_neg (by omega), if_neg (by omega), if_pos h1] at hp
      rw [List.mem_singleton.mp hp]
      exact ⟨0, by omega, hx, by rw [rwT, if_neg (by simp), if_neg (by simp), if_pos rfl, flipS2 rb0 (by omega)]⟩
    · rw [rwT (i := i), if_neg (by omega), if_neg (by omega), if_pos h1]
      rw [nx_twin n0, if_neg (by omega), if_neg (by omega), if_neg (by omega), if_pos h1] at hp
      exact old 0 n0 .zero p (mem_tw.mp hp).1
/-- the outputs that turn at the twin sheet's first node -/
def want0 (ni : Nat) (ns : List (List Nat)) (nodes : List (List Turn)) : List (List Nat) := (ky (nx (twin ni ns nodes) 0)).filter fun w => decide (w ∈ ns.drop ni)
theorem twin_clp (g : Good ns rows nodes) (f : Full ni ns nodes) : ((0, nodes.length + 1) : Nat × Nat) ∈ prL ni ns (rowsT nodes.length rows) (twin ni ns nodes) ↔ want0 ni ns nodes ≠ [] := by
  have n0 := g.lt 0 .zero
  obtain ⟨gT, r0⟩ := twin_good g f
  rw [mem_pr gT]
  have hr1 : Reach (twin ni ns nodes) nodes.length := .step (p := (ns.getD 0 [], nodes.length)) .zero (by rw [nx_twin n0, if_pos rfl]; exact mem_fst.mpr (.inr rfl))
  have hr2 : Reach (twin ni ns nodes) (nodes.length + 1) := .step (p := (ns.getD 0 [], nodes.length + 1)) hr1 (by rw [nx_twin n0, if_neg (by omega), if_neg (by omega), if_pos rfl]; exact List.mem_singleton.mpr rfl)
  have hnone : ∀ o ∈ ns.drop ni, ¬ out (twin ni ns nodes) o (nodes.length + 1) := fun o ho z => by
    unfold out ky at z
    rw [nx_twin n0, if_neg (by omega), if_neg (by omega), if_neg (by omega), if_pos rfl] at z
    obtain ⟨p, hp, rfl⟩ := List.mem_map.mp z
    have h2 := (mem_tw.mp hp).2
    have nd := g.nd
    rw [← List.take_append_drop ni ns, List.nodup_append] at nd
    exact nd.2.2 p.1 h2 p.1 ho rfl
  constructor
  · rintro ⟨_, _, _, _, o, ho, hn⟩ z
    have h0 : out (twin ni ns nodes) o 0 := Classical.byContradiction fun q => hn ⟨fun a => absurd a q, fun a => absurd a (hnone o ho)⟩
    have : o ∈ want0 ni ns nodes := List.mem_filter.mpr ⟨h0, decide_eq_true ho⟩
    rw [z] at this
    cases this
  · intro h
    obtain ⟨o, ho⟩ := List.exists_mem_of_ne_nil _ h
    obtain ⟨h1, h2⟩ := List.mem_filter.mp ho
    have h2 := of_decide_eq_true h2
    refine ⟨by show 0 < _; omega, .zero, hr2, ?_, o, h2, fun z => hnone o h2 (z.mp h1)⟩
    show rw_ (rowsT nodes.length rows) 0 = rw_ (rowsT nodes.length rows) (nodes.length + 1)
    rw [r0, rwT, if_neg (by omega), if_neg (by omega), if_pos rfl]
end
end W

namespace W
open PySem VL
/-! sheets whose nodes that can be come to have rows -/
def BitsT (s : List Nat) : Prop := ∀ c ∈ s, c = 48 ∨ c = 49
def flipCT (c : Nat) : Nat := if c = 48 then 49 else 48
def flipST (s : List Nat) (i : Nat) : List Nat := s.take i ++ [flipCT (s.getD i 0)] ++ s.drop (i + 1)
theorem flipS_lenT {s : List Nat} {i : Nat} (h : i < s.length) : (flipST s i).length = s.length := by
  simp [flipST]; omega
theorem flipS_bitsT {s : List Nat} {i : Nat} (b : BitsT s) : BitsT (flipST s i) := by
  intro c hc
  simp only [flipST, List.mem_append, List.mem_singleton] at hc
  rcases hc with (hc | hc) | hc
  · exact b c (List.mem_of_mem_take hc)
  · subst hc; unfold flipCT; split <;> simp
  · exact b c (List.mem_of_mem_drop hc)
theorem int_bitT {c : Nat} (h : c = 48 ∨ c = 49) : intD (.str [c]) = some (.int (if c = 48 then (0 : Nat) else 1 : Nat)) := by
  have e0 : PySem.intText? (mkS [48]) = some 0 := by decide +kernel
  have e1 : PySem.intText? (mkS [49]) = some 1 := by decide +kernel
  rcases h with rfl | rfl
  · simp [intD, e0]
  · simp [intD, e1]
/-! names -/
theorem index_okT {ns : List (List Nat)} (nd : ns.Nodup) {i : Nat} (h : i < ns.length) : indexD (.lst (dn ns)) (.str ns[i]) = some (.int (i : Nat)) := by
  show (if _ then _ else none) = _
  rw [if_pos ⟨rfl, dn_flat ns⟩]
  have : (dn ns).findIdx? (fun d => D.eqv d (.str ns[i])) = some i := by
    rw [List.findIdx?_eq_some_iff_getElem]
    refine ⟨by simpa [dn] using h, by simp [dn, D.eqv], fun j hj => ?_⟩
    simp only [dn, List.getElem_map, D.eqv, Bool.not_eq_true, beq_eq_false_iff_ne]
    intro e
    have := (List.getElem_inj nd).mp e
    omega
  rw [this]; rfl
theorem num_bitT {c : Nat} (h : c = 48 ∨ c = 49) : strI (.int (1 - (if c = 48 then (0 : Nat) else 1 : Nat))) = some (.str [flipCT c]) := by
  have e0 : numS 0 = [48] := by decide +kernel
  have e1 : numS 1 = [49] := by decide +kernel
  rcases h with rfl | rfl
  · show strI (.int 1) = _
    simp [strI, e1, flipCT]
  · show strI (.int 0) = _
    simp [strI, e0, flipCT]
theorem behind_okT {ns : List (List Nat)} (nd : ns.Nodup) {s : List Nat} {i : Nat} (b : BitsT s) (hl : s.length = ns.length) (h : i < ns.length) (hz : s.length ≤ 1000) :
    m_behind_turn (.lst (dn ns)) (.str s) (.str ns[i]) = .ok (.str (flipST s i)) := by
  refine of_sat ?_
  unfold m_behind_turn
  have hi : i < s.length := by omega
  have hc : s[i]? = some s[i] := List.getElem?_eq_getElem hi
  have hb := b _ (List.getElem_mem hi)
  refine sat_ob (c := dn ns) rfl (sat_ob (index_okT nd h) (sat_ob (c := ((i : Nat) : Int)) rfl (sat_ob (c := D.str (s.take i)) ?_ (sat_ob (ix_s hc (by omega)) (sat_ob (int_bitT hb) (sat_ob (c := D.int (1 - (if s[i] = 48 then (0 : Nat) else 1 : Nat))) rfl (sat_ob (num_bitT hb) ?_)))))))
  · show (if s.length ≤ 16777216 then _ else none) = _
    rw [if_pos (by omega), cut_to _ _ (by omega)]
  refine sat_ob (c := D.str (s.take i ++ [flipCT s[i]])) (add_s (by simp; omega)) (sat_ob (c := D.int (i + 1)) rfl (sat_ob (c := (i : Int) + 1) rfl (sat_ob (c := D.str (s.drop (i + 1))) ?_ (sat_ob (c := D.str (flipST s i)) ?_ (sat_ok rfl)))))
  · show (if s.length ≤ 16777216 then _ else none) = _
    rw [if_pos (by omega), show ((i : Int) + 1) = ((i + 1 : Nat) : Int) by omega, cut_from _ _ (by omega)]
  · rw [add_s (by simp; omega)]
    simp only [flipST]
    rw [List.getD_eq_getElem?_getD, hc]; rfl
abbrev TurnT := List Nat × Nat
def tDT (p : TurnT) : D := .tup [.str p.1, .int (p.2 : Nat)]
def nDT (nodes : List (List TurnT)) : List (List D) := nodes.map (·.map tDT)
def NLT (nodes : List (List TurnT)) : D := .lst ((nDT nodes).map .lst)
def nxT (nodes : List (List TurnT)) (i : Nat) : List TurnT := nodes.getD i []
inductive ReachT (nodes : List (List TurnT)) : Nat → Prop
  | zero : ReachT nodes 0
  | step {i : Nat} {p : TurnT} : ReachT nodes i → p ∈ nxT nodes i → ReachT nodes p.2
theorem nodup_leT : ∀ (n : Nat) (l : List Nat), l.Nodup → (∀ i ∈ l, i < n) → l.length ≤ n
  | 0, l, _, h => by
    cases l with
    | nil => exact Nat.le_refl _
    | cons a r => exact absurd (h a List.mem_cons_self) (Nat.not_lt_zero _)
  | n + 1, l, nd, h => by
    have ih := nodup_leT n (l.erase n) (nd.erase n) fun i hi => by
      have h1 := (nd.mem_erase_iff).mp hi
      have := h i h1.2
      omega
    have := List.length_erase (a := n) (l := l)
    split at this <;> omega
theorem node_atT {nodes : List (List TurnT)} {i : Nat} (h : i < nodes.length) : ixD (NLT nodes) (.int (i : Nat)) = some (.lst ((nxT nodes i).map tDT)) := by
  refine ix_l ?_
  simp [nDT, nxT, h]
/-! the dict -/
def FDT (ρ : Nat → List Nat) (seen : List Nat) : List (D × D) := seen.map fun i => (D.int (i : Nat), D.str (ρ i))
theorem fd_findT (ρ : Nat → List Nat) (i : Nat) : ∀ seen : List Nat, findD (FDT ρ seen) (.int (i : Nat)) = if i ∈ seen then some (.str (ρ i)) else none
  | [] => rfl
  | j :: r => by
    have ih := fd_findT ρ i r
    unfold findD FDT at ih ⊢
    rw [List.map_cons, List.find?_cons]
    by_cases e : j = i
    · subst e
      simp [D.eqv]
    · have : D.eqv (D.int (j : Nat)) (.int (i : Nat)) = false := by simp [D.eqv]; omega
      rw [this]
      simp only [List.mem_cons]
      rw [ih]
      have e' : ¬ i = j := fun z => e z.symm
      simp [e']
theorem fd_getT {ρ : Nat → List Nat} {seen : List Nat} {i : Nat} (h : i ∈ seen) : dgetD (.dct false (FDT ρ seen)) (.int (i : Nat)) = some (.str (ρ i)) := by
  simp only [dgetD]
  rw [if_pos (show keyOk false (D.int (i : Nat)) = true from rfl), fd_findT, if_pos h]
theorem fd_inT {ρ : Nat → List Nat} {seen : List Nat} {i : Nat} : dinD (.int (i : Nat)) (.dct false (FDT ρ seen)) = some (decide (i ∈ seen)) := by
  simp only [dinD]
  rw [if_pos (show keyOk false (D.int (i : Nat)) = true from rfl), fd_findT]
  by_cases h : i ∈ seen <;> simp [h]
theorem fd_putT {ρ : Nat → List Nat} {seen : List Nat} {i : Nat} (h : i ∉ seen) (hl : seen.length < 16777216) : dputD false (FDT ρ seen) (.int (i : Nat)) (.str (ρ i)) = some (FDT ρ (seen ++ [i])) := by
  unfold dputD
  rw [if_pos ⟨rfl, by simpa [FDT] using hl⟩]
  unfold storeD
  have : ((FDT ρ seen).any fun kv => D.eqv kv.1 (.int (i : Nat))) = false := by
    rw [List.any_eq_false]
    intro kv hkv
    simp only [FDT, List.mem_map] at hkv
    obtain ⟨j, hj, rfl⟩ := hkv
    simp only [D.eqv, beq_iff_eq]
    intro e
    have : j = i := by omega
    subst this; exact h hj
  rw [this]
  simp [FDT]
def wDT (w : List Nat) : List D := w.map fun i => .int (i : Nat)
theorem wD_plainT (w : List Nat) : D.plains (wDT w) = true := by
  rw [plains_iff]
  intro d hd
  simp only [wDT, List.mem_map] at hd
  obtain ⟨_, _, rfl⟩ := hd; rfl
theorem wD_depT (w : List Nat) : D.deps (wDT w) ≤ 60 := by
  refine deps_le fun d hd => ?_
  simp only [wDT, List.mem_map] at hd
  obtain ⟨_, _, rfl⟩ := hd; exact Nat.zero_le _
theorem fd_up {ρ : Nat → List Nat} {seen : List Nat} {i : Nat} {s : List Nat} (h : i ∉ seen) (hl : seen.length < 16777216) : dputD false (FDT ρ seen) (.int (i : Nat)) (.str s) = some (FDT (fun j => if j = i then s else ρ j) (seen ++ [i])) := by
  have e : FDT ρ seen = FDT (fun j => if j = i then s else ρ j) seen := List.map_congr_left fun j hj => by
    dsimp only
    rw [if_neg (show ¬ j = i from fun e => h (by rw [← e]; exact hj))]
  rw [e]
  have := fd_putT (ρ := fun j => if j = i then s else ρ j) h hl
  simpa using this
/-! the search through the turns -/
structure Wf (ns : List (List Nat)) (s0 : List Nat) (nodes : List (List TurnT)) : Prop where
  nd : ns.Nodup
  nl : ns.length ≤ 100
  sl : s0.length = ns.length
  sb : BitsT s0
  n0 : 0 < nodes.length
  nn : nodes.length ≤ 100
  tu : ∀ i, ∀ p ∈ nxT nodes i, p.1 ∈ ns ∧ p.2 < nodes.length
def Val (ns : List (List Nat)) (s0 : List Nat) (nodes : List (List TurnT)) (σ : Nat → List Nat) : Prop :=
  σ 0 = s0 ∧ ∀ i, ReachT nodes i → ∀ p ∈ nxT nodes i, σ p.2 = flipST (σ i) (ns.idxOf p.1)
def Cons (ns : List (List Nat)) (s0 : List Nat) (nodes : List (List TurnT)) : Prop := ∃ σ, Val ns s0 nodes σ
structure Srch (ns : List (List Nat)) (s0 : List Nat) (nodes : List (List TurnT)) (here : Option Nat) (ρ : Nat → List Nat) (seen wait : List Nat) : Prop where
  nd : seen.Nodup
  ws : ∀ i ∈ wait, i ∈ seen
  z : 0 ∈ seen
  r0 : ρ 0 = s0
  re : ∀ i ∈ seen, ReachT nodes i ∧ BitsT (ρ i) ∧ (ρ i).length = ns.length ∧ ∀ σ, Val ns s0 nodes σ → σ i = ρ i
  cl : ∀ i ∈ seen, i ∉ wait → here ≠ some i → ∀ p ∈ nxT nodes i, p.2 ∈ seen ∧ ρ p.2 = flipST (ρ i) (ns.idxOf p.1)
section
variable {ns : List (List Nat)} {s0 : List Nat} {nodes : List (List TurnT)} (w : Wf ns s0 nodes)
include w
theorem Wf.reach {i : Nat} (h : ReachT nodes i) : i < nodes.length := by
  cases h with
  | zero => exact w.n0
  | step a b => exact (w.tu _ _ b).2
theorem Wf.first : Srch ns s0 nodes none (fun _ => s0) [0] [0] :=
  ⟨by simp, fun i hi => hi, by simp, rfl, fun i hi => by rw [List.mem_singleton.mp hi]; exact ⟨.zero, w.sb, w.sl, fun σ h => h.1⟩, fun i hi h => absurd hi h⟩
theorem Srch.le {h : Option Nat} {ρ : Nat → List Nat} {seen wait : List Nat} (m : Srch ns s0 nodes h ρ seen wait) : seen.length ≤ nodes.length :=
  nodup_leT _ _ m.nd fun i hi => w.reach (m.re i hi).1
theorem Srch.at {h : Option Nat} {ρ : Nat → List Nat} {seen wait : List Nat} (m : Srch ns s0 nodes h ρ seen wait) {here : Nat} (hh : here ∈ seen) {p : TurnT} (hp : p ∈ nxT nodes here) :
    p.2 < nodes.length ∧ ns.idxOf p.1 < ns.length ∧ ns[ns.idxOf p.1]? = some p.1 ∧ BitsT (flipST (ρ here) (ns.idxOf p.1)) ∧ (flipST (ρ here) (ns.idxOf p.1)).length = ns.length := by
  obtain ⟨h1, h2⟩ := w.tu _ _ hp
  have hi := List.idxOf_lt_length_of_mem h1
  obtain ⟨_, b, l, _⟩ := m.re _ hh
  refine ⟨h2, hi, ?_, flipS_bitsT b, by rw [flipS_lenT (by omega)]; exact l⟩
  rw [List.getElem?_eq_getElem hi, List.getElem_idxOf]
theorem Srch.add {ρ : Nat → List Nat} {seen wait : List Nat} {here : Nat} (m : Srch ns s0 nodes (some here) ρ seen wait) (hh : here ∈ seen) {p : TurnT} (hp : p ∈ nxT nodes here) (hn : p.2 ∉ seen) :
    Srch ns s0 nodes (some here) (fun j => if j = p.2 then flipST (ρ here) (ns.idxOf p.1) else ρ j) (seen ++ [p.2]) (wait ++ [p.2]) := by
  have old : ∀ i ∈ seen, (if i = p.2 then flipST (ρ here) (ns.idxOf p.1) else ρ i) = ρ i := fun i hi => if_neg (show ¬ i = p.2 from fun e => hn (by rw [← e]; exact hi))
  obtain ⟨hr, hb, hl, hf⟩ := m.re _ hh
  obtain ⟨_, _, _, a4, a5⟩ := m.at w hh hp
  refine ⟨?_, ?_, List.mem_append_left _ m.z, (old 0 m.z).trans m.r0, ?_, ?_⟩
  · rw [List.nodup_append]
    exact ⟨m.nd, by simp, fun x hx y hy => by simp at hy; subst hy; intro e; subst e; exact hn hx⟩
  · intro i hi
    rcases List.mem_append.mp hi with hi | hi
    · exact List.mem_append_left _ (m.ws i hi)
    · exact List.mem_append_right _ hi
  · intro i hi
    rcases List.mem_append.mp hi with hi | hi
    · skip
      rw [old i hi]; exact m.re i hi
    · rw [List.mem_singleton.mp hi]
      rw [if_pos rfl]
      exact ⟨.step hr hp, a4, a5, fun σ v => by rw [v.2 _ hr _ hp, hf σ v]⟩
  · intro i hi hw hne q hq
    rcases List.mem_append.mp hi with hi | hi
    · obtain ⟨c1, c2⟩ := m.cl i hi (fun z => hw (List.mem_append_left _ z)) hne q hq
      rw [old i hi, old _ c1]
      exact ⟨List.mem_append_left _ c1, c2⟩
    · exact absurd (List.mem_append_right _ hi) hw
theorem Srch.bad {ρ : Nat → List Nat} {seen wait : List Nat} {h : Option Nat} {here : Nat} (m : Srch ns s0 nodes h ρ seen wait) (hh : here ∈ seen) {p : TurnT} (hp : p ∈ nxT nodes here) (hs : p.2 ∈ seen) (ne : ρ p.2 ≠ flipST (ρ here) (ns.idxOf p.1)) : ¬ Cons ns s0 nodes := by
  rintro ⟨σ, v⟩
  obtain ⟨hr, _, _, hf⟩ := m.re _ hh
  apply ne
  rw [← (m.re _ hs).2.2.2 σ v, ← hf σ v]
  exact v.2 _ hr _ hp
theorem Srch.close {ρ : Nat → List Nat} {seen wait : List Nat} {here : Nat} (m : Srch ns s0 nodes (some here) ρ seen wait) (h : ∀ p ∈ nxT nodes here, p.2 ∈ seen ∧ ρ p.2 = flipST (ρ here) (ns.idxOf p.1)) : Srch ns s0 nodes none ρ seen wait :=
  ⟨m.nd, m.ws, m.z, m.r0, m.re, fun i hi hw _ => if e : i = here then e ▸ h else m.cl i hi hw fun z => e (Option.some.inj z).symm⟩
theorem Srch.open' {ρ : Nat → List Nat} {seen wait wait' : List Nat} {here : Nat} (m : Srch ns s0 nodes none ρ seen wait) (h1 : ∀ i ∈ wait', i ∈ wait) (h2 : ∀ i ∈ wait, i ∈ wait' ∨ i = here) : Srch ns s0 nodes (some here) ρ seen wait' :=
  ⟨m.nd, fun i hi => m.ws i (h1 i hi), m.z, m.r0, m.re, fun i hi hw hne => m.cl i hi (fun z => (h2 i z).elim hw fun e => hne (e ▸ rfl)) (by simp)⟩
theorem Srch.all {ρ : Nat → List Nat} {seen : List Nat} (m : Srch ns s0 nodes none ρ seen []) : Val ns s0 nodes ρ ∧ ∀ i, i ∈ seen ↔ ReachT nodes i := by
  have rs : ∀ i, ReachT nodes i → i ∈ seen := fun i h => by
    induction h with
    | zero => exact m.z
    | step a b ih => exact (m.cl _ ih (by simp) (by simp) _ b).1
  exact ⟨⟨m.r0, fun i hi p hp => (m.cl i (rs i hi) (by simp) (by simp) p hp).2⟩, fun i => ⟨fun h => (m.re i h).1, rs i⟩⟩
end
theorem sat_whileR {Z R : Type} {fc : Z → Res Bool} {f : Z → Res (Fl Z R)} {I : Z → Prop} {E : Z → Prop} {P : R → Prop} {μ : Z → Nat} (h : ∀ z, I z → (fc z = .ok false ∧ E z) ∨ (fc z = .ok true ∧ Sat (f z) (fun o => (∃ z', o = .nx z' ∧ I z' ∧ μ z' < μ z) ∨ ∃ r, o = .rt r ∧ P r))) :
    ∀ (n : Nat) (z0 : Z), I z0 → μ z0 < n → Sat (whileF n z0 fc f) (fun o => (∃ z, o = .nx z ∧ I z ∧ E z) ∨ ∃ r, o = .rt r ∧ P r)
  | 0, _, _, hm => absurd hm (Nat.not_lt_zero _)
  | n + 1, z0, h0, hm => by
    rcases h z0 h0 with ⟨e, q⟩ | ⟨e, q⟩
    · show Sat (rb (fc z0) _) _
      rw [e]; exact ⟨_, rfl, .inl ⟨z0, rfl, h0, q⟩⟩
    · show Sat (rb (fc z0) _) _
      rw [e]
      show Sat (rb (f z0) _) _
      refine sat_rb q fun o ho => ?_
      rcases ho with ⟨z', rfl, i, m⟩ | ⟨r, rfl, p⟩
      · exact sat_whileR h n z' i (by omega)
      · exact ⟨_, rfl, .inr ⟨r, rfl, p⟩⟩
theorem sat_forLr' {Z R : Type} {f : Z → D → Res (Fl Z R)} {I : Nat → Z → Prop} {P : R → Prop} : ∀ (ds : List D) (z0 : Z) (n : Nat), I n z0 → (∀ i z d, ds[i]? = some d → I (n + i) z → Sat (f z d) (fun o => (∃ z', o = .nx z' ∧ I (n + i + 1) z') ∨ ∃ r, o = .rt r ∧ P r)) → Sat (forL ds z0 f) (fun o => (∃ z', o = .nx z' ∧ I (n + ds.length) z') ∨ ∃ r, o = .rt r ∧ P r)
  | [], z0, n, h0, _ => ⟨_, rfl, .inl ⟨z0, rfl, h0⟩⟩
  | d :: r, z0, n, h0, h => by
    refine sat_rb (h 0 z0 d rfl h0) fun o hz => ?_
    rcases hz with ⟨z, rfl, hz⟩ | ⟨x, rfl, hx⟩
    · have := sat_forLr' (I := I) (P := P) r z (n + 1) hz fun i z d e hi => by
        have := h (i + 1) z d (by simpa using e) (by rw [show n + (i + 1) = n + 1 + i by omega]; exact hi)
        rwa [show n + (i + 1) = n + 1 + i by omega] at this
      rwa [show n + 1 + r.length = n + (d :: r).length by simp; omega] at this
    · exact ⟨_, rfl, .inr ⟨x, rfl, hx⟩⟩
end W

namespace W
open PySem VL
/-! rows_of: a dict where the turns agree, else none -/
theorem bturn_ok {ns : List (List Nat)} {s0 : List Nat} {nodes : List (List TurnT)} (w : Wf ns s0 nodes) {s n : List Nat} (b : BitsT s) (hl : s.length = ns.length) (hn : n ∈ ns) :
    m_behind_turn (.lst (dn ns)) (.str s) (.str n) = .ok (.str (flipST s (ns.idxOf n))) := by
  have hi := List.idxOf_lt_length_of_mem hn
  have := behind_okT w.nd (s := s) (i := ns.idxOf n) b hl hi (by have := w.nl; omega)
  rw [List.getElem_idxOf] at this
  exact this
theorem ne_strs (a b : List Nat) : neD (.str a) (.str b) = some (!(decide (a = b))) := by
  show some _ = some _
  congr 1
  by_cases h : a = b <;> simp [D.eqv, h]
theorem rows_gen {ns : List (List Nat)} {s0 : List Nat} {nodes : List (List TurnT)} (w : Wf ns s0 nodes) :
    Sat (m_rows_of (.lst (dn ns)) (.str s0) (NLT nodes)) (fun d => (∃ (ρ : Nat → List Nat) (seen : List Nat), d = .dct false (FDT ρ seen) ∧ Val ns s0 nodes ρ ∧ seen.Nodup ∧ ∀ i, i ∈ seen ↔ ReachT nodes i) ∨ (d = .non ∧ ¬ Cons ns s0 nodes)) := by
  unfold m_rows_of
  have nn := w.nn
  refine sat_if (fun _ => ?_) (fun h => absurd rfl h)
  let I : (List D × List (D × D)) → Prop := fun z => ∃ ρ seen wait, z.1 = wDT wait ∧ z.2 = FDT ρ seen ∧ Srch ns s0 nodes none ρ seen wait ∧ 2 * (nodes.length - seen.length) + wait.length ≤ 2 * nodes.length
  let μ : (List D × List (D × D)) → Nat := fun z => 2 * (nodes.length - z.2.length) + z.1.length
  refine sat_rb (sat_whileR (I := I) (E := fun z => z.1 = []) (P := fun r => r = .non ∧ ¬ Cons ns s0 nodes) (μ := μ) (fun z hz => ?_) _ _ ?_ ?_) fun o ho => ?_
  · obtain ⟨ρ, seen, wait, e1, e2, m, hbd⟩ := hz
    obtain ⟨z1, z2⟩ := z
    dsimp only at e1 e2
    subst e1 e2
    by_cases hw : wait = []
    · subst hw
      exact .inl ⟨of_sat (sat_ob (ne_nil rfl (Nat.zero_le _)) (sat_ok rfl)), rfl⟩
    · refine .inr ⟨of_sat (sat_ob (ne_nil (wD_plainT _) (wD_depT _)) (sat_ok ?_)), ?_⟩
      · cases wait with
        | nil => exact absurd rfl hw
        | cons _ _ => rfl
      obtain ⟨w0, here, rfl⟩ : ∃ w0 h, wait = w0 ++ [h] := ⟨wait.dropLast, wait.getLast hw, (List.dropLast_concat_getLast hw).symm⟩
      have hs : here ∈ seen := m.ws _ (by simp)
      have hlt := w.reach (m.re _ hs).1
      have hp : popL (wDT (w0 ++ [here])) = some (.int (here : Nat), wDT w0) := by
        unfold popL wDT
        simp
      refine sat_ob hp (sat_ob (node_atT hlt) (sat_ob (c := (nxT nodes here).map tDT) rfl ?_))
      have m0 : Srch ns s0 nodes (some here) ρ seen w0 := m.open' w (fun i hi => by simp [hi]) fun i hi => by
        rcases List.mem_append.mp hi with z | z
        · exact .inl z
        · exact .inr (List.mem_singleton.mp z)
      have l0 := m.le w
      simp only [List.length_append, List.length_singleton] at hbd
      let J : Nat → (List (D × D) × List D) → Prop := fun n z => ∃ ρ' se wa, z.1 = FDT ρ' se ∧ z.2 = wDT wa ∧ Srch ns s0 nodes (some here) ρ' se wa ∧ here ∈ se ∧ (∀ j, j < n → ∀ p, (nxT nodes here)[j]? = some p → p.2 ∈ se ∧ ρ' p.2 = flipST (ρ' here) (ns.idxOf p.1)) ∧ 2 * (nodes.length - se.length) + wa.length ≤ 2 * (nodes.length - seen.length) + w0.length
      refine sat_rb (sat_forLr' (I := J) (P := fun r => r = .non ∧ ¬ Cons ns s0 nodes) ((nxT nodes here).map tDT) _ 0 ⟨ρ, seen, w0, rfl, rfl, m0, hs, fun j hj => absurd hj (Nat.not_lt_zero _), Nat.le_refl _⟩ fun n z d hd hJ => ?_) fun o ho => ?_
      · rw [Nat.zero_add] at hJ ⊢
        obtain ⟨z1, z2⟩ := z
        obtain ⟨ρ', se, wa, e1, e2, mm, hh, hn, hm⟩ := hJ
        dsimp only at e1 e2
        subst e1 e2
        rw [List.getElem?_map] at hd
        cases ep : (nxT nodes here)[n]? with
        | none => rw [ep] at hd; cases hd
        | some p =>
          rw [ep] at hd
          cases hd
          have pm : p ∈ nxT nodes here := List.mem_of_getElem? ep
          obtain ⟨hr, hb, hbl, _⟩ := mm.re _ hh
          have hnm := (w.tu _ _ pm).1
          have lse := mm.le w
          refine sat_ob (c := (.str p.1, .int (p.2 : Nat))) rfl (sat_ob (fd_getT hh) (sat_rbe (bturn_ok w hb hbl hnm) ?_))
          refine sat_ob fd_inT (sat_if (fun hnot => ?_) fun hin => ?_)
          · have hnot : p.2 ∉ se := by simpa using hnot
            have ma := mm.add w hh pm hnot
            have la := ma.le w
            have wl : wa.length ≤ 2 * nodes.length := by omega
            refine sat_ob (fd_up hnot (by omega)) (sat_ob (ap_l (by simp [wDT]; omega)) (sat_ok (.inl ⟨_, rfl, _, se ++ [p.2], wa ++ [p.2], rfl, by simp [wDT], ma, List.mem_append_left _ hh, ?_, ?_⟩)))
            · intro j hj q hq
              have hne : here ≠ p.2 := fun e => hnot (e ▸ hh)
              by_cases e : j < n
              · obtain ⟨a1, a2⟩ := hn j e q hq
                have : q.2 ≠ p.2 := fun e => hnot (e ▸ a1)
                refine ⟨List.mem_append_left _ a1, ?_⟩
                rw [if_neg this, if_neg hne]; exact a2
              · have : j = n := by omega
                subst this
                rw [ep] at hq; cases hq
                refine ⟨List.mem_append_right _ (by simp), ?_⟩
                rw [if_pos rfl, if_neg hne]
            · simp only [List.length_append, List.length_singleton] at la ⊢
              omega
          · have hin : p.2 ∈ se := by simpa using hin
            refine sat_ob (fd_getT hin) (sat_ob (ne_strs _ _) (sat_if (fun h => ?_) fun h => ?_))
            · have : ρ' p.2 ≠ flipST (ρ' here) (ns.idxOf p.1) := by simpa using h
              exact sat_ok (.inr ⟨_, rfl, rfl, mm.bad w hh pm hin this⟩)
            · have : ρ' p.2 = flipST (ρ' here) (ns.idxOf p.1) := by simpa using h
              refine sat_ok (.inl ⟨_, rfl, ρ', se, wa, rfl, rfl, mm, hh, fun j hj q hq => ?_, hm⟩)
              by_cases e : j < n
              · exact hn j e q hq
              · have : j = n := by omega
                subst this
                rw [ep] at hq; cases hq
                exact ⟨hin, by assumption⟩
      · rcases ho with ⟨z', rfl, ρ', se, wa, e1, e2, mm, hh, hn, hm⟩ | ⟨r, rfl, hr⟩
        · obtain ⟨z1, z2⟩ := z'
          dsimp only at e1 e2
          subst e1 e2
          refine sat_ok (.inl ⟨_, rfl, ⟨ρ', se, wa, rfl, rfl, mm.close w fun p hpm => ?_, by omega⟩, ?_⟩)
          · obtain ⟨j, hj, ej⟩ := List.getElem_of_mem hpm
            exact hn j (by simpa using hj) p (by rw [List.getElem?_eq_getElem hj, ej])
          · show 2 * (nodes.length - (FDT ρ' se).length) + (wDT wa).length < 2 * (nodes.length - (FDT ρ seen).length) + (wDT (w0 ++ [here])).length
            simp only [wDT, FDT, List.length_map, List.length_append, List.length_singleton] at *
            omega
        · exact sat_ok (.inr ⟨r, rfl, hr⟩)
  · exact ⟨fun _ => s0, [0], [0], rfl, rfl, w.first, by have := w.n0; simp; omega⟩
  · show 2 * (nodes.length - 1) + 1 < FU
    unfold FU; omega
  · rcases ho with ⟨z, rfl, ⟨ρ, seen, wait, e1, e2, m, _⟩, e3⟩ | ⟨r, rfl, hr⟩
    · have hw : wait = [] := by
        rw [e3] at e1
        cases wait with
        | nil => rfl
        | cons _ _ => cases e1
      subst hw
      obtain ⟨v, rs⟩ := m.all w
      exact sat_ok (.inl ⟨ρ, seen, by rw [e2], v, m.nd, rs⟩)
    · exact sat_ok (.inr hr)
end W

namespace W
open PySem VL
/-! _law_signs: a list where the turns agree, else none -/
def sheetS (ni : Nat) (ns : List (List Nat)) (s0 : List Nat) (nodes : List (List TurnT)) : D := .tup [.lst (dn (ns.take ni)), .lst (dn (ns.drop ni)), .str s0, NLT nodes]
theorem names_catS {ni : Nat} {ns : List (List Nat)} (h : ns.length ≤ 100) : catD (.lst (dn (ns.take ni))) (.lst (dn (ns.drop ni))) = some (dn ns) := by
  have : dn (ns.take ni) ++ dn (ns.drop ni) = dn ns := by simp only [dn, ← List.map_append, List.take_append_drop]
  show (if _ then _ else none) = _
  rw [this, if_pos (by simp [dn]; omega)]
end W

namespace W
open PySem VL SSN PyProof.Rows
/-! is_sheet of what has a sheet's form -/
theorem low_mem {c : Nat} (h : 97 ≤ c ∧ c ≤ 122) : c ∈ q_abcdefghijklmnopqrstuvwxyz := by
  simp only [List.mem_cons, List.not_mem_nil, or_false]
  omega
theorem is_nameS {w : List Nat} (h : Word w) : m_is_name (.str w) = .ok (.bl true) := by
  have h0 := h.l0
  have h1 := h.l1
  unfold m_is_name
  simp only [sx_isKs, sx_ob, sx_asB, Bool.not_true, Bool.false_eq_true, if_false, len_s (show w.length ≤ 16777216 by omega), sx_lt]
  rw [show decide ((0 : Int) < (w.length : Int)) = true by simp; omega, show decide ((w.length : Int) < 9) = true by simp; omega]
  simp only [sx_rb, if_true, Bool.not_true, Bool.false_eq_true, if_false, strLD_eq (show w.length ≤ 1000 by omega), sx_ob]
  rw [fmR_eq (g := fun _ => none) _ fun d hd => by
    obtain ⟨c, hc, rfl⟩ := List.mem_map.mp hd
    have : notInD (chD c) (.str q_abcdefghijklmnopqrstuvwxyz) = some false := by
      have : inD (chD c) (.str q_abcdefghijklmnopqrstuvwxyz) = some true := by
        show some (decide (c ∈ q_abcdefghijklmnopqrstuvwxyz)) = _
        rw [decide_eq_true (low_mem (h.lo c hc))]
      simp [notInD, this]
    rw [this]; rfl]
  have : (w.map chD).filterMap (fun _ => (none : Option D)) = [] := by simp
  rw [this]
  rfl
theorem are_namesS {l : List (List Nat)} (h : ∀ w ∈ l, Word w) : m_are_names (.lst (dn l)) = .ok (.bl true) := by
  unfold m_are_names
  simp only [sx_isKl, sx_ob, sx_asB, if_true, sx_asL]
  rw [fmR_eq (g := fun _ => none) (dn l) fun d hd => by
    obtain ⟨w, hw, rfl⟩ := List.mem_map.mp hd
    rw [is_nameS (h w hw)]
    rfl]
  have : (dn l).filterMap (fun _ => (none : Option D)) = [] := by simp
  rw [this]
  rfl
theorem are_signsS {s : List Nat} (h : BitsT s) (hl : s.length ≤ 1000) : m_are_signs (.str s) (.int (s.length : Nat)) = .ok (.bl true) := by
  unfold m_are_signs
  simp only [sx_isKs, sx_ob, sx_asB, Bool.not_true, Bool.false_eq_true, if_false, len_s (show s.length ≤ 16777216 by omega), sx_nei, sx_rb]
  rw [show (!((s.length : Int) == (s.length : Int))) = false by simp]
  simp only [Bool.false_eq_true, if_false, strLD_eq hl, sx_ob]
  rw [fmR_eq (g := fun _ => none) _ fun d hd => by
    obtain ⟨c, hc, rfl⟩ := List.mem_map.mp hd
    have : notInD (chD c) (.str q_01) = some false := by
      rcases h c hc with rfl | rfl <;> rfl
    rw [this]; rfl]
  have : (s.map chD).filterMap (fun _ => (none : Option D)) = [] := by simp
  rw [this]
  rfl
theorem is_wholeS (n : Int) : m_is_whole (.int n) = .ok (.bl true) := rfl
theorem sx_lentS (l : List D) : lenD (.tup l) = some (.int l.length) := rfl
theorem is_turnS {ns : List (List Nat)} {p : TurnT} {n : Nat} (h1 : p.1 ∈ ns) (h2 : p.2 < n) : m_is_turn (tDT p) (.lst (dn ns)) (.int (n : Nat)) = .ok (.bl true) := by
  unfold m_is_turn tDT
  simp only [sx_isKt, sx_ob, sx_asB, Bool.not_true, Bool.false_eq_true, if_false, sx_lentS, List.length_cons, List.length_nil, sx_nei, sx_rb, sx_t0, sx_t1, sx_isKs, in_dn, decide_eq_true h1, if_true, is_wholeS, sx_le, sx_lt]
  rw [show decide ((0 : Int) ≤ (p.2 : Int)) = true by simp, show decide ((p.2 : Int) < (n : Int)) = true by simp; omega]
  rfl
def dm (l : List (List Nat)) : List (D × D) := l.map fun n => (D.str n, D.bl true)
theorem dm_any (n : List Nat) : ∀ l : List (List Nat), (dm l).any (fun kv => D.eqv kv.1 (.str n)) = decide (n ∈ l)
  | [] => rfl
  | m :: l => by
    have ih := dm_any n l
    simp only [dm, List.map_cons, List.any_cons] at ih ⊢
    rw [ih]
    by_cases e : m = n
    · subst e; simp [D.eqv]
    · have e' : ¬ n = m := fun z => e z.symm
      simp [D.eqv, e, e']
theorem dm_find (n : List Nat) (l : List (List Nat)) : (findD (dm l) (.str n)).isSome = decide (n ∈ l) := by
  unfold findD
  rw [← dm_any n l]
  induction dm l with
  | nil => rfl
  | cons a r ih =>
    rw [List.find?_cons, List.any_cons]
    by_cases e : D.eqv a.1 (.str n) = true
    · simp [e]
    · have e : D.eqv a.1 (.str n) = false := by simpa using e
      simp only [e, Bool.false_or]
      exact ih
theorem dm_in (n : List Nat) (l : List (List Nat)) : dinD (.str n) (.dct false (dm l)) = some (decide (n ∈ l)) := by
  simp only [dinD]
  rw [if_pos (show keyOk false (D.str n) = true from rfl), dm_find]
theorem dm_put {n : List Nat} {l : List (List Nat)} (h : n ∉ l) (hl : l.length < 16777216) : dputD false (dm l) (.str n) (.bl true) = some (dm (l ++ [n])) := by
  unfold dputD
  rw [if_pos ⟨rfl, by simpa [dm] using hl⟩]
  unfold storeD
  rw [dm_any, decide_eq_false h]
  simp [dm]
theorem is_nodeS {ns : List (List Nat)} {l : List TurnT} {n : Nat} (h : ∀ p ∈ l, p.1 ∈ ns ∧ p.2 < n) (nd : (l.map (·.1)).Nodup) (hl : l.length ≤ 1000) : m_is_node (.lst (l.map tDT)) (.lst (dn ns)) (.int (n : Nat)) = .ok (.bl true) := by
  refine of_sat ?_
  unfold m_is_node
  refine sat_ob (c := true) rfl (sat_ob (c := true) rfl (sat_if (fun h => by simp at h) fun _ => sat_ob (c := l.map tDT) rfl ?_))
  refine sat_rb (sat_forL (I := fun i (z : List (D × D)) => z = dm ((l.take i).map (·.1))) (l.map tDT) _ 0 rfl fun i z d hd hz => ?_) fun o ⟨z, e, _⟩ => by rw [e]; exact sat_ok rfl
  rw [Nat.zero_add] at hz ⊢
  subst hz
  rw [List.getElem?_map] at hd
  cases ep : l[i]? with
  | none => rw [ep] at hd; cases hd
  | some p =>
    rw [ep] at hd
    cases hd
    obtain ⟨hi, ei⟩ := List.getElem?_eq_some_iff.mp ep
    have pm : p ∈ l := List.mem_of_getElem? ep
    obtain ⟨a1, a2⟩ := h p pm
    have hni : p.1 ∉ (l.take i).map (·.1) := by
      intro hm
      have hsp : l.map (·.1) = (l.take i).map (·.1) ++ (p.1 :: (l.drop (i + 1)).map (·.1)) := by
        rw [← List.map_cons, ← List.map_append]
        congr 1
        rw [← ei, ← List.drop_eq_getElem_cons hi, List.take_append_drop]
      rw [hsp] at nd
      exact (List.nodup_append.mp nd).2.2 _ hm _ List.mem_cons_self rfl
    have e1 : ixD (tDT p) (.int 0) = some (.str p.1) := rfl
    refine sat_rbe (is_turnS a1 a2) (sat_ob (c := true) rfl (sat_rbe (r := (false, ())) ?_ ?_))
    · simp only [Bool.not_true, Bool.false_eq_true, if_false, e1, sx_ob, dm_in, decide_eq_false hni]
    refine sat_if (fun h => by simp at h) fun _ => sat_ob e1 (sat_ob (dm_put hni (by simp; omega)) (sat_ok ⟨_, rfl, ?_⟩))
    · rw [List.take_add_one, ep]
      simp [dm]
theorem ddp_nodup {α : Type} [BEq α] [LawfulBEq α] : ∀ (l σ : List α), (σ ++ l).Nodup → l.foldl step_dedup σ = σ ++ l
  | [], σ, _ => by simp
  | x :: r, σ, h => by
    have hx : σ.any (· == x) = false := by
      rw [List.any_eq_false]
      intro y hy e
      have : y = x := eq_of_beq e
      subst this
      exact (List.nodup_append.mp h).2.2 y hy y List.mem_cons_self rfl
    rw [List.foldl_cons]
    have e : step_dedup σ x = σ ++ [x] := by simp [step_dedup, hx]
    rw [e, ddp_nodup r (σ ++ [x]) (by simpa using h)]
    simp
theorem lenSet_dn {l : List (List Nat)} (nd : l.Nodup) (h : l.length ≤ 4000) : lenSetD (.lst (dn l)) = some (.int l.length) := by
  show (match strsD (l.map D.str) with | some ys => _ | none => none) = _
  rw [strsD_map]
  simp only
  rw [if_pos h]
  have : ddp l = l := by simpa [ddp] using ddp_nodup l [] (by simpa using nd)
  rw [this]
structure Ws (ni : Nat) (ns : List (List Nat)) (s0 : List Nat) (nodes : List (List TurnT)) : Prop extends Wf ns s0 nodes where
  i4 : ni ≤ 4
  o1 : ni < ns.length
  o7 : ns.length ≤ ni + 7
  wo : ∀ v ∈ ns, Word v
  n40 : nodes.length ≤ 40
  nod : ∀ i, ((nxT nodes i).map (·.1)).Nodup
theorem nx_memT {nodes : List (List TurnT)} {l : List TurnT} (h : l ∈ nodes) : ∃ i, i < nodes.length ∧ nxT nodes i = l := by
  obtain ⟨i, hi, e⟩ := List.getElem_of_mem h
  exact ⟨i, hi, by simp [nxT, hi, e]⟩
theorem Ws.len {ni : Nat} {ns : List (List Nat)} {s0 : List Nat} {nodes : List (List TurnT)} (w : Ws ni ns s0 nodes) (i : Nat) : (nxT nodes i).length ≤ 11 := by
  have := pigeon (a := (nxT nodes i).map (·.1)) (b := ns) (w.nod i) fun x hx => by
    obtain ⟨p, hp, rfl⟩ := List.mem_map.mp hx
    exact (w.tu i p hp).1
  have h1 := w.i4
  have h2 := w.o7
  simp at this
  omega
theorem is_sheetS {ni : Nat} {ns : List (List Nat)} {s0 : List Nat} {nodes : List (List TurnT)} (w : Ws ni ns s0 nodes) :
    Sat (m_is_sheet (sheetS ni ns s0 nodes)) (fun d => ∃ b : Bool, d = .bl b ∧ (b = true ↔ Cons ns s0 nodes)) := by
  have i4 := w.i4
  have o1 := w.o1
  have o7 := w.o7
  have n40 := w.n40
  have n0 := w.n0
  have sl := w.sl
  unfold m_is_sheet
  refine sat_ob (c := true) rfl (sat_ob (c := true) rfl (sat_rbe (r := (false, ())) rfl (sat_if (fun h => by simp at h) fun _ => sat_ob (c := (.lst (dn (ns.take ni)), .lst (dn (ns.drop ni)), .str s0, NLT nodes)) rfl ?_)))
  have a1 := are_namesS (l := ns.take ni) fun v hv => w.wo v (List.mem_of_mem_take hv)
  have a2 := are_namesS (l := ns.drop ni) fun v hv => w.wo v (List.mem_of_mem_drop hv)
  refine sat_rbe a1 (sat_ob (c := true) rfl (sat_rbe (r := (false, ())) ?_ (sat_if (fun h => by simp at h) fun _ => sat_ob (names_catS (by omega)) ?_)))
  · simp only [Bool.not_true, Bool.false_eq_true, if_false, a2, sx_rb, sx_asB, sx_ob, sx_len, dn_len, sx_gt, sx_lt, List.length_take, List.length_drop]
    rw [show decide (((min ni ns.length : Nat) : Int) > 4) = false by simp; omega, show decide ((0 : Int) < ((ns.length - ni : Nat) : Int)) = true by simp; omega, show decide (((ns.length - ni : Nat) : Int) < 8) = true by simp; omega]
    rfl
  refine sat_ob (lenSet_dn w.nd (by omega)) (sat_ob len_l (sat_ob (c := false) ?_ (sat_rbe (r := (false, ())) ?_ (sat_if (fun h => by simp at h) fun _ => ?_))))
  · rw [dn_len, sx_nei]; simp
  · have := are_signsS w.sb (by omega)
    rw [sl] at this
    simp only [Bool.false_eq_true, if_false, sx_len, dn_len, sx_ob, this, sx_rb, sx_asB, Bool.not_true]
  refine sat_ob (c := true) rfl (sat_ob (c := true) rfl (sat_rbe (r := (false, ())) ?_ (sat_if (fun h => by simp at h) fun _ => sat_ob (c := (nDT nodes).map .lst) rfl ?_)))
  · simp only [Bool.not_true, Bool.false_eq_true, if_false, NLT, sx_len, sx_ob, sx_lt, sx_le, List.length_map, nDT]
    rw [show decide ((0 : Int) < (nodes.length : Int)) = true by simp; omega, show decide ((nodes.length : Int) ≤ 40) = true by simp; omega]
    rfl
  refine sat_rbe (r := []) ?_ (sat_ob (c := false) rfl (sat_if (fun h => by simp at h) fun _ => ?_))
  · rw [fmR_eq (g := fun _ => none) _ fun d hd => by
      simp only [nDT, List.map_map, List.mem_map, Function.comp] at hd
      obtain ⟨l, hl, rfl⟩ := hd
      obtain ⟨i, hi, rfl⟩ := nx_memT hl
      have := is_nodeS (ns := ns) (n := nodes.length) (w.tu i) (w.nod i) (by have := w.len i; omega)
      have e : lenD (NLT nodes) = some (.int (nodes.length : Nat)) := by simp [NLT, nDT, lenD]
      rw [e, sx_ob, this]
      rfl]
    simp
  refine sat_rb (rows_gen w.toWf) fun d hd => ?_
  rcases hd with ⟨ρ, seen, rfl, v, _⟩ | ⟨rfl, nc⟩
  · exact sat_ob (c := true) rfl (sat_ok ⟨true, rfl, by simp; exact ⟨ρ, v⟩⟩)
  · exact sat_ob (c := false) rfl (sat_ok ⟨false, rfl, by simp [nc]⟩)
end W

namespace W
open PySem VL PySem.W
section
variable {ni : Nat} {ns rows : List (List Nat)} {nodes : List (List Turn)}
theorem twin_ok (g : Good ns rows nodes) (f : Full ni ns nodes) : m__law_twin (sheetD ni ns rows nodes) = .ok (sheetD ni ns (rowsT nodes.length rows) (twin ni ns nodes)) := by
  have n0 := g.lt 0 .zero
  have o1 := f.o1
  have nn := g.nn
  have e0 := g.el 0
  obtain ⟨_, r0⟩ := twin_good g f
  have hlen : lenD (NL nodes) = some (.int (nodes.length : Nat)) := by unfold NL; rw [sx_len, nds_len]
  have hx : ixD (.lst (dn ns)) (.int 0) = some (.str (ns.getD 0 [])) := by
    rw [show (.int 0 : D) = .int ((0 : Nat) : Int) from rfl]
    exact ix_l (dn_get (by rw [List.getD_eq_getElem?_getD, List.getElem?_eq_getElem (by omega)]; rfl))
  have h0 : ixD (NL nodes) (.int 0) = some (.lst ((nx nodes 0).map tD)) := node_at (i := 0) n0
  refine of_sat ?_
  unfold m__law_twin
  refine sat_ob sheet0 (sat_ob sheet1 (sat_ob (names_cat g.nl) (sat_ob hx (sat_ob sheet3 (sat_ob hlen (sat_ob sheet3 (sat_ob h0 (sat_ob (c := (nx nodes 0).map tD) rfl ?_))))))))
  refine sat_rbe (r := ((nx nodes 0).filter fun p => !decide (p.1 = ns.getD 0 [])).map tD) ?_ (sat_ob (c := (fst59 (ns.getD 0 []) nodes.length (nx nodes 0)).map tD) ?_ ?_)
  · rw [fmR_xs (e := tD) (g := fun p => if (!decide (p.1 = ns.getD 0 [])) = true then some (tD p) else none) (nx nodes 0) fun p _ => ?_]
    · rw [filterMap_if]
    · have hne : neD (.str p.1) (.str (ns.getD 0 [])) = some (!decide (p.1 = ns.getD 0 [])) := by
        rw [sx_nes]
        congr 1
        rw [Bool.eq_iff_iff]; simp
      refine of_sat (sat_ob (c := .str p.1) rfl (sat_ob hne ?_))
      split
      · exact sat_ok rfl
      · exact sat_ok rfl
  · rw [cat_l (by
      rw [List.length_map]
      have := List.length_filter_le (fun p : Turn => !decide (p.1 = ns.getD 0 [])) (nx nodes 0)
      rw [List.length_singleton]; omega)]
    unfold fst59
    rw [List.map_append]; rfl
  refine sat_ob sheet3 (sat_ob h0 (sat_ob (c := (nx nodes 0).map tD) rfl (sat_rbe (r := (tw59 ni ns (nx nodes 0)).map tD) ?_ ?_)))
  · rw [fmR_xs (e := tD) (g := fun p => if decide (p.1 ∈ ns.take ni) = true then some (tD p) else none) (nx nodes 0) fun p _ => ?_]
    · rw [filterMap_if]; rfl
    · refine of_sat (sat_ob (c := .str p.1) rfl (sat_ob sheet0 (sat_ob (in_dn _ _) ?_)))
      split
      · exact sat_ok rfl
      · exact sat_ok rfl
  have h27 : catD (.lst [.lst ((fst59 (ns.getD 0 []) nodes.length (nx nodes 0)).map tD)]) (.lst (((nD nodes).map D.lst).drop 1)) = some ((nD ([fst59 (ns.getD 0 []) nodes.length (nx nodes 0)] ++ nodes.drop 1)).map D.lst) := by
    rw [cat_l (by rw [List.length_drop, nds_len]; simp; omega)]
    simp [nD, List.map_drop]
  have h26 : catD (.lst ((nD ([fst59 (ns.getD 0 []) nodes.length (nx nodes 0)] ++ nodes.drop 1)).map D.lst)) (.lst [.lst [.tup [.str (ns.getD 0 []), .int ((nodes.length + 1 : Nat) : Int)]], .lst ((tw59 ni ns (nx nodes 0)).map tD)]) = some ((nD (twin ni ns nodes)).map D.lst) := by
    rw [cat_l (by rw [nds_len]; simp; omega)]
    simp [nD, twin, tD]
  refine sat_ob sheet0 (sat_ob sheet1 (sat_ob sheet2 (sat_ob sheet3 (sat_ob (c := (1 : Int)) rfl (sat_ob (c := ((nD nodes).map D.lst).drop 1) (slL_fr'' (n := 1)) (sat_ob h27 (sat_ob (c := .int ((nodes.length + 1 : Nat) : Int)) (by rw [sx_add]; exact cst (by omega)) (sat_ob h26 (sat_ok ?_)))))))))
  unfold sheetD NL
  rw [r0]
/-- a sheet of such a form is a sheet -/
theorem is_sheet59 (g : Good ns rows nodes) (f : Full ni ns nodes) : m_is_sheet (sheetD ni ns rows nodes) = .ok (.bl true) := by
  have n0 := g.lt 0 .zero
  obtain ⟨rl0, rb0⟩ := g.rl 0 .zero
  have hr : ∀ i, ReachT nodes i → Reach nodes i := fun i h => by
    induction h with
    | zero => exact .zero
    | step a b ih => exact .step ih b
  have w : Ws ni ns (rw_ rows 0) nodes := ⟨⟨g.nd, g.nl, rl0, rb0, n0, by have := f.n40; omega, fun i p hp => ⟨f.nm i p hp, g.ex i p hp⟩⟩, f.i4, f.o1, f.o7, f.wo, f.n40, f.nod⟩
  have v : Val ns (rw_ rows 0) nodes (rw_ rows) := ⟨rfl, fun i hi p hp => by
    obtain ⟨a, ha, e1, e2⟩ := g.ed i (hr i hi) p hp
    rw [e2, e1, g.nd.idxOf_getElem a ha]; rfl⟩
  obtain ⟨d, e, b, rfl, hb⟩ := is_sheetS w
  have : b = true := hb.mpr ⟨_, v⟩
  subst this
  exact e
theorem twin_right (g : Good ns rows nodes) (f : Full ni ns nodes) : m__law_twin_right (sheetD ni ns rows nodes) = .ok (.bl true) := by
  have n0 := g.lt 0 .zero
  have hlen : lenD (NL nodes) = some (.int (nodes.length : Nat)) := by unfold NL; rw [sx_len, nds_len]
  obtain ⟨gT, r0⟩ := twin_good g f
  refine of_sat ?_
  unfold m__law_twin_right
  refine sat_ob sheet3 (sat_ob hlen (sat_ob (sx_gt _ _) (sat_if (fun _ => sat_ok rfl) fun h => ?_)))
  have h38 : nodes.length ≤ 38 := Classical.byContradiction fun z => h (decide_eq_true (by omega))
  have fT := twin_full g f h38
  have hlT := twin_len (ni := ni) (ns := ns) n0
  have h0 : ixD (NL (twin ni ns nodes)) (.int 0) = some (.lst ((nx (twin ni ns nodes) 0).map tD)) := node_at (i := 0) (by omega)
  refine sat_rbe (twin_ok g f) (sat_rbe (is_sheet59 gT fT) (sat_ob (c := true) rfl (sat_if (fun z => by cases z) fun _ => ?_)))
  refine sat_ob sheet3 (sat_ob hlen (sat_ob sheet3 (sat_ob h0 (sat_ob (c := (nx (twin ni ns nodes) 0).map tD) rfl (sat_rbe (here_ok (ni := ni) (ns := ns) (rows := rows) (nodes := twin ni ns nodes) 0 (gT.el 0)) ?_)))))
  refine sat_ob (c := .int ((nodes.length + 1 : Nat) : Int)) (by rw [sx_add]; exact cst (by omega)) (sat_rbe (clash_ok gT) ?_)
  rw [clash_pr]
  refine sat_ob (p2_in (0, nodes.length + 1) _) (sat_ob (c := !(want0 ni ns nodes).isEmpty) ?_ (sat_ob (c := true) ?_ (sat_ok rfl)))
  · have := ne_dn2 (want0 ni ns nodes) []
    show neD (.lst (dn (want0 ni ns nodes))) (.lst (dn [])) = _
    rw [this]
    congr 1
    cases want0 ni ns nodes <;> simp
  · have h := twin_clp (rows := rows) g f
    have hb : decide (((0, nodes.length + 1) : Nat × Nat) ∈ prL ni ns (rowsT nodes.length rows) (twin ni ns nodes)) = !(want0 ni ns nodes).isEmpty := by
      rw [Bool.eq_iff_iff, decide_eq_true_iff, h]
      cases want0 ni ns nodes <;> simp
    rw [hb]
    cases (want0 ni ns nodes).isEmpty <;> rfl
/-- pairs that are all among others -/
theorem all_in {L M : List (Nat × Nat)} (h : ∀ p ∈ L, p ∈ M) {K : D → Res (Option D)} (hK : ∀ p ∈ L, K (p2D p) = ob (notInE (p2D p) (.lst (M.map p2D))) fun t => if t = true then .ok (some (p2D p)) else .ok none) : fmR (L.map p2D) K = .ok [] := by
  rw [fmR_xs (e := p2D) (g := fun _ => none) L fun p hp => ?_]
  · simp
  · rw [hK p hp]
    have : notInE (p2D p) (.lst (M.map p2D)) = some false := by
      unfold notInE
      rw [p2_in, decide_eq_true (h p hp)]; rfl
    rw [this]; rfl
theorem pr_mono {m n : Nat} (hmn : n ≤ m) (g : Good ns rows nodes) : ∀ p ∈ prL m ns rows nodes, p ∈ prL n ns rows nodes := fun p hp => by
  obtain ⟨h1, h2, h3, h4, o, ho, hn⟩ := (mem_pr g).mp hp
  refine (mem_pr g).mpr ⟨h1, h2, h3, h4, o, ?_, hn⟩
  obtain ⟨k, hk, e⟩ := List.getElem_of_mem ho
  rw [List.getElem_drop] at e
  rw [List.length_drop] at hk
  subst e
  exact List.mem_of_getElem? (i := m - n + k) (by rw [List.getElem?_drop, show n + (m - n + k) = m + k by omega, List.getElem?_eq_getElem (by omega)])
end
end W

namespace W
open PySem VL PySem.W
theorem law_true (ns0 : List Int) (hl0 : ns0.length ≤ 63) : m_law (.lst (ns0.map .int)) = .ok (.bl true) := by
  refine of_sat ?_
  unfold m_law
  have hls : lenD (.lst (ns0.map D.int)) = some (.int (ns0.length : Nat)) := by rw [sx_len, List.length_map]
  obtain ⟨T, hT, hT1, hT2⟩ : ∃ T : Nat, maxD (.int 1) (.int (if ((ns0.length : Nat) : Int) < 5 then (ns0.length : Nat) else 5)) = some (.int (T : Nat)) ∧ 1 ≤ T ∧ T ≤ 5 := by
    refine ⟨max 1 (min 5 ns0.length), ?_, by omega, by omega⟩
    show some (D.int (if _ > _ then _ else _)) = _
    congr 2
    repeat' split
    all_goals omega
  refine sat_ob hls (sat_ob (c := .int (if ((ns0.length : Nat) : Int) < 5 then (ns0.length : Nat) else 5)) rfl (sat_ob hT (sat_ob (show rngD (.int 0) (.int (T : Nat)) = some (rngL T) from rng_n (by omega)) ?_)))
  refine sat_rb (sat_forL0 (I := fun _ => True) trivial fun z d hd _ => ?_) fun o ⟨z, e, _⟩ => ?_
  · obtain ⟨kk, hkk⟩ := List.mem_iff_getElem?.mp hd
    obtain ⟨hk2, rfl⟩ := rngL_get hkk
    refine sat_rb (pool_ok ns0 hl0 kk (by omega)) fun r7 d7 => ?_
    refine sat_rb (psize_ok d7 (by decide)) fun r9 ⟨⟨most, em, hm1, hm2⟩, d9⟩ => ?_
    rw [em]
    refine sat_rb (psheet_ok d9 (by decide) hm2) fun r8 ⟨⟨ni, ns, rows, nodes, e8, g, f⟩, d8⟩ => ?_
    rw [e8]
    have n0 := g.lt 0 .zero
    have i4 := f.i4
    have o1 := f.o1
    have o7 := f.o7
    have n40 := f.n40
    refine sat_rbe (clash_ok g) (sat_rb (anew_ok d8 (by decide) g) fun r11 ⟨⟨M, nodes', e11, aN, gN⟩, d11⟩ => ?_)
    rw [e11]
    refine sat_ob (c := (sheetD ni ns (rowsA nodes rows M) nodes', D.lst (wD M))) rfl (sat_rbe (clash_ok gN) (sat_rbe (pairs_ok g (by omega) aN gN) ?_))
    have hsame : neD (.lst (clash ni ns (rowsA nodes rows M) nodes')) (.lst (clash ni ns (rowsA nodes rows M) nodes')) = some false := by rw [clash_pr]; exact p2_same _
    refine sat_ob hsame (sat_if (fun z => by cases z) fun _ => ?_)
    obtain ⟨b1, eb1, hb1⟩ := unst_isn (ni := ni) gN
    obtain ⟨b2, eb2, hb2⟩ := unst_isn (ni := ni) g
    have hbb : b1 = b2 := by
      rw [Bool.eq_iff_iff, hb1, hb2]
      exact aN.stdy g
    subst hbb
    refine sat_rbe (prog_ok gN) (sat_ob eb1 (sat_rbe (prog_ok g) (sat_ob eb2 (sat_ob (c := false) (by cases b1 <;> rfl) (sat_if (fun z => by cases z) fun _ => ?_)))))
    have l0 : lenD (.lst (dn (ns.take ni))) = some (.int (ni : Nat)) := by rw [sx_len, dn_len, List.length_take]; congr 2; omega
    have l1 : lenD (.lst (dn (ns.drop ni))) = some (.int ((ns.length - ni : Nat) : Int)) := by rw [sx_len, dn_len, List.length_drop]
    refine sat_ob sheet0 (sat_ob l0 (sat_ob sheet1 (sat_ob l1 (sat_ob (c := .int (ns.length : Nat)) (by rw [sx_add]; exact cst (by omega)) (sat_rb (pnames_ok d11 (by decide) (by omega)) fun r22 ⟨ms, e22, hml, md, hmw, d22⟩ => ?_)))))
    rw [e22]
    have g2 := g.named f md hml
    refine sat_rbe (named_ok g f md hml) (sat_rbe (clash_ok g2) ?_)
    rw [rn_clash g f md hml]
    have hs2 : neD (.lst (clash ni ns rows nodes)) (.lst (clash ni ns rows nodes)) = some false := by rw [clash_pr]; exact p2_same _
    refine sat_ob hs2 (sat_rbe (r := (false, ())) (of_sat (sat_if (fun z => by cases z) fun _ => sat_rbe (by_ok g f) (sat_ob clash_nil (sat_ob (c := false) (by cases (prL ni ns rows nodes).isEmpty <;> rfl) (sat_ok rfl))))) (sat_if (fun z => by cases z) fun _ => ?_))
    refine sat_ob sheet0 (sat_ob sheet1 (sat_ob (names_cat g.nl) (sat_ob sheet2 (sat_ob sheet3 ?_))))
    have hplain : D.tup [.lst [], .lst (dn ns), .str (rw_ rows 0), NL nodes] = sheetD 0 ns rows nodes := rfl
    refine sat_ob (c := .lst (dn ns)) rfl (sat_ob (c := .int (ns.length : Nat)) (by rw [sx_len, dn_len]) (sat_ob (sx_lt _ _) ?_))
    rw [hplain]
    have hL : (clash ni ns rows nodes) = (prL ni ns rows nodes).map p2D := clash_pr
    refine sat_rbe (r := (false, ())) (of_sat (sat_if (fun _ => sat_ob (c := (prL ni ns rows nodes).map p2D) (by rw [hL]; rfl) (sat_rbe (r := []) ?_ (sat_ob (c := false) rfl (sat_ok rfl)))) fun _ => sat_ok rfl)) (sat_if (fun z => by cases z) fun _ => ?_)
    · refine all_in (M := prL 0 ns rows nodes) (pr_mono (Nat.zero_le _) g) fun p _ => ?_
      show rb (m_clash_pairs (sheetD 0 ns rows nodes)) _ = _
      rw [clash_ok g, clash_pr]; rfl
    refine sat_rb (P := fun o : Fl Unit D => o = .nx ()) ?_ fun o ho => ?_
    · refine sat_ob sheet1 (sat_ob l1 (sat_ob (sx_gt _ _) (sat_rb (P := fun _ => True) (sat_if (fun _ => sat_ob sheet0 (sat_ob l0 (sat_ob (sx_lt _ _) (sat_ok trivial)))) fun _ => sat_ok trivial) fun p _ => sat_if (fun _ => ?_) fun _ => sat_ok rfl)))
      have c1 : catD (.lst (dn (ns.take ni))) (.lst ((dn (ns.drop ni)).take 1)) = some (dn (ns.take (ni + 1))) := by
        rw [cat_l (by rw [dn_len, List.length_take, List.length_take, dn_len]; omega)]
        unfold dn
        rw [← List.map_take, ← List.map_append, ← List.take_add]
      have c2 : (dn (ns.drop ni)).drop 1 = dn (ns.drop (ni + 1)) := by
        unfold dn
        rw [← List.map_drop, List.drop_drop]
      refine sat_ob sheet0 (sat_ob sheet1 (sat_ob (c := (1 : Int)) rfl (sat_ob (c := (dn (ns.drop ni)).take 1) (slL_to'' (n := 1)) (sat_ob c1 (sat_ob sheet1 (sat_ob (c := (1 : Int)) rfl (sat_ob (c := dn (ns.drop (ni + 1))) (by rw [← c2]; exact slL_fr'' (n := 1)) (sat_ob sheet2 (sat_ob sheet3 ?_)))))))))
      have hless : D.tup [.lst (dn (ns.take (ni + 1))), .lst (dn (ns.drop (ni + 1))), .str (rw_ rows 0), NL nodes] = sheetD (ni + 1) ns rows nodes := rfl
      rw [hless]
      refine sat_rbe (clash_ok g) ?_
      have hL2 : (clash (ni + 1) ns rows nodes) = (prL (ni + 1) ns rows nodes).map p2D := clash_pr
      rw [hL2, hL]
      refine sat_ob (c := (prL (ni + 1) ns rows nodes).map p2D) rfl (sat_rbe (r := []) ?_ (sat_ob (c := false) rfl (sat_if (fun z => by cases z) fun _ => sat_ok rfl)))
      exact all_in (M := prL ni ns rows nodes) (pr_mono (by omega) g) fun p _ => rfl
    · subst ho
      rw [Fl.on]
      exact sat_rbe (twin_right g f) (sat_ob (c := true) rfl (sat_if (fun z => by cases z) fun _ => sat_ok ⟨_, rfl, trivial⟩))
  · subst e
    exact sat_ok rfl
end W

open PySem PySem.W PyProof.Rows
set_option maxHeartbeats 0 in
theorem PySem.Challenge.cw_anydelay_k59_whole_clashes_otherwise_holds : PySem.Challenge.rw_anydelay_k59_whole_clashes_otherwise.Holds := by
  w_on; o_law; k_head; (case hw => w_witness2)
  k_fill
  refine VL.walk_ofE (l := PySem.Challenge.rw_anydelay_k59_whole_clashes_otherwise) (k := 6) (mir := fun a => W.m_law a) rfl rfl ⟨rfl, by decide, by decide⟩ (fun w h Y => PySem.W.kIn_of Y) ?F (fun w => by rfl) W.law_true
  case F =>
    intro w mg fa h KX G hmg
    refine' W.all_mk KX G hmg ?a0 ?l0 ?c0 ?k0 ?a1 ?l1 ?c1 ?k1 ?a2 ?l2 ?c2 ?k2 ?a3 ?l3 ?c3 ?k3 ?a4 ?l4 ?c4 ?k4 ?a5 ?l5 ?c5 ?k5 ?a6 ?l6 ?c6 ?k6 ?a7 ?l7 ?c7 ?k7 ?a8 ?l8 ?c8 ?k8 ?a9 ?l9 ?c9 ?k9 ?a10 ?l10 ?c10 ?k10 ?a11 ?l11 ?c11 ?k11 ?a12 ?l12 ?c12 ?k12 ?a13 ?l13 ?c13 ?k13 ?a14 ?l14 ?c14 ?k14 ?a15 ?l15 ?c15 ?k15 ?a16 ?l16 ?c16 ?k16 ?a17 ?l17 ?c17 ?k17 ?a18 ?l18 ?c18 ?k18 ?a19 ?l19 ?c19 ?k19 ?a20 ?l20 ?c20 ?k20 ?a21 ?l21 ?c21 ?k21 ?a22 ?l22 ?c22 ?k22 ?a23 ?l23 ?c23 ?k23 ?a24 ?l24 ?c24 ?k24 ?a25 ?l25 ?c25 ?k25 ?a26 ?l26 ?c26 ?k26 ?z_bool ?z_dict ?z_enumerate ?z_int ?z_isinstance ?z_len ?z_list ?z_max ?z_min ?z_range ?z_set ?z_sorted ?z_str ?z_tuple ?z_zip ?cg_LETTERS ?cg_MOST_NODES
    (case a0 => k_is)
    (case l0 => k_is)
    (case c0 => k_is)
    (case k0 => k_is)
    (case a1 => k_is)
    (case l1 => k_is)
    (case c1 => k_is)
    (case k1 => k_is)
    (case a2 => k_is)
    (case l2 => k_is)
    (case c2 => k_is)
    (case k2 => k_is)
    (case a3 => k_is)
    (case l3 => k_is)
    (case c3 => k_is)
    (case k3 => k_is)
    (case a4 => k_is)
    (case l4 => k_is)
    (case c4 => k_is)
    (case k4 => k_is)
    (case a5 => k_is)
    (case l5 => k_is)
    (case c5 => k_is)
    (case k5 => k_is)
    (case a6 => k_is)
    (case l6 => k_is)
    (case c6 => k_is)
    (case k6 => k_is)
    (case a7 => k_is)
    (case l7 => k_is)
    (case c7 => k_is)
    (case k7 => k_is)
    (case a8 => k_is)
    (case l8 => k_is)
    (case c8 => k_is)
    (case k8 => k_is)
    (case a9 => k_is)
    (case l9 => k_is)
    (case c9 => k_is)
    (case k9 => k_is)
    (case a10 => k_is)
    (case l10 => k_is)
    (case c10 => k_is)
    (case k10 => k_is)
    (case a11 => k_is)
    (case l11 => k_is)
    (case c11 => k_is)
    (case k11 => k_is)
    (case a12 => k_is)
    (case l12 => k_is)
    (case c12 => k_is)
    (case k12 => k_is)
    (case a13 => k_is)
    (case l13 => k_is)
    (case c13 => k_is)
    (case k13 => k_is)
    (case a14 => k_is)
    (case l14 => k_is)
    (case c14 => k_is)
    (case k14 => k_is)
    (case a15 => k_is)
    (case l15 => k_is)
    (case c15 => k_is)
    (case k15 => k_is)
    (case a16 => k_is)
    (case l16 => k_is)
    (case c16 => k_is)
    (case k16 => k_is)
    (case a17 => k_is)
    (case l17 => k_is)
    (case c17 => k_is)
    (case k17 => k_is)
    (case a18 => k_is)
    (case l18 => k_is)
    (case c18 => k_is)
    (case k18 => k_is)
    (case a19 => k_is)
    (case l19 => k_is)
    (case c19 => k_is)
    (case k19 => k_is)
    (case a20 => k_is)
    (case l20 => k_is)
    (case c20 => k_is)
    (case k20 => k_is)
    (case a21 => k_is)
    (case l21 => k_is)
    (case c21 => k_is)
    (case k21 => k_is)
    (case a22 => k_is)
    (case l22 => k_is)
    (case c22 => k_is)
    (case k22 => k_is)
    (case a23 => k_is)
    (case l23 => k_is)
    (case c23 => k_is)
    (case k23 => k_is)
    (case a24 => k_is)
    (case l24 => k_is)
    (case c24 => k_is)
    (case k24 => k_is)
    (case a25 => k_is)
    (case l25 => k_is)
    (case c25 => k_is)
    (case k25 => k_is)
    (case a26 => k_is)
    (case l26 => k_is)
    (case c26 => k_is)
    (case k26 => k_is)
    (case z_bool => k_is)
    (case z_dict => k_is)
    (case z_enumerate => k_is)
    (case z_int => k_is)
    (case z_isinstance => k_is)
    (case z_len => k_is)
    (case z_list => k_is)
    (case z_max => k_is)
    (case z_min => k_is)
    (case z_range => k_is)
    (case z_set => k_is)
    (case z_sorted => k_is)
    (case z_str => k_is)
    (case z_tuple => k_is)
    (case z_zip => k_is)
    (case cg_LETTERS => k_is)
    (case cg_MOST_NODES => k_is)

